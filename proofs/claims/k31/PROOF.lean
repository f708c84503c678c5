import PyProof.Rows.All
import Wide.All
import OpenK.AllK
import Wide.FinOn
import HandS.ForMost
import KE.KDictCopyH
import HandS.TupAny
import HandS.WideBits
import HandS.IsInst
import HandS.StrMore
import PySem.Challenge.RW_ownanswer_k31_states_of_a_stream
set_option Elab.async false
set_option linter.all false
set_option maxRecDepth 100000
set_option maxHeartbeats 4000000
namespace Mir
open PySem PySem.Spec L2

/-! ### values, objects, results -/
inductive D where
  | non | bl (b : Bool) | int (i : Int) | str (x : Str) | tup (ds : List D) | ref (n : Nat) | ty (n : String) | wl (ds : List D)
instance : Inhabited D := ⟨.non⟩
inductive Ob where
  | lst (ds : List D)
  | dic (kvs : List (Key × D))
  | dit (kvs : List (List Key × D))
  | dil (kvs : List (Leaf × D))
  | ins (C : Str) (fs : List (Str × D))
instance : Inhabited Ob := ⟨.lst []⟩
abbrev MH := List Ob
inductive Res (α : Type) where
  | ok (a : α) (h : MH)
  | ex (c : Str) (fs : List (Str × D)) (h : MH)
  | no
def Res.bind {α β : Type} (r : Res α) (f : α → MH → Res β) : Res β := match r with
  | .ok a h => f a h
  | .ex c fs h => .ex c fs h
  | .no => .no
abbrev Ro := List (Option D)
abbrev ME := Ro → MH → Res D
abbrev MT := Ro → MH → Res Bool
abbrev MA := Ro → MH → Res (List D)
inductive Fl where
  | nx | bk | ct | rt (d : D)
abbrev MS := Ro → MH → Res (Fl × Ro)

/-! ### how they lie in the heap -/
/-- a list that is read, never written: the script, a list of the module -/
def RoL (K : PySem.W.Frag) (H : Hp) (a : Addr) (xs : List V) : Prop :=
  (∃ o, H a = some (.frz o (.lst xs))) ∨
    ∃ (o : Obj) (its : Array Value) (n : Nat), K.lookup a = some o ∧ o.cls = .type "list" ∧ o.dict = none ∧ o.data = .seq its n ∧ its.size ≤ sizeLine ∧ Vals xs its.toList
theorem RoL.sq {K : PySem.W.Frag} {H : Hp} {a : Addr} {xs : List V} (h : RoL K H a xs) : SqL K H a xs := h.elim (fun ⟨o, e⟩ => .inl (.inr ⟨o, e⟩)) .inr
mutual
inductive Rep (K : PySem.W.Frag) (H : Hp) (ι : List Addr) : D → V → Prop
  | non : Rep K H ι .non .non
  | bl (b : Bool) : Rep K H ι (.bl b) (.bl b)
  | int (i : Int) : Rep K H ι (.int i) (.int i)
  | str (x : Str) : Rep K H ι (.str x) (.str x)
  | tup {a : Addr} {xs : List V} {ds : List D} : SqT K H a xs → Reps K H ι ds xs → Rep K H ι (.tup ds) (.ref a)
  | ref {n : Nat} {a : Addr} : ι[n]? = some a → Rep K H ι (.ref n) (.ref a)
  | ty (n : String) : Rep K H ι (.ty n) (.ty n)
  | wl {a : Addr} {xs : List V} {ds : List D} : RoL K H a xs → Reps K H ι ds xs → Rep K H ι (.wl ds) (.ref a)
inductive Reps (K : PySem.W.Frag) (H : Hp) (ι : List Addr) : List D → List V → Prop
  | nil : Reps K H ι [] []
  | cons {d : D} {v : V} {ds : List D} {vs : List V} : Rep K H ι d v → Reps K H ι ds vs → Reps K H ι (d :: ds) (v :: vs)
end
structure Ext (ι : List Addr) (H : Hp) (ι' : List Addr) (H' : Hp) : Prop where
  pre : ∃ l, ι' = ι ++ l
  tup : ∀ a xs, H a = some (.tup xs) → H' a = some (.tup xs)
  frz : ∀ a o u, H a = some (.frz o u) → H' a = some (.frz o u)
section
variable {K : PySem.W.Frag} {H H' H'' : Hp} {ι ι' ι'' : List Addr}
theorem Ext.refl : Ext ι H ι H := ⟨⟨[], by simp⟩, fun _ _ h => h, fun _ _ _ h => h⟩
theorem Ext.trans (a : Ext ι H ι' H') (b : Ext ι' H' ι'' H'') : Ext ι H ι'' H'' := by
  obtain ⟨l, rfl⟩ := a.pre
  obtain ⟨m, rfl⟩ := b.pre
  exact ⟨⟨l ++ m, by simp⟩, fun x xs h => b.tup x xs (a.tup x xs h), fun x o u h => b.frz x o u (a.frz x o u h)⟩
theorem Ext.get (e : Ext ι H ι' H') {n : Nat} {a : Addr} (h : ι[n]? = some a) : ι'[n]? = some a := by
  obtain ⟨l, rfl⟩ := e.pre
  rw [List.getElem?_append_left (List.getElem?_eq_some_iff.mp h).1]; exact h
theorem Ext.sqt (e : Ext ι H ι' H') {a : Addr} {xs : List V} (h : SqT K H a xs) : SqT K H' a xs := by
  rcases h with (h | ⟨o, h⟩) | h
  · exact .inl (.inl (e.tup _ _ h))
  · exact .inl (.inr ⟨o, e.frz _ _ _ h⟩)
  · exact .inr h
theorem Ext.rol (e : Ext ι H ι' H') {a : Addr} {xs : List V} (h : RoL K H a xs) : RoL K H' a xs := h.elim (fun ⟨o, q⟩ => .inl ⟨o, e.frz _ _ _ q⟩) .inr
mutual
theorem Rep.mono (e : Ext ι H ι' H') : ∀ {d : D} {v : V}, Rep K H ι d v → Rep K H' ι' d v
  | _, _, .non => .non
  | _, _, .bl b => .bl b
  | _, _, .int b => .int b
  | _, _, .str b => .str b
  | _, _, .tup s r => .tup (e.sqt s) (Reps.mono e r)
  | _, _, .ref h => .ref (e.get h)
  | _, _, .ty n => .ty n
  | _, _, .wl s r => .wl (e.rol s) (Reps.mono e r)
theorem Reps.mono (e : Ext ι H ι' H') : ∀ {d : List D} {v : List V}, Reps K H ι d v → Reps K H' ι' d v
  | _, _, .nil => .nil
  | _, _, .cons r t => .cons (Rep.mono e r) (Reps.mono e t)
end
theorem Reps.length : ∀ {ds : List D} {vs : List V}, Reps K H ι ds vs → ds.length = vs.length
  | _, _, .nil => rfl
  | _, _, .cons _ t => congrArg (· + 1) (Reps.length t)
theorem Reps.get : ∀ {ds : List D} {vs : List V} {i : Nat} {d : D}, Reps K H ι ds vs → ds[i]? = some d → ∃ v, vs[i]? = some v ∧ Rep K H ι d v
  | _, _, _, _, .nil, e => by simp at e
  | _, _, 0, _, .cons r _, e => by simp at e; subst e; exact ⟨_, rfl, r⟩
  | _, _, i + 1, x, .cons _ t, e => by
    obtain ⟨u, h1, h2⟩ := Reps.get (i := i) t (by simpa using e)
    exact ⟨u, by simpa using h1, h2⟩
theorem Reps.getV : ∀ {ds : List D} {vs : List V} {i : Nat} {v : V}, Reps K H ι ds vs → vs[i]? = some v → ∃ d, ds[i]? = some d ∧ Rep K H ι d v
  | _, _, _, _, .nil, e => by simp at e
  | _, _, 0, _, .cons r _, e => by simp at e; subst e; exact ⟨_, rfl, r⟩
  | _, _, i + 1, x, .cons _ t, e => by
    obtain ⟨u, h1, h2⟩ := Reps.getV (i := i) t (by simpa using e)
    exact ⟨u, by simpa using h1, h2⟩
theorem Reps.append : ∀ {ds es : List D} {vs us : List V}, Reps K H ι ds vs → Reps K H ι es us → Reps K H ι (ds ++ es) (vs ++ us)
  | _, _, _, _, .nil, s => s
  | _, _, _, _, .cons r t, s => .cons r (Reps.append t s)
theorem Reps.set {d : D} {v : V} (r : Rep K H ι d v) : ∀ {ds : List D} {vs : List V} (i : Nat), Reps K H ι ds vs → Reps K H ι (ds.set i d) (vs.set i v)
  | _, _, _, .nil => .nil
  | _, _, 0, .cons _ t => .cons r t
  | _, _, i + 1, .cons q t => .cons q (Reps.set r i t)
theorem Reps.take : ∀ {ds : List D} {vs : List V} (n : Nat), Reps K H ι ds vs → Reps K H ι (ds.take n) (vs.take n)
  | _, _, 0, _ => .nil
  | _, _, _ + 1, .nil => .nil
  | _, _, n + 1, .cons r t => .cons r (Reps.take n t)
theorem Reps.drop : ∀ {ds : List D} {vs : List V} (n : Nat), Reps K H ι ds vs → Reps K H ι (ds.drop n) (vs.drop n)
  | _, _, 0, r => r
  | _, _, _ + 1, .nil => .nil
  | _, _, n + 1, .cons _ t => Reps.drop n t
end

structure Clm where
  c : Str → Option Addr
  P : Program
  w : World
/-- a dict with keys of any flat sort -/
def BD (P : Program) (w : World) (a : Addr) (vs : List (Leaf × V)) (h : Heap) : Prop :=
  vs.length ≤ sizeLine ∧ (a == sysModules) = false ∧ ∃ us, KV vs us ∧ h.DictOf (leafKind P w) a us
def bO (P : Program) (w : World) (a : Addr) (vs : List (Leaf × V)) : HO := .ext (BD P w a vs)
abbrev Prs (K : PySem.W.Frag) (H : Hp) (ι : List Addr) {κ : Type} : List (κ × D) → List (κ × V) → Prop := Paired fun p q => p.1 = q.1 ∧ Rep K H ι p.2 q.2
theorem Prs.mono {K : PySem.W.Frag} {H H' : Hp} {ι ι' : List Addr} (e : Ext ι H ι' H') {κ : Type} : ∀ {xs : List (κ × D)} {ys : List (κ × V)}, Prs K H ι xs ys → Prs K H' ι' xs ys
  | _, _, .nil => .nil
  | _, _, .cons r t => .cons ⟨r.1, r.2.mono e⟩ (Prs.mono e t)
section
variable (K : PySem.W.Frag) (cl : Clm)
def ObR (H : Hp) (ι : List Addr) (a : Addr) : Ob → Prop
  | .lst ds => ∃ xs, H a = some (.lst xs) ∧ Reps K H ι ds xs
  | .dic kvs => ∃ vs, H a = some (.dK vs) ∧ Prs K H ι kvs vs
  | .dit kvs => ∃ vs, H a = some (.dT vs) ∧ Prs K H ι kvs vs
  | .dil kvs => ∃ vs, H a = some (bO cl.P cl.w a vs) ∧ Prs K H ι kvs vs
  | .ins C fs => ∃ Ca dx vs, cl.c C = some Ca ∧ H a = some (.ins Ca dx vs) ∧ Prs K H ι fs vs
structure HR (H : Hp) (ι : List Addr) (mh : MH) : Prop where
  len : ι.length = mh.length
  nd : ι.Nodup
  ob : ∀ (n : Nat) (a : Addr) (o : Ob), ι[n]? = some a → mh[n]? = some o → ObR K cl H ι a o
def SR (H : Hp) (ι : List Addr) (ρ : Ro) (σ : St) : Prop := ρ.length = σ.length ∧ ∀ (i : Nat) (d : D), ρ[i]? = some (some d) → ∃ v, σ[i]? = some (some v) ∧ Rep K H ι d v
end
section
variable {K : PySem.W.Frag} {cl : Clm} {H H' : Hp} {ι ι' : List Addr} {mh mh' : MH} {a p : Addr} {o : Ob} {ρ : Ro} {σ : St}
theorem SR.mono (e : Ext ι H ι' H') (h : SR K H ι ρ σ) : SR K H' ι' ρ σ := ⟨h.1, fun i d hd => let ⟨v, q, r⟩ := h.2 i d hd; ⟨v, q, r.mono e⟩⟩
theorem SR.set {d : D} {v : V} (r : Rep K H ι d v) (h : SR K H ι ρ σ) (i : Nat) : SR K H ι (ρ.set i (some d)) (σ.set i (some v)) := by
  refine ⟨by simp [h.1], fun j e he => ?_⟩
  rw [List.getElem?_set] at he ⊢
  by_cases hj : i = j
  · subst hj
    rw [if_pos rfl] at he ⊢
    by_cases hl : i < ρ.length
    · rw [if_pos hl] at he; rw [if_pos (h.1 ▸ hl)]; cases he; exact ⟨v, rfl, r⟩
    · rw [if_neg hl] at he; cases he
  · rw [if_neg hj] at he ⊢; exact h.2 j e he
theorem ObR.mono (e : Ext ι H ι' H') (hk : ∀ u, H a = some u → H' a = some u) (h : ObR K cl H ι a o) : ObR K cl H' ι' a o := by
  cases o with
  | lst ds => obtain ⟨xs, h1, h2⟩ := h; exact ⟨xs, hk _ h1, h2.mono e⟩
  | dic ds => obtain ⟨xs, h1, h2⟩ := h; exact ⟨xs, hk _ h1, h2.mono e⟩
  | dit ds => obtain ⟨xs, h1, h2⟩ := h; exact ⟨xs, hk _ h1, h2.mono e⟩
  | dil ds => obtain ⟨xs, h1, h2⟩ := h; exact ⟨xs, hk _ h1, h2.mono e⟩
  | ins C fs => obtain ⟨Ca, dx, xs, h0, h1, h2⟩ := h; exact ⟨Ca, dx, xs, h0, hk _ h1, h2.mono e⟩
theorem ObR.live (h : ObR K cl H ι a o) : ∃ u, H a = some u ∧ ∀ xs, u ≠ .tup xs := by
  cases o with
  | lst ds => obtain ⟨xs, h1, h2⟩ := h; exact ⟨_, h1, fun _ z => nomatch z⟩
  | dic ds => obtain ⟨xs, h1, h2⟩ := h; exact ⟨_, h1, fun _ z => nomatch z⟩
  | dit ds => obtain ⟨xs, h1, h2⟩ := h; exact ⟨_, h1, fun _ z => nomatch z⟩
  | dil ds => obtain ⟨xs, h1, h2⟩ := h; exact ⟨_, h1, fun _ z => nomatch z⟩
  | ins C fs => obtain ⟨Ca, dx, xs, h0, h1, h2⟩ := h; exact ⟨_, h1, fun _ z => nomatch z⟩
theorem HR.at (h : HR K cl H ι mh) {n : Nat} (e : mh[n]? = some o) : ∃ a, ι[n]? = some a ∧ ObR K cl H ι a o := by
  have hl : n < ι.length := by rw [h.len]; exact (List.getElem?_eq_some_iff.mp e).1
  exact ⟨ι[n], List.getElem?_eq_getElem hl, h.ob n _ o (List.getElem?_eq_getElem hl) e⟩
theorem HR.live (h : HR K cl H ι mh) {n : Nat} (e : ι[n]? = some a) : ∃ u, H a = some u ∧ ∀ xs, u ≠ .tup xs := by
  have hl : n < mh.length := by rw [← h.len]; exact (List.getElem?_eq_some_iff.mp e).1
  exact (h.ob n a _ e (List.getElem?_eq_getElem hl)).live
theorem HR.fresh (h : HR K cl H ι mh) (hp : H p = none) : p ∉ ι := fun hm => by
  obtain ⟨n, hn⟩ := List.getElem?_of_mem hm
  obtain ⟨u, hu, _⟩ := h.live hn
  rw [hp] at hu; cases hu
theorem Ext.new {u : HO} (hp : H p = none) (l : List Addr) : Ext ι H (ι ++ l) (upd H p u) :=
  ⟨⟨l, rfl⟩, fun b xs h => by rw [upd_ne (ne_of_none h hp)]; exact h, fun b ob xs h => by rw [upd_ne (ne_of_none h hp)]; exact h⟩
theorem Ext.new0 {u : HO} (hp : H p = none) : Ext ι H ι (upd H p u) := by
  have := Ext.new (ι := ι) (u := u) hp []
  rwa [List.append_nil] at this
/-- a new object that the mirror's heap does not hold -/
theorem HR.side {u : HO} (h : HR K cl H ι mh) (hp : H p = none) : HR K cl (upd H p u) ι mh :=
  ⟨h.len, h.nd, fun n a o h1 h2 => (h.ob n a o h1 h2).mono (Ext.new0 hp) fun w hw => by rw [upd_ne (ne_of_none hw hp)]; exact hw⟩
/-- a new object that it holds -/
theorem HR.new {u : HO} (h : HR K cl H ι mh) (hp : H p = none) (ho : ObR K cl (upd H p u) (ι ++ [p]) p o) : HR K cl (upd H p u) (ι ++ [p]) (mh ++ [o]) := by
  refine ⟨by simp [h.len], ?_, fun n a ob h1 h2 => ?_⟩
  · rw [List.nodup_append]
    exact ⟨h.nd, by simp, fun x hx y hy z => by rw [List.mem_singleton] at hy; subst z; subst hy; exact h.fresh hp hx⟩
  · by_cases hn : n < ι.length
    · rw [List.getElem?_append_left hn] at h1
      rw [List.getElem?_append_left (by rw [← h.len]; exact hn)] at h2
      exact (h.ob n a ob h1 h2).mono (Ext.new hp [p]) fun w hw => by rw [upd_ne (ne_of_none hw hp)]; exact hw
    · have e : n = ι.length := by
        have := (List.getElem?_eq_some_iff.mp h1).1
        simp only [List.length_append, List.length_cons, List.length_nil] at this
        omega
      subst e
      simp at h1
      rw [h.len] at h2
      simp at h2
      subst h1; subst h2
      exact ho
theorem Ext.set {u w : HO} (hu : H a = some w) (h1 : ∀ xs, w ≠ .tup xs) (h2 : ∀ ob xs, w ≠ .frz ob xs) : Ext ι H ι (upd H a u) :=
  ⟨⟨[], by simp⟩, fun b xs h => by
    by_cases hb : b = a
    · subst hb; rw [hu] at h; cases h; exact absurd rfl (h1 xs)
    · rw [upd_ne hb]; exact h, fun b ob xs h => by
    by_cases hb : b = a
    · subst hb; rw [hu] at h; cases h; exact absurd rfl (h2 ob xs)
    · rw [upd_ne hb]; exact h⟩
/-- an object that it holds is changed -/
theorem HR.set {u : HO} {n : Nat} (h : HR K cl H ι mh) (hn : ι[n]? = some a) (e : Ext ι H ι (upd H a u)) (ho : ObR K cl (upd H a u) ι a o) : HR K cl (upd H a u) ι (mh.set n o) := by
  refine ⟨by simp [h.len], h.nd, fun m b ob h1 h2 => ?_⟩
  rw [List.getElem?_set] at h2
  by_cases hm : n = m
  · subst hm
    rw [if_pos rfl] at h2
    rw [hn] at h1; cases h1
    split at h2
    · cases h2; exact ho
    · cases h2
  · rw [if_neg hm] at h2
    have hb : b ≠ a := fun z => by
      subst z
      have l1 := (List.getElem?_eq_some_iff.mp h1)
      have l2 := (List.getElem?_eq_some_iff.mp hn)
      exact hm ((List.getElem_inj (h₀ := l2.1) (h₁ := l1.1) h.nd).mp (l2.2.trans l1.2.symm))
    exact (h.ob m b ob h1 h2).mono e fun w hw => by rw [upd_ne hb]; exact hw
end

/-! ### results against the heap -/
section
variable (K : PySem.W.Frag) (cl : Clm) (E : XK)
/-- an exception as it lies: its class, its own dict -/
def ExR (H : Hp) (ι : List Addr) (c : Str) (fs : List (Str × D)) (cv : Value) (od : Option Addr) : Prop :=
  ∃ Ca, cl.c c = some Ca ∧ cv = .ref Ca ∧ ((fs = [] ∧ od = none) ∨ ∃ d vs, od = some d ∧ H d = some (.xd vs) ∧ Prs K H ι fs vs)
def okR {α : Type} (ι : List Addr) (H : Hp) (r : Res α) (P : α → Hp → List Addr → Prop) : Prop := match r with
  | .ok a mh' => ∀ H' ι', HR K cl H' ι' mh' → Ext ι H ι' H' → P a H' ι'
  | .ex c fs mh' => ∀ H' ι' cv od, HR K cl H' ι' mh' → Ext ι H ι' H' → ExR K cl H' ι' c fs cv od → E cv od H'
  | .no => False
def pE (Q : VK) (d : D) (H' : Hp) (ι' : List Addr) : Prop := ∀ v, Rep K H' ι' d v → Q v H'
def pT (Q : Bool → Hp → Prop) (b : Bool) (H' : Hp) (_ : List Addr) : Prop := Q b H'
def pA (Q : List V → Hp → Prop) (ds : List D) (H' : Hp) (ι' : List Addr) : Prop := ∀ vs, Reps K H' ι' ds vs → Q vs H'
def pFl (Dn : Ends) (ι' : List Addr) (σ' : St) (H' : Hp) : Fl → Prop
  | .nx => Dn.nx σ' H'
  | .bk => Dn.bk σ' H'
  | .ct => Dn.ct σ' H'
  | .rt d => ∀ v, Rep K H' ι' d v → Dn.rt v H'
def pS (Dn : Ends) (r : Fl × Ro) (H' : Hp) (ι' : List Addr) : Prop := ∀ σ', SR K H' ι' r.2 σ' → pFl K Dn ι' σ' H' r.1
/-- the mirror's reading -/
def tM (m : ME) : TE := fun σ H Q => ∃ ρ mh ι, SR K H ι ρ σ ∧ HR K cl H ι mh ∧ okR K cl E ι H (m ρ mh) (pE K Q)
def tMT (m : MT) : TT := fun σ H Q => ∃ ρ mh ι, SR K H ι ρ σ ∧ HR K cl H ι mh ∧ okR K cl E ι H (m ρ mh) (pT Q)
def tMA (m : MA) : TA := fun σ H Q => ∃ ρ mh ι, SR K H ι ρ σ ∧ HR K cl H ι mh ∧ okR K cl E ι H (m ρ mh) (pA K Q)
def tMS (m : MS) : TS := fun Dn σ H => ∃ ρ mh ι, SR K H ι ρ σ ∧ HR K cl H ι mh ∧ okR K cl E ι H (m ρ mh) (pS K Dn)
end
section
variable {K : PySem.W.Frag} {cl : Clm} {E : XK} {H H' : Hp} {ι ι' : List Addr} {α β : Type}
theorem okR.weak {r : Res α} {P : α → Hp → List Addr → Prop} (h : okR K cl E ι H r P) (e : Ext ι H ι' H') : okR K cl E ι' H' r P := by
  cases r with
  | ok a mh => exact fun H2 ι2 h2 e2 => h H2 ι2 h2 (e.trans e2)
  | ex c fs mh => exact fun H2 ι2 cv od h2 e2 x => h H2 ι2 cv od h2 (e.trans e2) x
  | no => exact h
theorem okR.imp {r : Res α} {P P' : α → Hp → List Addr → Prop} (h : okR K cl E ι H r P) (hp : ∀ a H' ι', Ext ι H ι' H' → P a H' ι' → P' a H' ι') : okR K cl E ι H r P' := by
  cases r with
  | ok a mh => exact fun H2 ι2 h2 e2 => hp _ _ _ e2 (h H2 ι2 h2 e2)
  | ex c fs mh => exact h
  | no => exact h
theorem okR.bnd {r : Res α} {f : α → MH → Res β} {P : β → Hp → List Addr → Prop} (h : okR K cl E ι H (r.bind f) P) :
    okR K cl E ι H r fun a H' ι' => ∃ mh', HR K cl H' ι' mh' ∧ okR K cl E ι' H' (f a mh') P := by
  cases r with
  | ok a mh => exact fun H2 ι2 h2 e2 => ⟨mh, h2, okR.weak h e2⟩
  | ex c fs mh => exact h
  | no => exact h
/-- the end of a rule: a value at hand -/
theorem okR.use {a : α} {mh : MH} {P : α → Hp → List Addr → Prop} (h : okR K cl E ι H (.ok a mh) P) (hr : HR K cl H' ι' mh) (e : Ext ι H ι' H') : P a H' ι' := h H' ι' hr e
end
section
variable {X : Cx}
theorem _root_.L2.PE.imp {e : Expr} {t t' : TE} (h : PE X e t) (i : ∀ σ H Q, t' σ H Q → t σ H Q) : PE X e t' := ⟨fun pins s σ H Q I q => h.run pins s σ H Q I (i _ _ _ q)⟩
theorem _root_.L2.PT.imp {e : Expr} {t t' : TT} (h : PT X e t) (i : ∀ σ H Q, t' σ H Q → t σ H Q) : PT X e t' := ⟨fun pins s σ H Q I q => h.run pins s σ H Q I (i _ _ _ q)⟩
theorem _root_.L2.PA.imp {e : List Expr} {t t' : TA} (h : PA X e t) (i : ∀ σ H Q, t' σ H Q → t σ H Q) : PA X e t' := ⟨fun pos pins s σ H Q I q => h.run pos pins s σ H Q I (i _ _ _ q)⟩
theorem _root_.L2.PS.imp {e : Stmt} {t t' : TS} (h : PS X e t) (i : ∀ D σ H, t' D σ H → t D σ H) : PS X e t' := ⟨fun pins s σ H D I q => h.run pins s σ H D I (i _ _ _ q)⟩
theorem _root_.L2.PSs.imp {e : List Stmt} {t t' : TS} (h : PSs X e t) (i : ∀ D σ H, t' D σ H → t D σ H) : PSs X e t' := ⟨fun pins s σ H D I q => h.run pins s σ H D I (i _ _ _ q)⟩
end
end Mir
namespace Mir
open PySem PySem.Spec L2

/-! ### the mirror's words for expressions -/
def varM (i : Nat) : ME := fun ρ h => match ρ[i]? with | some (some d) => .ok d h | _ => .no
def cM (d : D) : ME := fun _ h => .ok d h
def noM : ME := fun _ _ => .no
def noT : MT := fun _ _ => .no
def binM (g : D → D → MH → Res D) (a b : ME) : ME := fun ρ h => (a ρ h).bind fun x h => (b ρ h).bind fun y h => g x y h
def unM (g : D → MH → Res D) (a : ME) : ME := fun ρ h => (a ρ h).bind fun x h => g x h
def testM (a : ME) : MT := fun ρ h => (a ρ h).bind fun x h => match x with | .bl b => .ok b h | _ => .no
def boolM (t : MT) : ME := fun ρ h => (t ρ h).bind fun b h => .ok (.bl b) h
def andT (a b : MT) : MT := fun ρ h => (a ρ h).bind fun c h => if c = true then b ρ h else .ok false h
def orT (a b : MT) : MT := fun ρ h => (a ρ h).bind fun c h => if c = true then .ok true h else b ρ h
def notT (a : MT) : MT := fun ρ h => (a ρ h).bind fun c h => .ok (!c) h
def andM (a b : ME) : ME := fun ρ h => (a ρ h).bind fun x h => match x with | .bl true => b ρ h | .bl false => .ok (.bl false) h | _ => .no
def orM (a b : ME) : ME := fun ρ h => (a ρ h).bind fun x h => match x with | .bl true => .ok (.bl true) h | .bl false => b ρ h | _ => .no
def notM (a : ME) : ME := fun ρ h => (a ρ h).bind fun x h => match x with | .bl b => .ok (.bl (!b)) h | _ => .no
def ifM (t : MT) (a b : ME) : ME := fun ρ h => (t ρ h).bind fun c h => if c = true then a ρ h else b ρ h
def chainM (g g' : D → D → MH → Res D) (a b c : ME) : ME := fun ρ h => (a ρ h).bind fun x h => (b ρ h).bind fun y h => (g x y h).bind fun z h =>
  match z with | .bl true => (c ρ h).bind fun w h => g' y w h | .bl false => .ok (.bl false) h | _ => .no
def nilM : MA := fun _ h => .ok [] h
def consM (a : ME) (r : MA) : MA := fun ρ h => (a ρ h).bind fun x h => (r ρ h).bind fun xs h => .ok (x :: xs) h
def tupM (a : MA) : ME := fun ρ h => (a ρ h).bind fun xs h => if xs.length ≤ sizeLine then .ok (.tup xs) h else .no
def lstM (a : MA) : ME := fun ρ h => (a ρ h).bind fun xs h => if xs.length ≤ sizeLine then .ok (.ref h.length) (h ++ [.lst xs]) else .no
def callM (g : List D → MH → Res D) (a : MA) : ME := fun ρ h => (a ρ h).bind fun xs h => g xs h

section
variable {K : PySem.W.Frag} {cl : Clm} {E : XK} {H : Hp} {ι : List Addr} {ρ : Ro} {σ : L2.St} {mh : MH} {α : Type}
theorem step {m : ME} {f : D → MH → Res α} {P : α → Hp → List Addr → Prop} (sr : SR K H ι ρ σ) (hr : HR K cl H ι mh) (ok : okR K cl E ι H ((m ρ mh).bind f) P) :
    tM K cl E m σ H fun v H1 => ∃ d mh1 ι1, Ext ι H ι1 H1 ∧ SR K H1 ι1 ρ σ ∧ HR K cl H1 ι1 mh1 ∧ Rep K H1 ι1 d v ∧ okR K cl E ι1 H1 (f d mh1) P :=
  ⟨ρ, mh, ι, sr, hr, okR.imp ok.bnd fun d H1 ι1 e ⟨mh1, hr1, q⟩ v r => ⟨d, mh1, ι1, e, sr.mono e, hr1, r, q⟩⟩
theorem stepT {m : MT} {f : Bool → MH → Res α} {P : α → Hp → List Addr → Prop} (sr : SR K H ι ρ σ) (hr : HR K cl H ι mh) (ok : okR K cl E ι H ((m ρ mh).bind f) P) :
    tMT K cl E m σ H fun b H1 => ∃ mh1 ι1, Ext ι H ι1 H1 ∧ SR K H1 ι1 ρ σ ∧ HR K cl H1 ι1 mh1 ∧ okR K cl E ι1 H1 (f b mh1) P :=
  ⟨ρ, mh, ι, sr, hr, okR.imp ok.bnd fun d H1 ι1 e ⟨mh1, hr1, q⟩ => ⟨mh1, ι1, e, sr.mono e, hr1, q⟩⟩
theorem stepA {m : MA} {f : List D → MH → Res α} {P : α → Hp → List Addr → Prop} (sr : SR K H ι ρ σ) (hr : HR K cl H ι mh) (ok : okR K cl E ι H ((m ρ mh).bind f) P) :
    tMA K cl E m σ H fun vs H1 => ∃ ds mh1 ι1, Ext ι H ι1 H1 ∧ SR K H1 ι1 ρ σ ∧ HR K cl H1 ι1 mh1 ∧ Reps K H1 ι1 ds vs ∧ okR K cl E ι1 H1 (f ds mh1) P :=
  ⟨ρ, mh, ι, sr, hr, okR.imp ok.bnd fun d H1 ι1 e ⟨mh1, hr1, q⟩ v r => ⟨d, mh1, ι1, e, sr.mono e, hr1, r, q⟩⟩
/-- a value at hand meets what is wanted -/
theorem fin {d : D} {v : V} {Q : VK} (hr : HR K cl H ι mh) (r : Rep K H ι d v) (ok : okR K cl E ι H (.ok d mh) (pE K Q)) : Q v H := ok H ι hr .refl v r
theorem finT {b : Bool} {Q : Bool → Hp → Prop} (hr : HR K cl H ι mh) (ok : okR K cl E ι H (.ok b mh) (pT Q)) : Q b H := ok H ι hr .refl
theorem finA {ds : List D} {vs : List V} {Q : List V → Hp → Prop} (hr : HR K cl H ι mh) (r : Reps K H ι ds vs) (ok : okR K cl E ι H (.ok ds mh) (pA K Q)) : Q vs H := ok H ι hr .refl vs r
theorem cont {m : ME} {Q : VK} (sr : SR K H ι ρ σ) (hr : HR K cl H ι mh) (ok : okR K cl E ι H (m ρ mh) (pE K Q)) : tM K cl E m σ H Q := ⟨ρ, mh, ι, sr, hr, ok⟩
theorem contT {m : MT} {Q : Bool → Hp → Prop} (sr : SR K H ι ρ σ) (hr : HR K cl H ι mh) (ok : okR K cl E ι H (m ρ mh) (pT Q)) : tMT K cl E m σ H Q := ⟨ρ, mh, ι, sr, hr, ok⟩
theorem contA {m : MA} {Q : List V → Hp → Prop} (sr : SR K H ι ρ σ) (hr : HR K cl H ι mh) (ok : okR K cl E ι H (m ρ mh) (pA K Q)) : tMA K cl E m σ H Q := ⟨ρ, mh, ι, sr, hr, ok⟩
end

/-! ### the rules -/
/-- operations by values -/
def rM (K : PySem.W.Frag) (cl : Clm) (E : XK) (g : D → D → MH → Res D) : R2 := fun x y H Q => ∃ dx dy mh ι, Rep K H ι dx x ∧ Rep K H ι dy y ∧ HR K cl H ι mh ∧ okR K cl E ι H (g dx dy mh) (pE K Q)
def rM1 (K : PySem.W.Frag) (cl : Clm) (E : XK) (g : D → MH → Res D) : V → Hp → VK → Prop := fun x H Q => ∃ dx mh ι, Rep K H ι dx x ∧ HR K cl H ι mh ∧ okR K cl E ι H (g dx mh) (pE K Q)
def rMA (K : PySem.W.Frag) (cl : Clm) (E : XK) (g : List D → MH → Res D) : List V → Hp → VK → Prop := fun xs H Q => ∃ ds mh ι, Reps K H ι ds xs ∧ HR K cl H ι mh ∧ okR K cl E ι H (g ds mh) (pE K Q)
section
variable {X : Cx} {cl : Clm} {E : XK} {a b c e : Expr} {es : List Expr} {pos : Pos} {m ma mb mc : ME} {mt mu : MT} {g g' : D → D → MH → Res D}
theorem m_var {i : Nat} {x : Str} (h : PE X e (tVar i)) : PE X e (tM X.K cl E (varM i)) := h.imp fun σ H Q ⟨ρ, mh, ι, sr, hr, ok⟩ => by
  unfold varM at ok
  cases hd : ρ[i]? with
  | none => rw [hd] at ok; exact ok.elim
  | some o =>
    rw [hd] at ok
    cases o with
    | none => exact ok.elim
    | some d =>
      obtain ⟨v, hv, r⟩ := sr.2 i d hd
      exact ⟨v, hv, fin hr r ok⟩
theorem m_c {v : V} {d : D} (hd : ∀ H ι, Rep X.K H ι d v) (h : PE X e (tC v)) : PE X e (tM X.K cl E (cM d)) := h.imp fun σ H Q ⟨ρ, mh, ι, sr, hr, ok⟩ => fin hr (hd _ _) ok
theorem m_no : PE X e (tM X.K cl E noM) := ⟨fun _ _ _ _ _ _ ⟨_, _, _, _, _, ok⟩ => ok.elim⟩
theorem m_noT : PT X e (tMT X.K cl E noT) := ⟨fun _ _ _ _ _ _ ⟨_, _, _, _, _, ok⟩ => ok.elim⟩
theorem binI (r : R2) : r = rM X.K cl E g → ∀ σ H Q, tM X.K cl E (binM g ma mb) σ H Q → tOp r (tM X.K cl E ma) (tM X.K cl E mb) σ H Q := by
  rintro rfl σ H Q ⟨ρ, mh, ι, sr, hr, ok⟩
  obtain ⟨ρ, mh, ι, a1, a2, a3⟩ := step sr hr ok
  refine ⟨ρ, mh, ι, a1, a2, okR.imp a3 fun d H1 ι1 e1 q v rv => ?_⟩
  obtain ⟨d1, mh1, ι1', e1', sr1, hr1, r1, q1⟩ := q v rv
  obtain ⟨ρ2, mh2, ι2, b1, b2, b3⟩ := step sr1 hr1 q1
  refine ⟨ρ2, mh2, ι2, b1, b2, okR.imp b3 fun d2 H2 ι2 e2 q2 v2 rv2 => ?_⟩
  obtain ⟨d3, mh3, ι3, e3, sr3, hr3, r3, q3⟩ := q2 v2 rv2
  exact ⟨d1, d3, mh3, ι3, r1.mono e3, r3, hr3, q3⟩
theorem m_bin {op : Operator} (ho : OpR X (binaryOp op) (rM X.K cl E g)) (ha : PE X a (tM X.K cl E ma)) (hb : PE X b (tM X.K cl E mb)) : PE X (.BinOp a op b pos) (tM X.K cl E (binM g ma mb)) :=
  (pe_op ho ha hb).imp (binI _ rfl)
theorem m_cmp {op : CmpOp} (ho : OpR X (compareOp op) (rM X.K cl E g)) (ha : PE X a (tM X.K cl E ma)) (hb : PE X b (tM X.K cl E mb)) (hm : behindInMarks op b = false) : PE X (.Compare a [op] [b] pos) (tM X.K cl E (binM g ma mb)) :=
  (pe_cmpR ho ha hb hm).imp (binI _ rfl)
theorem m_ix (ho : IxR X (rM X.K cl E g)) (ha : PE X a (tM X.K cl E ma)) (hb : PE X b (tM X.K cl E mb)) (hs : PlainIx b) : PE X (.Subscript a b pos) (tM X.K cl E (binM g ma mb)) :=
  (pe_ix ho ha hb hs).imp (binI _ rfl)
theorem m_un {op : UnaryOp} {g : D → MH → Res D} (ho : UnR X (unaryOp op) (rM1 X.K cl E g)) (ha : PE X a (tM X.K cl E ma)) : PE X (.UnaryOp op a pos) (tM X.K cl E (unM g ma)) :=
  (pe_un ho ha).imp fun σ H Q ⟨ρ, mh, ι, sr, hr, ok⟩ => by
    obtain ⟨ρ, mh, ι, a1, a2, a3⟩ := step sr hr ok
    refine ⟨ρ, mh, ι, a1, a2, okR.imp a3 fun d H1 ι1 e1 q v rv => ?_⟩
    obtain ⟨d1, mh1, ι1', e1', sr1, hr1, r1, q1⟩ := q v rv
    exact ⟨d1, mh1, ι1', r1, hr1, q1⟩
theorem tM.mono {σ : L2.St} {H : Hp} {Q Q' : VK} (h : tM X.K cl E m σ H Q) (i : ∀ v H', Q v H' → Q' v H') : tM X.K cl E m σ H Q' := by
  obtain ⟨ρ, mh, ι, a1, a2, a3⟩ := h
  exact ⟨ρ, mh, ι, a1, a2, okR.imp a3 fun d H1 ι1 e1 q v rv => i _ _ (q v rv)⟩
theorem tMT.mono {σ : L2.St} {H : Hp} {Q Q' : Bool → Hp → Prop} (h : tMT X.K cl E mt σ H Q) (i : ∀ v H', Q v H' → Q' v H') : tMT X.K cl E mt σ H Q' := by
  obtain ⟨ρ, mh, ι, a1, a2, a3⟩ := h
  exact ⟨ρ, mh, ι, a1, a2, okR.imp a3 fun d H1 ι1 e1 q => i _ _ q⟩
theorem tMA.mono {m : MA} {σ : L2.St} {H : Hp} {Q Q' : List V → Hp → Prop} (h : tMA X.K cl E m σ H Q) (i : ∀ v H', Q v H' → Q' v H') : tMA X.K cl E m σ H Q' := by
  obtain ⟨ρ, mh, ι, a1, a2, a3⟩ := h
  exact ⟨ρ, mh, ι, a1, a2, okR.imp a3 fun d H1 ι1 e1 q v rv => i _ _ (q v rv)⟩
/-- a comparison as a test: its value -/
theorem m_cmpT {op : CmpOp} (ho : OpR X (compareOp op) (rM X.K cl E g)) (ha : PE X a (tM X.K cl E ma)) (hb : PE X b (tM X.K cl E mb)) (hm : behindInMarks op b = false) : PT X (.Compare a [op] [b] pos) (tMT X.K cl E (testM (binM g ma mb))) :=
  (pt_cmpR ho ha hb hm).imp fun σ H Q ⟨ρ, mh, ι, sr, hr, ok⟩ => by
    unfold tTest
    refine binI _ rfl _ _ _ (tM.mono (step sr hr ok) fun v H1 ⟨d, mh1, ι1, e1, sr1, hr1, r1, q1⟩ => ?_)
    cases r1 with
    | bl b => exact ⟨b, rfl, finT hr1 q1⟩
    | _ => exact q1.elim
theorem chI : ∀ σ H Q, tM X.K cl E (chainM g g' ma mb mc) σ H Q → tChain (rM X.K cl E g) (rM X.K cl E g') (tM X.K cl E ma) (tM X.K cl E mb) (tM X.K cl E mc) σ H Q := by
  rintro σ H Q ⟨ρ, mh, ι, sr, hr, ok⟩
  refine tM.mono (step sr hr ok) fun v H1 ⟨d1, mh1, ι1, e1, sr1, hr1, r1, q1⟩ => ?_
  refine tM.mono (step sr1 hr1 q1) fun v2 H2 ⟨d2, mh2, ι2, e2, sr2, hr2, r2, q2⟩ => ?_
  refine ⟨d1, d2, mh2, ι2, r1.mono e2, r2, hr2, okR.imp q2.bnd fun d3 H3 ι3 e3 ⟨mh3, hr3, q3⟩ v3 rv3 => ?_⟩
  cases rv3 with
  | bl k =>
    refine ⟨k, rfl, ?_⟩
    cases k with
    | false => exact iteF (fin hr3 (.bl _) q3)
    | true =>
      refine iteT (tM.mono (step (sr2.mono e3) hr3 q3) fun v4 H4 ⟨d4, mh4, ι4, e4, sr4, hr4, r4, q4⟩ => ?_)
      exact ⟨d2, d4, mh4, ι4, (r2.mono e3).mono e4, r4, hr4, q4⟩
  | _ => exact q3.elim
theorem m_chain {op op' : CmpOp} (ho : OpR X (compareOp op) (rM X.K cl E g)) (ho' : OpR X (compareOp op') (rM X.K cl E g')) (ha : PE X a (tM X.K cl E ma)) (hb : PE X b (tM X.K cl E mb)) (hc : PE X c (tM X.K cl E mc))
    (hm : lastMarks [op, op'] [b, c] = false) : PE X (.Compare a [op, op'] [b, c] pos) (tM X.K cl E (chainM g g' ma mb mc)) := (pe_chain ho ho' ha hb hc hm).imp chI
theorem m_chainT {op op' : CmpOp} (ho : OpR X (compareOp op) (rM X.K cl E g)) (ho' : OpR X (compareOp op') (rM X.K cl E g')) (ha : PE X a (tM X.K cl E ma)) (hb : PE X b (tM X.K cl E mb)) (hc : PE X c (tM X.K cl E mc))
    (hm : lastMarks [op, op'] [b, c] = false) : PT X (.Compare a [op, op'] [b, c] pos) (tMT X.K cl E (testM (chainM g g' ma mb mc))) :=
  (pt_chain ho ho' ha hb hc hm).imp fun σ H Q ⟨ρ, mh, ι, sr, hr, ok⟩ => by
    unfold tTest
    refine chI _ _ _ (tM.mono (step sr hr ok) fun v H1 ⟨d, mh1, ι1, e1, sr1, hr1, r1, q1⟩ => ?_)
    cases r1 with
    | bl b => exact ⟨b, rfl, finT hr1 q1⟩
    | _ => exact q1.elim
/-! and, or, not -/
theorem m_and1 {t : MT} (ha : PT X a (tMT X.K cl E t)) : PW X (.BoolOp .And [a] pos) (tMT X.K cl E t) := pw_and1 ha
theorem m_or1 {t : MT} (ha : PT X a (tMT X.K cl E t)) : PW X (.BoolOp .Or [a] pos) (tMT X.K cl E t) := pw_or1 ha
theorem _root_.L2.PW.imp {e : Expr} {t t' : TT} (h : PW X e t) (i : ∀ σ H Q, t' σ H Q → t σ H Q) : PW X e t' := ⟨fun wh pins s σ H Q I q => h.run wh pins s σ H Q I (i _ _ _ q)⟩
theorem m_and {rest : List Expr} (ha : PT X a (tMT X.K cl E mt)) (hb : PW X (.BoolOp .And (b :: rest) pos) (tMT X.K cl E mu)) : PW X (.BoolOp .And (a :: b :: rest) pos) (tMT X.K cl E (andT mt mu)) :=
  L2.PW.imp (pw_and ha hb) fun σ H Q ⟨ρ, mh, ι, sr, hr, ok⟩ => by
    refine tMT.mono (stepT sr hr ok) fun k H1 ⟨mh1, ι1, e1, sr1, hr1, q1⟩ => ?_
    cases k with
    | true => exact iteT (contT sr1 hr1 q1)
    | false => exact iteF (finT hr1 q1)
theorem m_or {rest : List Expr} (ha : PT X a (tMT X.K cl E mt)) (hb : PW X (.BoolOp .Or (b :: rest) pos) (tMT X.K cl E mu)) : PW X (.BoolOp .Or (a :: b :: rest) pos) (tMT X.K cl E (orT mt mu)) :=
  L2.PW.imp (pw_or ha hb) fun σ H Q ⟨ρ, mh, ι, sr, hr, ok⟩ => by
    refine tMT.mono (stepT sr hr ok) fun k H1 ⟨mh1, ι1, e1, sr1, hr1, q1⟩ => ?_
    cases k with
    | true => exact iteT (finT hr1 q1)
    | false => exact iteF (contT sr1 hr1 q1)
theorem m_notT (ha : PT X a (tMT X.K cl E mt)) : PT X (.UnaryOp .Not a pos) (tMT X.K cl E (notT mt)) := (pt_not ha).imp fun σ H Q ⟨ρ, mh, ι, sr, hr, ok⟩ =>
  tMT.mono (stepT sr hr ok) fun k H1 ⟨mh1, ι1, e1, sr1, hr1, q1⟩ => finT hr1 q1
theorem m_andV {rest : List Expr} (ha : PE X a (tM X.K cl E ma)) (hb : PE X (.BoolOp .And (b :: rest) pos) (tM X.K cl E mb)) : PE X (.BoolOp .And (a :: b :: rest) pos) (tM X.K cl E (andM ma mb)) :=
  (pe_and ha hb).imp fun σ H Q ⟨ρ, mh, ι, sr, hr, ok⟩ => by
    refine tM.mono (step sr hr ok) fun v H1 ⟨d1, mh1, ι1, e1, sr1, hr1, r1, q1⟩ => ?_
    cases r1 with
    | bl k => cases k with
      | true => exact ⟨_, rfl, iteT (cont sr1 hr1 q1)⟩
      | false => exact ⟨_, rfl, iteF (fin hr1 (.bl _) q1)⟩
    | _ => exact q1.elim
theorem m_orV {rest : List Expr} (ha : PE X a (tM X.K cl E ma)) (hb : PE X (.BoolOp .Or (b :: rest) pos) (tM X.K cl E mb)) : PE X (.BoolOp .Or (a :: b :: rest) pos) (tM X.K cl E (orM ma mb)) :=
  (pe_or ha hb).imp fun σ H Q ⟨ρ, mh, ι, sr, hr, ok⟩ => by
    refine tM.mono (step sr hr ok) fun v H1 ⟨d1, mh1, ι1, e1, sr1, hr1, r1, q1⟩ => ?_
    cases r1 with
    | bl k => cases k with
      | true => exact ⟨_, rfl, iteT (fin hr1 (.bl _) q1)⟩
      | false => exact ⟨_, rfl, iteF (cont sr1 hr1 q1)⟩
    | _ => exact q1.elim
theorem m_notV (ha : PE X a (tM X.K cl E ma)) : PE X (.UnaryOp .Not a pos) (tM X.K cl E (notM ma)) := (pe_not ha).imp fun σ H Q ⟨ρ, mh, ι, sr, hr, ok⟩ => by
    refine tM.mono (step sr hr ok) fun v H1 ⟨d1, mh1, ι1, e1, sr1, hr1, r1, q1⟩ => ?_
    cases r1 with
    | bl k => exact ⟨_, rfl, fin hr1 (.bl _) q1⟩
    | _ => exact q1.elim
theorem m_if (hc : PT X c (tMT X.K cl E mt)) (ha : PE X a (tM X.K cl E ma)) (hb : PE X b (tM X.K cl E mb)) : PE X (.IfExp c a b pos) (tM X.K cl E (ifM mt ma mb)) :=
  (pe_ifExp hc ha hb).imp fun σ H Q ⟨ρ, mh, ι, sr, hr, ok⟩ => by
    refine tMT.mono (stepT sr hr ok) fun k H1 ⟨mh1, ι1, e1, sr1, hr1, q1⟩ => ?_
    cases k with
    | true => exact iteT (cont sr1 hr1 q1)
    | false => exact iteF (cont sr1 hr1 q1)
/-- a value's truth -/
def truD (x : D) (mh : MH) : Option Bool := match x with
  | .non => some false
  | .bl b => some b
  | .int i => some (i != 0)
  | .str y => if y.length ≤ sizeLine then some ((y.length : Int) != 0) else none
  | .tup ds => some (!ds.isEmpty)
  | .ref n => match mh[n]? with
    | some (.lst ds) => some (!ds.isEmpty)
    | some (.dic kvs) => some (!kvs.isEmpty)
    | _ => none
  | .ty _ => none
  | .wl ds => some (!ds.isEmpty)
def truM (a : ME) : MT := fun ρ h => (a ρ h).bind fun x h => match truD x h with | some b => .ok b h | none => .no
theorem Reps.emp {K : PySem.W.Frag} {H : Hp} {ι : List Addr} {ds : List D} {vs : List V} (r : Reps K H ι ds vs) : (!ds.isEmpty) = !vs.isEmpty := by cases r <;> rfl
theorem Prs.emp {K : PySem.W.Frag} {H : Hp} {ι : List Addr} {κ : Type} {ds : List (κ × D)} {vs : List (κ × V)} (r : Prs K H ι ds vs) : (!ds.isEmpty) = !vs.isEmpty := by cases r <;> rfl
theorem tru_of {K : PySem.W.Frag} {H : Hp} {ι : List Addr} {mh : MH} {x : D} {v : V} {b : Bool} (hr : HR K cl H ι mh) (r : Rep K H ι x v) (h : truD x mh = some b) : TruV K v H b := by
  cases r with
  | non => cases h; rfl
  | bl _ => cases h; rfl
  | int _ => cases h; rfl
  | str y =>
    simp only [truD] at h
    split at h
    · rename_i hl; cases h; exact ⟨hl, rfl⟩
    · cases h
  | tup s q => cases h; exact .inr (.inl ⟨_, s, q.emp⟩)
  | @ref n a hn =>
    simp only [truD] at h
    cases hm : mh[n]? with
    | none => rw [hm] at h; cases h
    | some o =>
      rw [hm] at h
      have q := hr.ob n a o hn hm
      cases o with
      | lst ds => cases h; obtain ⟨xs, h1, h2⟩ := q; exact .inl ⟨xs, SqL.of h1, h2.emp⟩
      | dic kvs => cases h; obtain ⟨xs, h1, h2⟩ := q; exact .inr (.inr ⟨xs, h1, h2.emp⟩)
      | _ => cases h
  | ty _ => cases h
  | wl s q => cases h; exact .inl ⟨_, s.sq, q.emp⟩
theorem m_tru (ha : PE X a (tM X.K cl E ma)) (he : ∀ whole, isTrue a X.env whole = (do let v ← whole; standAt a.pos; holding [v] (truthy v))) : PT X a (tMT X.K cl E (truM ma)) :=
  (pt_truth ha he).imp fun σ H Q ⟨ρ, mh, ι, sr, hr, ok⟩ => tM.mono (step sr hr ok) fun v H1 ⟨d1, mh1, ι1, e1, sr1, hr1, r1, q1⟩ => by
    cases hb : truD d1 mh1 with
    | none => rw [hb] at q1; exact q1.elim
    | some b => rw [hb] at q1; exact ⟨b, tru_of hr1 r1 hb, finT hr1 q1⟩
/-! argument lists, displays -/
theorem m_nil : PA X [] (tMA X.K cl E nilM) := pa_nil.imp fun σ H Q ⟨ρ, mh, ι, sr, hr, ok⟩ => finA hr .nil ok
theorem m_cons {m : MA} (ha : PE X e (tM X.K cl E ma)) (hr : PA X es (tMA X.K cl E m)) (hs : starEach (e :: es) X.env = (false, eval e X.env) :: starEach es X.env) : PA X (e :: es) (tMA X.K cl E (consM ma m)) :=
  (pa_cons ha hr hs).imp fun σ H Q ⟨ρ, mh, ι, sr, hr, ok⟩ => tM.mono (step sr hr ok) fun v H1 ⟨d1, mh1, ι1, e1, sr1, hr1, r1, q1⟩ =>
    tMA.mono (stepA sr1 hr1 q1) fun vs H2 ⟨ds, mh2, ι2, e2, sr2, hr2, r2, q2⟩ => finA hr2 (.cons (r1.mono e2) r2) q2
theorem m_tup {m : MA} {k : Nat} (ha : PA X es (tMA X.K cl E m)) : PE X (.Tuple es k pos) (tM X.K cl E (tupM m)) :=
  (pe_tup ha).imp fun σ H Q ⟨ρ, mh, ι, sr, hr, ok⟩ => tMA.mono (stepA sr hr ok) fun vs H1 ⟨ds, mh1, ι1, e1, sr1, hr1, r1, q1⟩ => by
    split at q1
    · rename_i hl
      exact ⟨r1.length ▸ hl, fun p hp => q1 _ ι1 (hr1.side hp) (.new0 hp) _ (.tup (SqT.of upd_same) (r1.mono (.new0 hp)))⟩
    · exact q1.elim
theorem m_lst {m : MA} (ha : PA X es (tMA X.K cl E m)) : PE X (.List es pos) (tM X.K cl E (lstM m)) :=
  (pe_lst ha).imp fun σ H Q ⟨ρ, mh, ι, sr, hr, ok⟩ => tMA.mono (stepA sr hr ok) fun vs H1 ⟨ds, mh1, ι1, e1, sr1, hr1, r1, q1⟩ => by
    split at q1
    · rename_i hl
      refine ⟨r1.length ▸ hl, fun p hp => q1 _ (ι1 ++ [p]) (hr1.new hp ⟨_, upd_same, r1.mono (.new hp _)⟩) (.new hp _) _ (.ref ?_)⟩
      rw [← hr1.len]; simp
    · exact q1.elim
/-! calls by values -/
theorem m_callB {x : Str} {p : Pos} {id : String} {g : List D → MH → Res D} {m : MA} (hc : CallR X (.builtin id) (rMA X.K cl E g)) (hg : Gl X x) (hm : X.mg x = none) (hv : bootBuiltins x = some (.builtin id)) (ha : PA X (e :: es) (tMA X.K cl E m))
    (hn : x ≠ "__name__") (hdb : (x == ("__debug__" : Str)) = false) (he : starEach (e :: es) X.env = (false, eval e X.env) :: starEach es X.env) (hpl : (backTo pos (starEach es X.env)).any (·.1) = false) : PE X (.Call (.Name x p) (e :: es) [] pos) (tM X.K cl E (callM g m)) :=
  (pe_callB hc hg hm hv ha hn hdb he hpl).imp fun σ H Q ⟨ρ, mh, ι, sr, hr, ok⟩ => tMA.mono (stepA sr hr ok) fun vs H1 ⟨ds, mh1, ι1, e1, sr1, hr1, r1, q1⟩ => ⟨ds, mh1, ι1, r1, hr1, q1⟩
theorem m_callTy {x : Str} {p : Pos} {T : String} {g : List D → MH → Res D} {m : MA} (hc : CallR X (.type T) (rMA X.K cl E g)) (hg : Gl X x) (hm : X.mg x = none) (hv : bootBuiltins x = some (.type T)) (ha : PA X (e :: es) (tMA X.K cl E m))
    (hn : x ≠ "__name__") (hdb : (x == ("__debug__" : Str)) = false) (he : starEach (e :: es) X.env = (false, eval e X.env) :: starEach es X.env) (hpl : (backTo pos (starEach es X.env)).any (·.1) = false) : PE X (.Call (.Name x p) (e :: es) [] pos) (tM X.K cl E (callM g m)) :=
  (pe_callTy hc hg hm hv ha hn hdb he hpl).imp fun σ H Q ⟨ρ, mh, ι, sr, hr, ok⟩ => tMA.mono (stepA sr hr ok) fun vs H1 ⟨ds, mh1, ι1, e1, sr1, hr1, r1, q1⟩ => ⟨ds, mh1, ι1, r1, hr1, q1⟩
end
/-- what a def of the mirror promises -/
def spM (K : PySem.W.Frag) (cl : Clm) (np : Nat) (g : List D → MH → Res D) : Sp := fun vs H Q E => vs.length = np ∧ ∃ ds mh ι, Reps K H ι ds vs ∧ HR K cl H ι mh ∧ okR K cl E ι H (g ds mh) (pE K Q)
section
variable {X : Cx} {cl : Clm} {E : XK} {e o : Expr} {es : List Expr} {pos p apos : Pos} {CX : CXT} {k np : Nat} {f : Addr} {fd : FuncData} {ps : List Str} {g : List D → MH → Res D} {x : Str} {m : MA}
/-- as many arguments as parameters, else stuck -/
def callN (np : Nat) (g : List D → MH → Res D) (a : MA) : ME := fun ρ h => (a ρ h).bind fun xs h => if xs.length = np then g xs h else .no
theorem m_call (F : FnOk X.prog X.w X.K X.mg X.base CX k f fd ps (spM X.K cl np g)) (hr : Room k X.A) (hg : Gl X x) (hm : X.mg x = some (.ref f)) (hk : PySem.W.keepIn X.K (.ref f) = true) (hb : Binds X.K fd ps []) (hx : Passes CX X E)
    (ha : PA X (e :: es) (tMA X.K cl E m)) (hdb : (x == ("__debug__" : Str)) = false) (he : starEach (e :: es) X.env = (false, eval e X.env) :: starEach es X.env) (hpl : (backTo pos (starEach es X.env)).any (·.1) = false) :
    PE X (.Call (.Name x p) (e :: es) [] pos) (tM X.K cl E (callN np g m)) :=
  (pe_call F hr hg hm hk hb .nil hx ha hdb he hpl).imp fun σ H Q ⟨ρ, mh, ι, sr, hr, ok⟩ => tMA.mono (stepA sr hr ok) fun vs H1 ⟨ds, mh1, ι1, e1, sr1, hr1, r1, q1⟩ => by
    rw [List.append_nil]
    split at q1
    · rename_i hl; exact ⟨r1.length ▸ hl, ds, mh1, ι1, r1, hr1, q1⟩
    · exact q1.elim
theorem m_call0 (F : FnOk X.prog X.w X.K X.mg X.base CX k f fd ps (spM X.K cl 0 g)) (hr : Room k X.A) (hg : Gl X x) (hm : X.mg x = some (.ref f)) (hk : PySem.W.keepIn X.K (.ref f) = true) (hb : Binds X.K fd ps []) (hx : Passes CX X E)
    (hdb : (x == ("__debug__" : Str)) = false) : PE X (.Call (.Name x p) [] [] pos) (tM X.K cl E (callN 0 g nilM)) :=
  (pe_call0 F hr hg hm hk hb .nil hx hdb).imp fun σ H Q ⟨ρ, mh, ι, sr, hr, ok⟩ => ⟨rfl, [], mh, ι, .nil, hr, ok⟩
end
end Mir
namespace Mir
open PySem PySem.Spec L2

/-! ### operators by values -/
def addD (x y : D) (mh : MH) : Res D := match x, y with
  | .int i, .int j => .ok (.int (i + j)) mh
  | .str a, .str b => if a.length + b.length ≤ sizeLine then .ok (.str (a ++ b)) mh else .no
  | .tup xs, .tup ys => if xs.length + ys.length ≤ sizeLine then .ok (.tup (xs ++ ys)) mh else .no
  | .ref n, .ref m => match mh[n]?, mh[m]? with
    | some (.lst xs), some (.lst ys) => if xs.length + ys.length ≤ sizeLine then .ok (.ref mh.length) (mh ++ [.lst (xs ++ ys)]) else .no
    | _, _ => .no
  | _, _ => .no
def intD (c : Int → Int → Bool) (f : Int → Int → Int) (x y : D) (mh : MH) : Res D := match x, y with
  | .int i, .int j => if c i j = true then .ok (.int (f i j)) mh else .no
  | _, _ => .no
def cmpD (f : Int → Int → Bool) (x y : D) (mh : MH) : Res D := match x, y with
  | .int i, .int j => .ok (.bl (f i j)) mh
  | _, _ => .no
def subD : D → D → MH → Res D := intD (fun _ _ => true) fun i j => i - j
def mulC (i j : Int) : Bool := (decide (-(2 ^ 64) < i) && decide (i < 2 ^ 64)) || (decide (-(2 ^ 64) < j) && decide (j < 2 ^ 64))
def mulD (x y : D) (mh : MH) : Res D := match x, y with
  | .int i, .int j => if mulC i j = true then .ok (.int (i * j)) mh else .no
  | .ref n, .int k => match mh[n]? with
    | some (.lst xs) => if -(2 ^ 63) ≤ k ∧ k < 2 ^ 63 ∧ xs.length * k.toNat ≤ sizeLine then .ok (.ref mh.length) (mh ++ [.lst (List.replicate k.toNat xs).flatten]) else .no
    | _ => .no
  | _, _ => .no
def modD : D → D → MH → Res D := intD (fun _ j => decide (0 < j)) fun i j => i % j
def divD : D → D → MH → Res D := intD (fun _ j => decide (0 < j) && decide (j < 2 ^ 64)) fun i j => i / j
def bandD : D → D → MH → Res D := intD (fun _ _ => true) Builtin.bitAnd
def borD : D → D → MH → Res D := intD (fun _ _ => true) Builtin.bitOr
def bxorD : D → D → MH → Res D := intD (fun _ _ => true) Builtin.bitXor
def shlC (i j : Int) : Bool := decide (0 ≤ j) && decide ((Builtin.Int.intBits i : Int) + j ≤ 2 ^ 27)
def shlD : D → D → MH → Res D := intD shlC fun i j => i * 2 ^ j.toNat
def shrD : D → D → MH → Res D := intD (fun _ j => decide (0 ≤ j)) fun i j => i / 2 ^ j.toNat
def powC (i j : Int) : Bool := decide (0 ≤ j) && decide (j ≤ 1000000) && decide (i.natAbs < 2 ^ 64)
def powD : D → D → MH → Res D := intD powC fun i j => i ^ j.toNat
def binD : Operator → D → D → MH → Res D
  | .Add => addD | .Sub => subD | .Mult => mulD | .Mod => modD | .FloorDiv => divD | .BitAnd => bandD | .BitOr => borD | .BitXor => bxorD
  | .LShift => shlD | .RShift => shrD | .Pow => powD
  | _ => fun _ _ _ => .no
def ltD (x y : D) (mh : MH) : Res D := match x, y with
  | .int i, .int j => .ok (.bl (decide (i < j))) mh
  | .str a, .str b => .ok (.bl (decide (a.cps.toList < b.cps.toList))) mh
  | _, _ => .no
def leD (x y : D) (mh : MH) : Res D := match x, y with
  | .int i, .int j => .ok (.bl (decide (i ≤ j))) mh
  | .str a, .str b => .ok (.bl (!decide (b.cps.toList < a.cps.toList))) mh
  | _, _ => .no
def gtD : D → D → MH → Res D := cmpD fun i j => decide (j < i)
def geD : D → D → MH → Res D := cmpD fun i j => decide (j ≤ i)
def isD (x y : D) (mh : MH) : Res D := match y with
  | .non => .ok (.bl (match x with | .non => true | _ => false)) mh
  | _ => .no
def isNotD (x y : D) (mh : MH) : Res D := match y with
  | .non => .ok (.bl (match x with | .non => false | _ => true)) mh
  | _ => .no
/-- data as a whole -/
def toPy : Nat → MH → D → Option PyData
  | 0, _, _ => none
  | k + 1, mh, d => match d with
    | .non => some .none
    | .bl b => some (.bool b)
    | .int i => some (.int i)
    | .str x => some (.str x)
    | .tup ds => (ds.mapM (toPy k mh)).map .tuple
    | .ref n => match mh[n]? with
      | some (.lst ds) => (ds.mapM (toPy k mh)).map .list
      | _ => none
    | .ty _ => none
    | .wl ds => (ds.mapM (toPy k mh)).map .list
def pyDepth : Nat := 12
def scalD : D → D → Option Bool
  | .non, .non => some true | .non, .int _ => some false | .int _, .non => some false | .non, .bl _ => some false | .bl _, .non => some false | .non, .str _ => some false | .str _, .non => some false
  | .int i, .int j => some (decide (i = j)) | .bl i, .bl j => some (decide (i = j)) | .str i, .str j => some (decide (i = j))
  | .int _, .str _ => some false | .str _, .int _ => some false | .bl _, .str _ => some false | .str _, .bl _ => some false
  | _, _ => none
def eqO (x y : D) (mh : MH) : Option Bool := match scalD x y with
  | some b => some b
  | none => match toPy pyDepth mh x, toPy pyDepth mh y with
    | some p, some q => if SeqAt.shaped p = true ∧ SeqAt.shaped q = true then some (PyData.eqv p q) else none
    | _, _ => none
def eqD (x y : D) (mh : MH) : Res D := match eqO x y mh with | some b => .ok (.bl b) mh | none => .no
def neD (x y : D) (mh : MH) : Res D := match eqO x y mh with | some b => .ok (.bl (!b)) mh | none => .no
def flatD : D → Bool
  | .non => true | .bl _ => true | .int _ => true | .str _ => true
  | _ => false
def eqF : D → D → Bool
  | .non, .non => true
  | .bl a, .bl b => a == b
  | .bl a, .int b => (if a then 1 else 0) == b
  | .int a, .bl b => a == (if b then 1 else 0)
  | .int a, .int b => a == b
  | .str a, .str b => a == b
  | _, _ => false
def seqO (y : D) (mh : MH) : Option (List D) := match y with
  | .tup ds => some ds
  | .wl ds => some ds
  | .ref n => match mh[n]? with
    | some (.lst ds) => some ds
    | _ => none
  | _ => none
def valD {κ : Type} [DecidableEq κ] (kvs : List (κ × D)) (k : κ) : Option D := (kvs.find? fun kv => decide (kv.1 = k)).map (·.2)
def keyD : D → Option Key
  | .int i => some (.inl i)
  | .str x => some (.inr x)
  | _ => none
def inO (x y : D) (mh : MH) : Option Bool := match y with
  | .str b => match x with
    | .str a => some (!(Builtin.Str.occurrences b a 0 b.length 1).isEmpty)
    | _ => none
  | _ => match seqO y mh with
    | some ds => if flatD x = true ∧ ds.all flatD = true then some (ds.any fun d => eqF d x) else none
    | none => match y with
      | .ref n => match mh[n]? with
        | some (.dic kvs) => match keyD x with | some k => some (valD kvs k).isSome | none => none
        | _ => none
      | _ => none
def inD (x y : D) (mh : MH) : Res D := match inO x y mh with | some b => .ok (.bl b) mh | none => .no
def ninD (x y : D) (mh : MH) : Res D := match inO x y mh with | some b => .ok (.bl (!b)) mh | none => .no
def compD : CmpOp → D → D → MH → Res D
  | .Eq => eqD | .NotEq => neD | .Lt => ltD | .LtE => leD | .Gt => gtD | .GtE => geD | .Is => isD | .IsNot => isNotD | .In => inD | .NotIn => ninD
def negD (x : D) (mh : MH) : Res D := match x with | .int i => .ok (.int (-i)) mh | _ => .no

section
variable {X : Cx} {cl : Clm} {E : XK}
theorem int_ok {f : Value → Value → Sem Value} {C : Int → Int → Prop} {c : Int → Int → Bool} {g : Int → Int → Int} (h : OpR X f (rI C fun i j => .int (g i j))) (hc : ∀ i j, c i j = true → C i j) : OpR X f (rM X.K cl E (intD c g)) := by
  rintro pins s σ H x y v u Q I rx ry ⟨dx, dy, mh, ι, r1, r2, hr, ok⟩
  cases r1 <;> cases r2 <;> try exact ok.elim
  rename_i i j
  simp only [intD] at ok
  split at ok
  · rename_i k; exact h pins s σ H _ _ v u Q I rx ry ⟨i, j, rfl, rfl, hc i j k, fin hr (.int _) ok⟩
  · exact ok.elim
theorem int_ok0 {f : Value → Value → Sem Value} {g : Int → Int → Int} (h : OpR X f (rI0 fun i j => .int (g i j))) : OpR X f (rM X.K cl E (intD (fun _ _ => true) g)) := by
  rintro pins s σ H x y v u Q I rx ry ⟨dx, dy, mh, ι, r1, r2, hr, ok⟩
  cases r1 <;> cases r2 <;> try exact ok.elim
  rename_i i j
  exact h pins s σ H _ _ v u Q I rx ry ⟨i, j, rfl, rfl, fin hr (.int _) ok⟩
theorem cmp_ok {f : Value → Value → Sem Value} {g : Int → Int → Bool} (h : OpR X f (rI0 fun i j => .bl (g i j))) : OpR X f (rM X.K cl E (cmpD g)) := by
  rintro pins s σ H x y v u Q I rx ry ⟨dx, dy, mh, ι, r1, r2, hr, ok⟩
  cases r1 <;> cases r2 <;> try exact ok.elim
  rename_i i j
  exact h pins s σ H _ _ v u Q I rx ry ⟨i, j, rfl, rfl, fin hr (.bl _) ok⟩
/-- a new list -/
theorem new_lst {H : Hp} {ι : List Addr} {mh : MH} {ds : List D} {vs : List V} {p : Addr} {Q : VK} (hr : HR X.K cl H ι mh) (r : Reps X.K H ι ds vs) (ok : okR X.K cl E ι H (.ok (.ref mh.length) (mh ++ [.lst ds])) (pE X.K Q)) (hp : H p = none) : Q (.ref p) (upd H p (.lst vs)) := by
  refine ok _ (ι ++ [p]) (hr.new hp ⟨_, upd_same, r.mono (.new hp _)⟩) (.new hp _) _ (.ref ?_)
  rw [← hr.len]; simp
theorem new_tup {H : Hp} {ι : List Addr} {mh : MH} {ds : List D} {vs : List V} {p : Addr} {Q : VK} (hr : HR X.K cl H ι mh) (r : Reps X.K H ι ds vs) (ok : okR X.K cl E ι H (.ok (.tup ds) mh) (pE X.K Q)) (hp : H p = none) : Q (.ref p) (upd H p (.tup vs)) :=
  ok _ ι (hr.side hp) (.new0 hp) _ (.tup (SqT.of upd_same) (r.mono (.new0 hp)))
theorem add_ok : OpR X (binaryOp .Add) (rM X.K cl E addD) := by
  rintro pins s σ H x y v u Q I rx ry ⟨dx, dy, mh, ι, r1, r2, hr, ok⟩
  cases r1 <;> cases r2 <;> try exact ok.elim
  · rename_i i j; exact op_add pins s σ H _ _ v u Q I rx ry ⟨i, j, rfl, rfl, fin hr (.int _) ok⟩
  · rename_i i j
    simp only [addD] at ok
    split at ok
    · rename_i hl; exact op_add_str pins s σ H _ _ v u Q I rx ry ⟨i, j, rfl, rfl, hl, fin hr (.str _) ok⟩
    · exact ok.elim
  · rename_i a xs ds s1 q1 b ys es s2 q2
    simp only [addD] at ok
    split at ok
    · rename_i hl
      refine op_catA pins s σ H _ _ v u Q I rx ry ⟨a, b, xs, ys, rfl, rfl, s1, s2, by rw [← q1.length, ← q2.length]; exact hl, fun z => ?_, fun _ z => ?_, fun _ _ p hp => ?_⟩
      · subst z; cases q1; exact fin hr (.tup s2 q2) ok
      · subst z; cases q2; rw [List.append_nil] at ok; exact fin hr (.tup s1 q1) ok
      · exact new_tup hr (q1.append q2) ok hp
    · exact ok.elim
  · rename_i n a hn m b hm
    simp only [addD] at ok
    cases e1 : mh[n]? with
    | none => rw [e1] at ok; exact ok.elim
    | some o1 =>
      cases e2 : mh[m]? with
      | none => rw [e1, e2] at ok; cases o1 <;> exact ok.elim
      | some o2 =>
        rw [e1, e2] at ok
        cases o1 <;> cases o2 <;> try exact ok.elim
        rename_i ds es
        obtain ⟨xs, h1, q1⟩ := hr.ob n a _ hn e1
        obtain ⟨ys, h2, q2⟩ := hr.ob m b _ hm e2
        simp only at ok
        split at ok
        · rename_i hl
          exact op_cat pins s σ H _ _ v u Q I rx ry ⟨a, b, xs, ys, rfl, rfl, h1, h2, by rw [← q1.length, ← q2.length]; exact hl, fun p hp => new_lst hr (q1.append q2) ok hp⟩
        · exact ok.elim
theorem Reps.rep {K : PySem.W.Frag} {H : Hp} {ι : List Addr} {ds : List D} {vs : List V} (r : Reps K H ι ds vs) : ∀ n, Reps K H ι (List.replicate n ds).flatten (List.replicate n vs).flatten
  | 0 => .nil
  | n + 1 => by rw [List.replicate_succ, List.flatten_cons, List.replicate_succ, List.flatten_cons]; exact r.append (Reps.rep r n)
theorem mul_ok : OpR X (binaryOp .Mult) (rM X.K cl E mulD) := by
  rintro pins s σ H x y v u Q I rx ry ⟨dx, dy, mh, ι, r1, r2, hr, ok⟩
  cases r1 <;> cases r2 <;> try exact ok.elim
  · rename_i i j
    simp only [mulD] at ok
    split at ok
    · rename_i k
      refine op_mul pins s σ H _ _ v u Q I rx ry ⟨i, j, rfl, rfl, ?_, fin hr (.int _) ok⟩
      simp only [mulC, Bool.or_eq_true, Bool.and_eq_true, decide_eq_true_eq] at k
      exact k
    · exact ok.elim
  · rename_i n a hn k
    simp only [mulD] at ok
    cases e1 : mh[n]? with
    | none => rw [e1] at ok; exact ok.elim
    | some o1 =>
      rw [e1] at ok
      cases o1 <;> try exact ok.elim
      rename_i ds
      obtain ⟨xs, h1, q1⟩ := hr.ob n a _ hn e1
      simp only at ok
      split at ok
      · rename_i hl
        exact op_rep pins s σ H _ _ v u Q I rx ry ⟨a, k, xs, rfl, rfl, h1, hl.1, hl.2.1, by rw [← q1.length]; exact hl.2.2, fun p hp => new_lst hr (Reps.rep q1 _) ok hp⟩
      · exact ok.elim
theorem bin_ok : ∀ op : Operator, OpR X (binaryOp op) (rM X.K cl E (binD op))
  | .Add => add_ok
  | .Sub => int_ok0 op_sub
  | .Mult => mul_ok
  | .Mod => int_ok op_mod fun i j h => of_decide_eq_true h
  | .FloorDiv => int_ok op_fdivW fun i j h => by
      simp only [Bool.and_eq_true, decide_eq_true_eq] at h
      exact wide_div (b := 64) h.1 (by omega) (by decide) (by decide)
  | .BitAnd => int_ok0 op_and
  | .BitOr => int_ok0 op_or
  | .BitXor => int_ok0 op_xor
  | .LShift => int_ok op_shlW fun i j h => by
      simp only [shlC, Bool.and_eq_true, decide_eq_true_eq] at h
      exact h
  | .RShift => int_ok op_shr fun i j h => of_decide_eq_true h
  | .Pow => int_ok op_pow fun i j h => by
      simp only [powC, Bool.and_eq_true, decide_eq_true_eq] at h
      exact ⟨h.1.1, h.1.2, h.2⟩
  | .Div => fun _ _ _ _ _ _ _ _ _ _ _ _ ⟨_, _, _, _, _, _, _, ok⟩ => ok.elim
  | .MatMult => fun _ _ _ _ _ _ _ _ _ _ _ _ ⟨_, _, _, _, _, _, _, ok⟩ => ok.elim
theorem neg_ok : UnR X (unaryOp .USub) (rM1 X.K cl E negD) := by
  rintro pins s σ H x v Q I rx ⟨dx, mh, ι, r1, hr, ok⟩
  cases r1 <;> try exact ok.elim
  rename_i i
  exact un_neg pins s σ H _ v Q I rx ⟨i, rfl, fin hr (.int _) ok⟩
/-! comparisons -/
theorem lt_ok : OpR X (compareOp .Lt) (rM X.K cl E ltD) := by
  rintro pins s σ H x y v u Q I rx ry ⟨dx, dy, mh, ι, r1, r2, hr, ok⟩
  cases r1 <;> cases r2 <;> try exact ok.elim
  · rename_i i j; exact op_lt pins s σ H _ _ v u Q I rx ry ⟨i, j, rfl, rfl, fin hr (.bl _) ok⟩
  · rename_i i j; exact op_lt_str pins s σ H _ _ v u Q I rx ry ⟨i, j, rfl, rfl, fin hr (.bl _) ok⟩
theorem le_ok : OpR X (compareOp .LtE) (rM X.K cl E leD) := by
  rintro pins s σ H x y v u Q I rx ry ⟨dx, dy, mh, ι, r1, r2, hr, ok⟩
  cases r1 <;> cases r2 <;> try exact ok.elim
  · rename_i i j; exact op_le pins s σ H _ _ v u Q I rx ry ⟨i, j, rfl, rfl, fin hr (.bl _) ok⟩
  · rename_i i j; exact op_le_str pins s σ H _ _ v u Q I rx ry ⟨i, j, rfl, rfl, fin hr (.bl _) ok⟩
theorem is_ok : OpR X (compareOp .Is) (rM X.K cl E isD) := by
  rintro pins s σ H x y v u Q I rx ry ⟨dx, dy, mh, ι, r1, r2, hr, ok⟩
  cases r2 <;> try exact ok.elim
  refine op_isN pins s σ H _ _ v u Q I rx ry ⟨rfl, ?_⟩
  cases r1 <;> exact fin hr (.bl _) ok
theorem isNot_ok : OpR X (compareOp .IsNot) (rM X.K cl E isNotD) := by
  rintro pins s σ H x y v u Q I rx ry ⟨dx, dy, mh, ι, r1, r2, hr, ok⟩
  cases r2 <;> try exact ok.elim
  refine op_notN pins s σ H _ _ v u Q I rx ry ⟨rfl, ?_⟩
  cases r1 <;> exact fin hr (.bl _) ok
section
variable {K : PySem.W.Frag} {H : Hp} {ι : List Addr} {mh : MH}
theorem mapM_nil' {α β : Type} {f : α → Option β} : ([] : List α).mapM f = some [] := rfl
theorem mapM_cons' {α β : Type} {f : α → Option β} {a : α} {l : List α} {r : List β} (h : (a :: l).mapM f = some r) : ∃ b bs, f a = some b ∧ l.mapM f = some bs ∧ r = b :: bs := by
  rw [List.mapM_cons] at h
  cases e : f a with
  | none => rw [e] at h; cases h
  | some b =>
    cases e2 : l.mapM f with
    | none => rw [e, e2] at h; cases h
    | some bs => rw [e, e2] at h; exact ⟨b, bs, rfl, rfl, (Option.some.inj h).symm⟩
theorem dpAll {f : D → Option PyData} (hf : ∀ d v p, Rep K H ι d v → f d = some p → Dp K H v p) : ∀ {ds : List D} {vs : List V} {ps : List PyData}, Reps K H ι ds vs → ds.mapM f = some ps → DpAll K H vs ps
  | _, _, _, .nil, h => by rw [mapM_nil'] at h; cases h; exact .nil
  | _, _, _, .cons r t, h => by
    obtain ⟨b, bs, h1, h2, rfl⟩ := mapM_cons' h
    exact .cons (hf _ _ _ r h1) (dpAll hf t h2)
theorem dp_of (hr : HR K cl H ι mh) : ∀ (k : Nat) (d : D) (v : V) (p : PyData), Rep K H ι d v → toPy k mh d = some p → Dp K H v p
  | 0, _, _, _, _, h => nomatch h
  | k + 1, d, v, p, r, h => by
    cases r with
    | non => cases h; exact .non
    | bl b => cases h; exact .bl b
    | int b => cases h; exact .int b
    | str b => cases h; exact .str b
    | tup s q =>
      obtain ⟨ps, h1, rfl⟩ := Option.map_eq_some_iff.mp h
      exact .tup s (dpAll (fun d v p r e => dp_of hr k d v p r e) q h1)
    | @ref n a hn =>
      simp only [toPy] at h
      cases e1 : mh[n]? with
      | none => rw [e1] at h; cases h
      | some o =>
        rw [e1] at h
        have ho := hr.ob n a o hn e1
        cases o with
        | lst ds =>
          obtain ⟨xs, h1, q⟩ := ho
          obtain ⟨ps, h2, rfl⟩ := Option.map_eq_some_iff.mp h
          exact .lst (SqL.of h1) (dpAll (fun d v p r e => dp_of hr k d v p r e) q h2)
        | _ => cases h
    | ty _ => cases h
    | wl s q =>
      obtain ⟨ps, h1, rfl⟩ := Option.map_eq_some_iff.mp h
      exact .lst s.sq (dpAll (fun d v p r e => dp_of hr k d v p r e) q h1)
theorem scal_of {x y : D} {v u : V} {b : Bool} (r1 : Rep K H ι x v) (r2 : Rep K H ι y u) (h : scalD x y = some b) : scal v u = true ∧ decide (v = u) = b := by
  cases r1 <;> cases r2 <;> simp only [scalD] at h <;> first | cases h | skip
  all_goals first | exact ⟨rfl, by simp⟩ | exact ⟨rfl, by simp_all⟩
end
theorem eq_ok (hu : X.A.units + 64 < cLine) : OpR X (compareOp .Eq) (rM X.K cl E eqD) := by
  rintro pins s σ H x y v u Q I rx ry ⟨dx, dy, mh, ι, r1, r2, hr, ok⟩
  unfold eqD eqO at ok
  cases hs : scalD dx dy with
  | some b =>
    rw [hs] at ok
    obtain ⟨h1, h2⟩ := scal_of r1 r2 hs
    exact op_eq pins s σ H _ _ v u Q I rx ry ⟨h1, by rw [h2]; exact fin hr (.bl _) ok⟩
  | none =>
    rw [hs] at ok
    cases e1 : toPy pyDepth mh dx with
    | none => rw [e1] at ok; exact ok.elim
    | some p =>
      cases e2 : toPy pyDepth mh dy with
      | none => rw [e1, e2] at ok; exact ok.elim
      | some q =>
        rw [e1, e2] at ok
        simp only at ok
        split at ok
        · rename_i b hb
          split at hb
          · rename_i hl; cases hb
            exact op_eqD hu pins s σ H _ _ v u Q I rx ry ⟨p, q, dp_of hr _ _ _ _ r1 e1, dp_of hr _ _ _ _ r2 e2, hl.1, hl.2, fin hr (.bl _) ok⟩
          · cases hb
        · exact ok.elim
theorem ne_ok (hu : X.A.units + 64 < cLine) : OpR X (compareOp .NotEq) (rM X.K cl E neD) := by
  rintro pins s σ H x y v u Q I rx ry ⟨dx, dy, mh, ι, r1, r2, hr, ok⟩
  unfold neD eqO at ok
  cases hs : scalD dx dy with
  | some b =>
    rw [hs] at ok
    obtain ⟨h1, h2⟩ := scal_of r1 r2 hs
    exact op_ne pins s σ H _ _ v u Q I rx ry ⟨h1, by rw [h2]; exact fin hr (.bl _) ok⟩
  | none =>
    rw [hs] at ok
    cases e1 : toPy pyDepth mh dx with
    | none => rw [e1] at ok; exact ok.elim
    | some p =>
      cases e2 : toPy pyDepth mh dy with
      | none => rw [e1, e2] at ok; exact ok.elim
      | some q =>
        rw [e1, e2] at ok
        simp only at ok
        split at ok
        · rename_i b hb
          split at hb
          · rename_i hl; cases hb
            exact op_neD hu pins s σ H _ _ v u Q I rx ry ⟨p, q, dp_of hr _ _ _ _ r1 e1, dp_of hr _ _ _ _ r2 e2, hl.1, hl.2, fin hr (.bl _) ok⟩
          · cases hb
        · exact ok.elim
section
variable {K : PySem.W.Frag} {H : Hp} {ι : List Addr} {mh : MH}
theorem flat_of {d : D} {v : V} (r : Rep K H ι d v) : flatD d = flatV v := by cases r <;> rfl
theorem eqF_of {d e : D} {v u : V} (r1 : Rep K H ι d v) (r2 : Rep K H ι e u) : eqF d e = eqV v u := by cases r1 <;> cases r2 <;> rfl
theorem flats_of : ∀ {ds : List D} {vs : List V}, Reps K H ι ds vs → ds.all flatD = vs.all flatV
  | _, _, .nil => rfl
  | _, _, .cons r t => by rw [List.all_cons, List.all_cons, flat_of r, flats_of t]
theorem anyF_of {x : D} {u : V} (r : Rep K H ι x u) : ∀ {ds : List D} {vs : List V}, Reps K H ι ds vs → (ds.any fun d => eqF d x) = inV u vs
  | _, _, .nil => rfl
  | _, _, .cons q t => by
    have e := anyF_of r t
    unfold inV at e ⊢
    rw [List.any_cons, List.any_cons, eqF_of q r, e]
theorem seq_of {y : D} {v : V} {ds : List D} (hr : HR K cl H ι mh) (r : Rep K H ι y v) (h : seqO y mh = some ds) : ∃ p xs, v = .ref p ∧ (SqL K H p xs ∨ SqT K H p xs) ∧ Reps K H ι ds xs := by
  cases r <;> try cases h
  · rename_i s q; exact ⟨_, _, rfl, .inr s, q⟩
  · rename_i n a hn
    simp only [seqO] at h
    cases e1 : mh[n]? with
    | none => rw [e1] at h; cases h
    | some o =>
      rw [e1] at h
      have ho := hr.ob n a o hn e1
      cases o <;> try cases h
      · obtain ⟨xs, h1, q⟩ := ho; exact ⟨_, xs, rfl, .inl (SqL.of h1), q⟩
  · rename_i s q; exact ⟨_, _, rfl, .inl s.sq, q⟩
theorem key_at {x : D} {v : V} {k : Key} (r : Rep K H ι x v) (h : keyD x = some k) : v = kV k := by
  cases r <;> cases h <;> rfl
theorem val_of {κ : Type} [DecidableEq κ] {k : κ} : ∀ {ds : List (κ × D)} {vs : List (κ × V)}, Prs K H ι ds vs → match valD ds k, valV vs k with | some d, some v => Rep K H ι d v | none, none => True | _, _ => False
  | _, _, .nil => True.intro
  | _, _, .cons (a := p) (b := q) r t => by
    by_cases h : p.1 = k
    · have h' : q.1 = k := r.1 ▸ h
      simp only [valD, valV, List.find?_cons, h, h', decide_true, Option.map_some]
      exact r.2
    · have h' : ¬ q.1 = k := r.1 ▸ h
      have e := val_of (k := k) t
      simp only [valD, valV, List.find?_cons, h, h', decide_false] at e ⊢
      exact e
theorem vals_some {κ : Type} [DecidableEq κ] {k : κ} {ds : List (κ × D)} {vs : List (κ × V)} (r : Prs K H ι ds vs) : (valD ds k).isSome = (valV vs k).isSome := by
  have := val_of (k := k) r
  cases e1 : valD ds k <;> cases e2 : valV vs k <;> rw [e1, e2] at this <;> first | rfl | exact this.elim
theorem val_get {κ : Type} [DecidableEq κ] {k : κ} {ds : List (κ × D)} {vs : List (κ × V)} {d : D} (r : Prs K H ι ds vs) (h : valD ds k = some d) : ∃ v, valV vs k = some v ∧ Rep K H ι d v := by
  have := val_of (k := k) r
  rw [h] at this
  cases e2 : valV vs k with
  | none => rw [e2] at this; exact this.elim
  | some v => rw [e2] at this; exact ⟨v, rfl, this⟩
end
/-- what «in» asks -/
theorem in_core {neg : Bool} {op : CmpOp} (hs : OpR X (compareOp op) (rIn X.K neg)) (ht : OpR X (compareOp op) (fun x y H Q => ∃ i j, x = .str i ∧ y = .str j ∧ Q (.bl (neg ^^ !(Builtin.Str.occurrences j i 0 j.length 1).isEmpty)) H))
    (hd : OpR X (compareOp op) (fun y x H Q => ∃ a o, x = .ref a ∧ DGet H a y o ∧ Q (.bl (neg ^^ o.isSome)) H)) :
    OpR X (compareOp op) (rM X.K cl E fun x y mh => match inO x y mh with | some b => .ok (.bl (neg ^^ b)) mh | none => .no) := by
  rintro pins s σ H x y v u Q I rx ry ⟨dx, dy, mh, ι, r1, r2, hr, ok⟩
  simp only at ok
  have seqc : ∀ ds, seqO dy mh = some ds → inO dx dy mh = (if flatD dx = true ∧ ds.all flatD = true then some (ds.any fun d => eqF d dx) else none) → wpAny (model X.prog X.w) X.A (compareOp op v u) (EP X pins σ Q) X.xe s := fun ds e1 e2 => by
    rw [e2] at ok
    obtain ⟨p, xs, rfl, sq, q⟩ := seq_of hr r2 e1
    split at ok
    · rename_i b hb
      split at hb
      · rename_i hf
        cases hb
        refine hs pins s σ H _ _ v u Q I rx ry ⟨p, xs, rfl, sq, flat_of r1 ▸ hf.1, flats_of q ▸ hf.2, ?_⟩
        have ok' := fin hr (.bl _) ok
        rw [anyF_of r1 q] at ok'
        cases neg <;> simpa using ok'
      · cases hb
    · exact ok.elim
  cases r2 with
  | non => simp only [inO, seqO] at ok; exact ok.elim
  | bl b => simp only [inO, seqO] at ok; exact ok.elim
  | int b => simp only [inO, seqO] at ok; exact ok.elim
  | str b =>
    cases r1 <;> simp only [inO] at ok <;> try exact ok.elim
    rename_i a
    exact ht pins s σ H _ _ v u Q I rx ry ⟨a, b, rfl, rfl, fin hr (.bl _) ok⟩
  | tup sq q => exact seqc _ rfl (by simp only [inO, seqO])
  | ty b => simp only [inO, seqO] at ok; exact ok.elim
  | wl sq q => exact seqc _ rfl (by simp only [inO, seqO])
  | @ref n a hn =>
    cases e1 : mh[n]? with
    | none => simp only [inO, seqO, e1] at ok; exact ok.elim
    | some o =>
      have ho := hr.ob n a o hn e1
      cases o with
      | lst ds => exact seqc ds (by simp only [seqO, e1]) (by simp only [inO, seqO, e1])
      | dic kvs =>
        simp only [inO, seqO, e1] at ok
        cases hk : keyD dx with
        | none => rw [hk] at ok; exact ok.elim
        | some k =>
          rw [hk] at ok
          have ex := key_at r1 hk
          subst ex
          obtain ⟨vs, h1, q⟩ := ho
          refine hd pins s σ H _ _ v u Q I rx ry ⟨a, _, rfl, DGet.k h1, ?_⟩
          rw [← vals_some q]
          exact fin hr (.bl _) ok
      | dit kvs => simp only [inO, seqO, e1] at ok; exact ok.elim
      | dil kvs => simp only [inO, seqO, e1] at ok; exact ok.elim
      | ins C fs => simp only [inO, seqO, e1] at ok; exact ok.elim
theorem in_ok (hu : X.A.units + 1 < cLine) : OpR X (compareOp .In) (rM X.K cl E inD) := by
  have h := in_core (X := X) (cl := cl) (E := E) (neg := false) op_in_seq (by simpa using op_in_str) (by
    rintro pins s σ H x y v u Q I rx ry ⟨a, o, rfl, g, q⟩
    cases ry
    exact d_in hu I g rx fun s' I' => ⟨.bl _, H, I', rfl, by simpa using q⟩)
  have e : (fun x y mh => match inO x y mh with | some b => Res.ok (D.bl (false ^^ b)) mh | none => .no) = inD := by
    funext x y mh; unfold inD; cases inO x y mh <;> simp
  exact e ▸ h
theorem nin_ok (hu : X.A.units + 1 < cLine) : OpR X (compareOp .NotIn) (rM X.K cl E ninD) := by
  have h := in_core (X := X) (cl := cl) (E := E) (neg := true) op_notIn_seq (by simpa using op_notIn_str) (by
    rintro pins s σ H x y v u Q I rx ry ⟨a, o, rfl, g, q⟩
    cases ry
    exact d_notIn hu I g rx fun s' I' => ⟨.bl _, H, I', rfl, by simpa using q⟩)
  have e : (fun x y mh => match inO x y mh with | some b => Res.ok (D.bl (true ^^ b)) mh | none => .no) = ninD := by
    funext x y mh; unfold ninD; cases inO x y mh <;> simp
  exact e ▸ h
theorem comp_ok (hu : X.A.units + 64 < cLine) : ∀ op : CmpOp, OpR X (compareOp op) (rM X.K cl E (compD op))
  | .Eq => eq_ok hu
  | .NotEq => ne_ok hu
  | .Lt => lt_ok
  | .LtE => le_ok
  | .Gt => cmp_ok op_gt
  | .GtE => cmp_ok op_ge
  | .Is => is_ok
  | .IsNot => isNot_ok
  | .In => in_ok (by omega)
  | .NotIn => nin_ok (by omega)
end
end Mir
namespace Mir
open PySem PySem.Spec L2

/-! ### subscripts, slices -/
def leafD : D → Option Leaf
  | .non => some .none
  | .bl b => some (.num (if b then 1 else 0))
  | .int i => some (.num i)
  | .str x => some (.text x)
  | _ => none
def ixO (x y : D) (mh : MH) : Option D := match x, y with
  | .tup ds, .int i => atI ds i
  | .wl ds, .int i => atI ds i
  | .str z, .int i => if z.length ≤ sizeLine then (atI z.cps.toList i).map fun c => .str ⟨#[c]⟩ else none
  | .ref n, y => match mh[n]? with
    | some (.lst ds) => match y with | .int i => atI ds i | _ => none
    | some (.dic kvs) => match keyD y with | some k => valD kvs k | none => none
    | some (.dil kvs) => match leafD y with | some k => valD kvs k | none => none
    | _ => none
  | _, _ => none
def ixD (x y : D) (mh : MH) : Res D := match ixO x y mh with | some d => .ok d mh | none => .no
def cutD {α : Type} (xs : List α) (lo hi : Option Int) : List α := (xs.drop (HT.sIx xs.length 0 lo)).take (HT.sIx xs.length xs.length hi - HT.sIx xs.length 0 lo)
def slD (x : D) (lo hi : Option Int) (mh : MH) : Res D := match x with
  | .tup ds => .ok (.tup (cutD ds lo hi)) mh
  | .wl ds => .ok (.ref mh.length) (mh ++ [.lst (cutD ds lo hi)])
  | .ref n => match mh[n]? with
    | some (.lst ds) => .ok (.ref mh.length) (mh ++ [.lst (cutD ds lo hi)])
    | _ => .no
  | _ => .no
def partM (a : ME) : Ro → MH → Res (Option Int) := fun ρ h => (a ρ h).bind fun x h => match x with | .int i => .ok (some i) h | _ => .no
def noPart : Ro → MH → Res (Option Int) := fun _ h => .ok none h
def sliceM (a : ME) (lo hi : Ro → MH → Res (Option Int)) : ME := fun ρ h => (a ρ h).bind fun x h => (lo ρ h).bind fun l h => (hi ρ h).bind fun u h => slD x l u h
section
variable {K : PySem.W.Frag} {cl : Clm} {E : XK} {H : Hp} {ι : List Addr} {mh : MH}
theorem atI_of {ds : List D} {vs : List V} {i : Int} {d : D} (r : Reps K H ι ds vs) (h : atI ds i = some d) : ∃ v, atI vs i = some v ∧ Rep K H ι d v := by
  unfold atI at h ⊢
  rw [r.length] at h
  cases e : ixN vs.length i with
  | none => rw [e] at h; cases h
  | some j => rw [e] at h; exact r.get h
theorem Reps.cut {ds : List D} {vs : List V} {lo hi : Option Int} (r : Reps K H ι ds vs) : Reps K H ι (cutD ds lo hi) (cutV vs lo hi) := by
  unfold cutD cutV
  rw [r.length]
  exact (r.drop _).take _
end
section
variable {X : Cx} {cl : Clm} {E : XK} {a e : Expr} {pos p2 : Pos} {ma : ME}
theorem ix_dict (hu : X.A.units + 1 < cLine) : IxR X (fun x y H Q => ∃ a v, x = .ref a ∧ DGet H a y (some v) ∧ Q v H) := by
  rintro value slice pins s σ H x y v u Q I rx ry ⟨a, z, rfl, g, q⟩ hs
  cases rx
  exact PyProof.Rows.tail_any (dict_typeIs I g) PySem.F.slot_dict_getitem.lookup (d_getItem hu I g ry fun w' s3 I3 rw' => ⟨z, H, I3, rw', q⟩) hs
theorem leaf_at {K : PySem.W.Frag} {H : Hp} {ι : List Addr} {x : D} {v : V} {u : Value} {k : Leaf} {P : Program} {w : World} (r : Rep K H ι x v) (q : RelV v u) (h : leafD x = some k) : (leafKind P w).is k u = true := by
  cases r <;> cases h
  · cases q; rfl
  · rename_i b; cases q; cases b <;> rfl
  · obtain ⟨t, rfl⟩ := q; show Leaf.isOf (.num _) (.int _ t) = true; simp [Leaf.isOf, Value.isInt]
  · obtain ⟨t, rfl⟩ := q; show Value.isStrOf _ (.str _ t) = true; simp [Value.isStrOf]
theorem bd_of {P : Program} {w : World} {H : Hp} {h : Heap} {a : Addr} {vs : List (Leaf × V)} (ok : HOk P w H h) (e : H a = some (bO P w a vs)) : BD P w a vs h := (show ObjOk P w H h a (bO P w a vs) from ok a _ e).1
theorem ix_ok (hcP : cl.P = X.prog) (hcw : cl.w = X.w) (hu : X.A.units + 1 < cLine) : IxR X (rM X.K cl E ixD) := by
  rintro value slice pins s σ H x y v u Q I rx ry ⟨dx, dy, mh, ι, r1, r2, hr, ok⟩ hs
  unfold ixD at ok
  cases ho : ixO dx dy mh with
  | none => rw [ho] at ok; exact ok.elim
  | some d =>
    rw [ho] at ok
    cases r1 with
    | non => cases ho
    | bl _ => cases ho
    | int _ => cases ho
    | ty _ => cases ho
    | tup s1 q1 =>
      cases r2 <;> try cases ho
      rename_i i
      obtain ⟨w, h1, h2⟩ := atI_of q1 ho
      exact ix_tup value slice pins s σ H _ _ v u Q I rx ry ⟨_, _, i, w, rfl, rfl, s1, h1, fin hr h2 ok⟩ hs
    | wl s1 q1 =>
      cases r2 <;> try cases ho
      rename_i i
      obtain ⟨w, h1, h2⟩ := atI_of q1 ho
      exact ix_list value slice pins s σ H _ _ v u Q I rx ry ⟨_, _, i, w, rfl, rfl, s1.sq, h1, fin hr h2 ok⟩ hs
    | str z =>
      cases r2 <;> try cases ho
      rename_i i
      simp only [ixO] at ho
      split at ho
      · rename_i hl
        obtain ⟨c, h1, rfl⟩ := Option.map_eq_some_iff.mp ho
        exact ix_str value slice pins s σ H _ _ v u Q I rx ry ⟨z, i, c, rfl, rfl, hl, h1, fin hr (.str _) ok⟩ hs
      · cases ho
    | @ref n b hn =>
      simp only [ixO] at ho
      cases e1 : mh[n]? with
      | none => rw [e1] at ho; cases ho
      | some o =>
        rw [e1] at ho
        have hb := hr.ob n b o hn e1
        cases o with
        | lst ds =>
          obtain ⟨xs, g1, g2⟩ := hb
          cases r2 <;> try cases ho
          rename_i i
          obtain ⟨w, h1, h2⟩ := atI_of g2 ho
          exact ix_list value slice pins s σ H _ _ v u Q I rx ry ⟨_, _, i, w, rfl, rfl, SqL.of g1, h1, fin hr h2 ok⟩ hs
        | dic kvs =>
          obtain ⟨vs, g1, g2⟩ := hb
          simp only at ho
          cases hk : keyD dy with
          | none => rw [hk] at ho; cases ho
          | some k =>
            rw [hk] at ho
            have ey := key_at r2 hk
            subst ey
            obtain ⟨w, h1, h2⟩ := val_get g2 ho
            have g := DGet.k (k := k) g1
            rw [h1] at g
            exact ix_dict hu value slice pins s σ H _ _ v u Q I rx ry ⟨b, w, rfl, g, fin hr h2 ok⟩ hs
        | dil kvs =>
          obtain ⟨vs, g1, g2⟩ := hb
          simp only at ho
          cases hk : leafD dy with
          | none => rw [hk] at ho; cases ho
          | some k =>
            rw [hk] at ho
            obtain ⟨w, h1, h2⟩ := val_get g2 ho
            rw [hcP, hcw] at g1
            obtain ⟨z, hd, us, rel, dd⟩ := bd_of I.hok g1
            obtain ⟨w', hw, rw'⟩ := RelO.some_of (v := w) (o := valueAt us k) (by rw [← h1]; exact rel.val k)
            cases rx
            exact PyProof.Rows.tail_any dd.typeIs PySem.F.slot_dict_getitem.lookup (wpAny_getItem_of (leaf_at r2 ry hk) dd.mapOf hw ⟨w, H, I.tok _, rw', fin hr h2 ok⟩) hs
        | _ => cases ho
def tMO (K : PySem.W.Frag) (cl : Clm) (E : XK) (m : Ro → MH → Res (Option Int)) : TO := fun σ H Q => ∃ ρ mh ι, SR K H ι ρ σ ∧ HR K cl H ι mh ∧ okR K cl E ι H (m ρ mh) fun o H' _ => Q o H'
theorem m_part (ha : PE X a (tM X.K cl E ma)) : PO X (some a) (tMO X.K cl E (partM ma)) := by
  refine ⟨fun pins s σ H Q I ⟨ρ, mh, ι, sr, hr, ok⟩ => (po_some ha).run pins s σ H Q I ?_⟩
  refine tM.mono (step sr hr ok) fun v H1 ⟨d1, mh1, ι1, e1, sr1, hr1, r1, q1⟩ => ?_
  cases r1 <;> try exact q1.elim
  exact ⟨_, rfl, q1 H1 ι1 hr1 .refl⟩
theorem m_nopart : PO X none (tMO X.K cl E noPart) := ⟨fun pins s σ H Q I ⟨ρ, mh, ι, sr, hr, ok⟩ => po_none.run pins s σ H Q I (ok H ι hr .refl)⟩
theorem sl_ok : SlR X (fun x lo hi H Q => ∃ dx mh ι, Rep X.K H ι dx x ∧ HR X.K cl H ι mh ∧ okR X.K cl E ι H (slD dx lo hi mh) (pE X.K Q)) := by
  rintro pins s σ H x v vl vu lo hi sl Q I rx hs pl pu ⟨dx, mh, ι, r1, hr, ok⟩
  cases r1 with
  | tup s1 q1 =>
    refine sl_tupA pins s σ H _ v vl vu lo hi sl Q I rx hs pl pu ⟨_, _, rfl, s1, fun hw => ?_, fun _ p hp => new_tup hr q1.cut ok hp⟩
    rename_i xs ds
    have e : cutD ds lo hi = ds := by
      unfold cutD
      rw [q1.length, hw.1, hw.2, List.drop_zero, Nat.sub_zero, ← q1.length, List.take_length]
    refine fin hr (.tup s1 ?_) ok
    rw [e]; exact q1
  | @ref n b hn =>
    simp only [slD] at ok
    cases e1 : mh[n]? with
    | none => rw [e1] at ok; exact ok.elim
    | some o =>
      rw [e1] at ok
      have hb := hr.ob n b o hn e1
      cases o <;> try exact ok.elim
      · obtain ⟨xs, g1, g2⟩ := hb
        exact sl_list pins s σ H _ v vl vu lo hi sl Q I rx hs pl pu ⟨_, _, rfl, SqL.of g1, fun p hp => new_lst hr g2.cut ok hp⟩
  | wl s1 q1 => exact sl_list pins s σ H _ v vl vu lo hi sl Q I rx hs pl pu ⟨_, _, rfl, s1.sq, fun p hp => new_lst hr q1.cut ok hp⟩
  | _ => exact ok.elim
theorem m_slice {lo hi : Option Expr} {ml mu : Ro → MH → Res (Option Int)} (he : PE X e (tM X.K cl E ma)) (hl : PO X lo (tMO X.K cl E ml)) (hu : PO X hi (tMO X.K cl E mu)) : PE X (.Subscript e (.Slice lo hi none p2) pos) (tM X.K cl E (sliceM ma ml mu)) :=
  (pe_slice sl_ok he hl hu).imp fun σ H Q ⟨ρ, mh, ι, sr, hr, ok⟩ => by
    refine tM.mono (step sr hr ok) fun v H1 ⟨d1, mh1, ι1, e1, sr1, hr1, r1, q1⟩ => ?_
    refine ⟨ρ, mh1, ι1, sr1, hr1, okR.imp q1.bnd fun o H2 ι2 e2 ⟨mh2, hr2, q2⟩ => ?_⟩
    refine ⟨ρ, mh2, ι2, sr1.mono e2, hr2, okR.imp q2.bnd fun o' H3 ι3 e3 ⟨mh3, hr3, q3⟩ => ?_⟩
    exact ⟨d1, mh3, ι3, (r1.mono e2).mono e3, hr3, q3⟩
end

/-! ### built-ins by values -/
def lenO (x : D) (mh : MH) : Option Nat := match x with
  | .str y => if y.length ≤ sizeLine then some y.length else none
  | .tup ds => some ds.length
  | .wl ds => some ds.length
  | .ref n => match mh[n]? with
    | some (.lst ds) => some ds.length
    | some (.dic kvs) => some kvs.length
    | _ => none
  | _ => none
def intsO : List D → Option (List Int)
  | [] => some []
  | .int i :: r => (intsO r).map (i :: ·)
  | _ => none
def tyN (x : D) (mh : MH) : Option String := match x with
  | .non => some "NoneType" | .bl _ => some "bool" | .int _ => some "int" | .str _ => some "str" | .tup _ => some "tuple"
  | .ref n => match mh[n]? with | some (.lst _) => some "list" | some (.dic _) => some "dict" | _ => none
  | .ty _ => none
  | .wl _ => some "list"
def bltD (f : String) (xs : List D) (mh : MH) : Res D :=
  if f = "len" then match xs with | [x] => (match lenO x mh with | some n => .ok (.int n) mh | none => .no) | _ => .no
  else if f = "abs" then match xs with | [.int i] => .ok (.int (if i < 0 then -i else i)) mh | _ => .no
  else if f = "ord" then match xs with | [.str x] => if x.length = 1 then .ok (.int (x.cps.getD 0 0 : Nat)) mh else .no | _ => .no
  else if f = "max" then match xs with | [.int i, .int j] => .ok (.int (if j > i then j else i)) mh | _ => .no
  else if f = "min" then match xs with | [.int i, .int j] => .ok (.int (if j < i then j else i)) mh | _ => .no
  else if f = "sum" then match xs with | [x] => (match (seqO x mh).bind intsO with | some ns => (match x with | .ref _ => .ok (.int ns.sum) mh | _ => .no) | none => .no) | _ => .no
  else if f = "isinstance" then match xs with | [x, .ty b] => (match (tyN x mh).bind fun a => kitB a b with | some r => .ok (.bl r) mh | none => .no) | _ => .no
  else .no
def tyD (f : String) (xs : List D) (mh : MH) : Res D :=
  if f = "int" then match xs with | [.int i] => .ok (.int i) mh | [.bl k] => .ok (.int (if k then 1 else 0)) mh | _ => .no
  else if f = "tuple" then match xs with | [x] => (match seqO x mh with | some ds => .ok (.tup ds) mh | none => .no) | _ => .no
  else if f = "list" then match xs with | [x] => (match seqO x mh with | some ds => .ok (.ref mh.length) (mh ++ [.lst ds]) | none => .no) | _ => .no
  else .no
section
variable {K : PySem.W.Frag} {cl : Clm} {H : Hp} {ι : List Addr} {mh : MH}
theorem ints_of : ∀ {ds : List D} {vs : List V} {ns : List Int}, Reps K H ι ds vs → intsO ds = some ns → vs = ns.map V.int
  | _, _, _, .nil, h => by cases h; rfl
  | _, _, _, .cons r t, h => by
    cases r <;> try cases h
    obtain ⟨ms, h1, rfl⟩ := Option.map_eq_some_iff.mp h
    rw [ints_of t h1]; rfl
theorem Prs.len {κ : Type} : ∀ {ds : List (κ × D)} {vs : List (κ × V)}, Prs K H ι ds vs → ds.length = vs.length
  | _, _, .nil => rfl
  | _, _, .cons _ t => congrArg (· + 1) (Prs.len t)
theorem one_of {x : D} {vs : List V} (r : Reps K H ι [x] vs) : ∃ v, vs = [v] ∧ Rep K H ι x v := by
  cases r with | cons r t => cases t; exact ⟨_, rfl, r⟩
theorem two_of {x y : D} {vs : List V} (r : Reps K H ι [x, y] vs) : ∃ v u, vs = [v, u] ∧ Rep K H ι x v ∧ Rep K H ι y u := by
  cases r with | cons r t => obtain ⟨u, rfl, q⟩ := one_of t; exact ⟨_, u, rfl, r, q⟩
end
section
variable {X : Cx} {cl : Clm} {E : XK}
theorem len_ok : CallR X (.builtin "len") (rMA X.K cl E (bltD "len")) := by
  rintro pins s σ H xs us Q I r ⟨ds, mh, ι, r1, hr, ok⟩
  unfold bltD at ok
  rw [if_pos rfl] at ok
  match ds, r1, ok with
  | [], _, ok => exact ok.elim
  | _ :: _ :: _, _, ok => exact ok.elim
  | [x], r1, ok =>
    obtain ⟨v, rfl, rx⟩ := one_of r1
    simp only at ok
    cases hl : lenO x mh with
    | none => rw [hl] at ok; exact ok.elim
    | some n =>
      rw [hl] at ok
      have q := fin hr (.int (n : Int)) ok
      cases rx with
      | str y =>
        simp only [lenO] at hl
        split at hl
        · rename_i z; cases hl; exact call_len pins s σ H _ us Q I r ⟨_, _, rfl, ⟨z, rfl⟩, q⟩
        · cases hl
      | wl s1 q1 => cases hl; exact call_len pins s σ H _ us Q I r ⟨_, _, rfl, .inl ⟨_, s1.sq, q1.length⟩, q⟩
      | tup s1 q1 => cases hl; exact call_len pins s σ H _ us Q I r ⟨_, _, rfl, .inr ⟨_, s1, q1.length⟩, q⟩
      | @ref m b hn =>
        simp only [lenO] at hl
        cases e1 : mh[m]? with
        | none => rw [e1] at hl; cases hl
        | some o =>
          rw [e1] at hl
          have hb := hr.ob m b o hn e1
          cases o with
          | lst ds => cases hl; obtain ⟨ys, g1, g2⟩ := hb; exact call_len pins s σ H _ us Q I r ⟨_, _, rfl, .inl ⟨_, SqL.of g1, g2.length⟩, q⟩
          | dic kvs =>
            cases hl
            obtain ⟨ys, g1, g2⟩ := hb
            obtain ⟨u, rfl, ru⟩ := vals1 r
            cases ru
            refine d_len I (Rd.of g1) fun t s' I' => ⟨.int kvs.length, H, I', ⟨t, ?_⟩, q⟩
            rw [Prs.len g2]
          | _ => cases hl
      | _ => cases hl
theorem abs_ok : CallR X (.builtin "abs") (rMA X.K cl E (bltD "abs")) := by
  rintro pins s σ H xs us Q I r ⟨ds, mh, ι, r1, hr, ok⟩
  unfold bltD at ok
  rw [if_neg (by decide), if_pos rfl] at ok
  split at ok
  · obtain ⟨v, rfl, rx⟩ := one_of r1
    cases rx
    exact call_abs pins s σ H _ us Q I r ⟨_, rfl, fin hr (.int _) ok⟩
  · exact ok.elim
theorem ord_ok : CallR X (.builtin "ord") (rMA X.K cl E (bltD "ord")) := by
  rintro pins s σ H xs us Q I r ⟨ds, mh, ι, r1, hr, ok⟩
  unfold bltD at ok
  rw [if_neg (by decide), if_neg (by decide), if_pos rfl] at ok
  split at ok
  · obtain ⟨v, rfl, rx⟩ := one_of r1
    cases rx
    split at ok
    · rename_i hl; exact call_ord pins s σ H _ us Q I r ⟨_, rfl, hl, fin hr (.int _) ok⟩
    · exact ok.elim
  · exact ok.elim
theorem max_ok (hc : X.calm = true) : CallR X (.builtin "max") (rMA X.K cl E (bltD "max")) := by
  rintro pins s σ H xs us Q I r ⟨ds, mh, ι, r1, hr, ok⟩
  unfold bltD at ok
  rw [if_neg (by decide), if_neg (by decide), if_neg (by decide), if_pos rfl] at ok
  split at ok
  · obtain ⟨v, u, rfl, rx, ry⟩ := two_of r1
    cases rx; cases ry
    exact call_max2 hc pins s σ H _ us Q I r ⟨_, _, rfl, fin hr (.int _) ok⟩
  · exact ok.elim
theorem min_ok (hc : X.calm = true) : CallR X (.builtin "min") (rMA X.K cl E (bltD "min")) := by
  rintro pins s σ H xs us Q I r ⟨ds, mh, ι, r1, hr, ok⟩
  unfold bltD at ok
  rw [if_neg (by decide), if_neg (by decide), if_neg (by decide), if_neg (by decide), if_pos rfl] at ok
  split at ok
  · obtain ⟨v, u, rfl, rx, ry⟩ := two_of r1
    cases rx; cases ry
    exact call_min2 hc pins s σ H _ us Q I r ⟨_, _, rfl, fin hr (.int _) ok⟩
  · exact ok.elim
theorem sum_ok (hc : X.calm = true) : CallR X (.builtin "sum") (rMA X.K cl E (bltD "sum")) := by
  rintro pins s σ H xs us Q I r ⟨ds, mh, ι, r1, hr, ok⟩
  unfold bltD at ok
  rw [if_neg (by decide), if_neg (by decide), if_neg (by decide), if_neg (by decide), if_neg (by decide), if_pos rfl] at ok
  split at ok
  · obtain ⟨v, rfl, rx⟩ := one_of r1
    split at ok
    · rename_i x ns hns
      obtain ⟨es, h1, h2⟩ := Option.bind_eq_some_iff.mp hns
      split at ok
      · rename_i n
        cases rx
        rename_i a hn
        simp only [seqO] at h1
        cases e1 : mh[n]? with
        | none => rw [e1] at h1; cases h1
        | some o =>
          rw [e1] at h1
          have hb := hr.ob n a o hn e1
          cases o <;> try cases h1
          · obtain ⟨ys, g1, g2⟩ := hb
            rw [ints_of g2 h2] at g1
            exact cr_sum hc pins s σ H _ us Q I r ⟨a, ns, rfl, SqL.of g1, fin hr (.int _) ok⟩
      · exact ok.elim
    · exact ok.elim
  · exact ok.elim
theorem ty_of {H : Hp} {ι : List Addr} {mh : MH} {x : D} {v : V} {a : String} (hr : HR X.K cl H ι mh) (r : Rep X.K H ι x v) (h : tyN x mh = some a) : TyX X.K H v (.type a) := by
  cases r with
  | non => cases h; exact .base .non
  | bl _ => cases h; exact .base (.bl _)
  | int _ => cases h; exact .base (.int _)
  | str _ => cases h; exact .base (.str _)
  | tup s q =>
    cases h
    rcases s with (s | ⟨o, s⟩) | ⟨o, its, n, hk, hc, _⟩
    · exact .base (.tup s)
    · exact .fTuple s
    · exact .kTuple hk hc
  | @ref n b hn =>
    simp only [tyN] at h
    cases e1 : mh[n]? with
    | none => rw [e1] at h; cases h
    | some o =>
      rw [e1] at h
      have hb := hr.ob n b o hn e1
      cases o <;> try cases h
      · obtain ⟨ys, g1, g2⟩ := hb; exact .base (.lst g1)
      · obtain ⟨ys, g1, g2⟩ := hb; exact .base (.dK g1)
  | ty _ => cases h
  | wl s q =>
    cases h
    rcases s with ⟨o, s⟩ | ⟨o, its, n, hk, hc, _⟩
    · exact .base (.frz s)
    · exact .kList hk hc
theorem isi_ok : CallR X (.builtin "isinstance") (rMA X.K cl E (bltD "isinstance")) := by
  rintro pins s σ H xs us Q I r ⟨ds, mh, ι, r1, hr, ok⟩
  unfold bltD at ok
  rw [if_neg (by decide), if_neg (by decide), if_neg (by decide), if_neg (by decide), if_neg (by decide), if_neg (by decide), if_pos rfl] at ok
  split at ok
  · obtain ⟨v, u, rfl, rx, ry⟩ := two_of r1
    cases ry
    split at ok
    · rename_i k hk
      obtain ⟨a, h1, h2⟩ := Option.bind_eq_some_iff.mp hk
      exact call_isi pins s σ H _ us Q I r ⟨_, _, _, _, k, rfl, .ty _, ty_of hr rx h1, kit_ty h2, fin hr (.bl _) ok⟩
    · exact ok.elim
  · exact ok.elim
theorem blt_ok (hc : X.calm = true) : ∀ f ∈ ["len", "abs", "ord", "max", "min", "sum", "isinstance"], CallR X (.builtin f) (rMA X.K cl E (bltD f)) := by
  intro f hf
  simp only [List.mem_cons, List.not_mem_nil, or_false] at hf
  rcases hf with rfl | rfl | rfl | rfl | rfl | rfl | rfl
  · exact len_ok
  · exact abs_ok
  · exact ord_ok
  · exact max_ok hc
  · exact min_ok hc
  · exact sum_ok hc
  · exact isi_ok
theorem int_ty_ok : CallR X (.type "int") (rMA X.K cl E (tyD "int")) := by
  rintro pins s σ H xs us Q I r ⟨ds, mh, ι, r1, hr, ok⟩
  unfold tyD at ok
  rw [if_pos rfl] at ok
  split at ok
  · obtain ⟨v, rfl, rx⟩ := one_of r1
    cases rx
    exact call_int1 pins s σ H _ us Q I r (.inl ⟨_, rfl, fin hr (.int _) ok⟩)
  · obtain ⟨v, rfl, rx⟩ := one_of r1
    cases rx
    exact call_int1 pins s σ H _ us Q I r (.inr ⟨_, rfl, fin hr (.int _) ok⟩)
  · exact ok.elim
theorem tuple_ty_ok : CallR X (.type "tuple") (rMA X.K cl E (tyD "tuple")) := by
  rintro pins s σ H xs us Q I r ⟨ds, mh, ι, r1, hr, ok⟩
  unfold tyD at ok
  rw [if_neg (by decide), if_pos rfl] at ok
  split at ok
  · obtain ⟨v, rfl, rx⟩ := one_of r1
    split at ok
    · rename_i es he
      obtain ⟨p, ys, rfl, sq, q⟩ := seq_of hr rx he
      refine call_tuple_of pins s σ H _ us Q I r ⟨p, ys, rfl, ?_⟩
      rcases sq with sq | sq
      · exact .inl ⟨sq, fun l hl => new_tup hr q ok hl⟩
      · exact .inr ⟨sq, fin hr (.tup sq q) ok⟩
    · exact ok.elim
  · exact ok.elim
theorem list_ty_ok : CallR X (.type "list") (rMA X.K cl E (tyD "list")) := by
  rintro pins s σ H xs us Q I r ⟨ds, mh, ι, r1, hr, ok⟩
  unfold tyD at ok
  rw [if_neg (by decide), if_neg (by decide), if_pos rfl] at ok
  split at ok
  · obtain ⟨v, rfl, rx⟩ := one_of r1
    split at ok
    · rename_i es he
      obtain ⟨p, ys, rfl, sq, q⟩ := seq_of hr rx he
      exact call_list_of pins s σ H _ us Q I r ⟨p, ys, rfl, sq, fun l hl => new_lst hr q ok hl⟩
    · exact ok.elim
  · exact ok.elim
theorem tyc_ok : ∀ f ∈ ["int", "tuple", "list"], CallR X (.type f) (rMA X.K cl E (tyD f)) := by
  intro f hf
  simp only [List.mem_cons, List.not_mem_nil, or_false] at hf
  rcases hf with rfl | rfl | rfl
  · exact int_ty_ok
  · exact tuple_ty_ok
  · exact list_ty_ok
end
end Mir
namespace Mir
open PySem PySem.Spec L2

/-! ### statements: the mirror's words -/
def nxS : MS := fun ρ h => .ok (.nx, ρ) h
def noS : MS := fun _ _ => .no
def bkS : MS := fun ρ h => .ok (.bk, ρ) h
def ctS : MS := fun ρ h => .ok (.ct, ρ) h
def seqS (a b : MS) : MS := fun ρ h => (a ρ h).bind fun r h => match r.1 with | .nx => b r.2 h | _ => .ok r h
def setS (i : Nat) (e : ME) : MS := fun ρ h => (e ρ h).bind fun d h => .ok (.nx, ρ.set i (some d)) h
def dropS (e : ME) : MS := fun ρ h => (e ρ h).bind fun _ h => .ok (.nx, ρ) h
def retS (e : ME) : MS := fun ρ h => (e ρ h).bind fun d h => .ok (.rt d, ρ) h
def retN : MS := fun ρ h => .ok (.rt .non, ρ) h
def ifS (t : MT) (a b : MS) : MS := fun ρ h => (t ρ h).bind fun c h => if c = true then a ρ h else b ρ h
def augS (i : Nat) (g : D → D → MH → Res D) (e : ME) : MS := fun ρ h => match ρ[i]? with
  | some (some x) => (e ρ h).bind fun y h => (g x y h).bind fun z h => .ok (.nx, ρ.set i (some z)) h
  | _ => .no
abbrev MG := D → Ro → MH → Res Ro
def nameG (i : Nat) : MG := fun d ρ h => .ok (ρ.set i (some d)) h
def namesG : List Nat → List D → Ro → Ro
  | i :: is, d :: ds, ρ => namesG is ds (ρ.set i (some d))
  | _, _, ρ => ρ
def tupG (is : List Nat) : MG := fun d ρ h => match d with | .tup ds => if ds.length = is.length then .ok (namesG is ds ρ) h else .no | _ => .no
def asgS (e : ME) (g : MG) : MS := fun ρ h => (e ρ h).bind fun d h => (g d ρ h).bind fun ρ' h => .ok (.nx, ρ') h
def setI (o i v : D) (h : MH) : Res Unit := match o with
  | .ref n => match h[n]? with
    | some (.lst ds) => (match i with | .int k => (match ixN ds.length k with | some j => .ok () (h.set n (.lst (ds.set j v))) | none => .no) | _ => .no)
    | _ => .no
  | _ => .no
def putD {κ : Type} [DecidableEq κ] (kvs : List (κ × D)) (k : κ) (v : D) : List (κ × D) :=
  if (kvs.any fun kv => decide (kv.1 = k)) = true then kvs.map fun kv => if kv.1 = k then (kv.1, v) else kv else kvs ++ [(k, v)]
def setK (o i v : D) (h : MH) : Res Unit := match o with
  | .ref n => match h[n]? with
    | some (.dic kvs) => (match keyD i with | some k => if kvs.length < sizeLine then .ok () (h.set n (.dic (putD kvs k v))) else .no | none => .no)
    | some (.lst _) => setI o i v h
    | some (.dil kvs) => (match leafD i with | some k => if kvs.length < sizeLine then .ok () (h.set n (.dil (putD kvs k v))) else .no | none => .no)
    | _ => .no
  | _ => .no
def subG (o i : ME) : MG := fun v ρ h => (o ρ h).bind fun ov h => (i ρ h).bind fun iv h => (setK ov iv v h).bind fun _ h => .ok ρ h
def whileL (c : MT) (b : MS) : Nat → Ro → MH → Res (Fl × Ro)
  | 0, _, _ => .no
  | k + 1, ρ, h => (c ρ h).bind fun t h => if t = true then (b ρ h).bind fun r h => (match r.1 with
      | .nx => whileL c b k r.2 h
      | .ct => whileL c b k r.2 h
      | .bk => .ok (.nx, r.2) h
      | .rt d => .ok (.rt d, r.2) h) else .ok (.nx, ρ) h
def fuelW : Nat := 1000000000
def whileS (c : MT) (b : MS) : MS := whileL c b fuelW
/-- what is walked: the items, and the check that it still stands -/
abbrev MI := Ro → MH → Res (List D × (MH → Bool))
def forL (chk : MH → Bool) (g : MG) (b : MS) : List D → Ro → MH → Res (Fl × Ro)
  | [], ρ, h => if chk h = true then .ok (.nx, ρ) h else .no
  | x :: xs, ρ, h => if chk h = true then (g x ρ h).bind fun ρ h => (b ρ h).bind fun r h => (match r.1 with
      | .nx => forL chk g b xs r.2 h
      | .ct => forL chk g b xs r.2 h
      | .bk => .ok (.nx, r.2) h
      | .rt d => .ok (.rt d, r.2) h) else .no
def forS (m : MI) (g : MG) (b : MS) : MS := fun ρ h => (m ρ h).bind fun p h => forL p.2 g b p.1 ρ h

section
variable {K : PySem.W.Frag} {cl : Clm} {E : XK} {H : Hp} {ι : List Addr} {ρ : Ro} {σ : L2.St} {mh : MH} {α : Type}
theorem finS {r : Fl × Ro} {Dn : Ends} (hr : HR K cl H ι mh) (sr : SR K H ι r.2 σ) (ok : okR K cl E ι H (.ok r mh) (pS K Dn)) : pFl K Dn ι σ H r.1 := ok H ι hr .refl σ sr
theorem contS {m : MS} {Dn : Ends} (sr : SR K H ι ρ σ) (hr : HR K cl H ι mh) (ok : okR K cl E ι H (m ρ mh) (pS K Dn)) : tMS K cl E m Dn σ H := ⟨ρ, mh, ι, sr, hr, ok⟩
def tMG (K : PySem.W.Frag) (cl : Clm) (E : XK) (g : MG) : TG := fun v σ H Q => ∃ d ρ mh ι, Rep K H ι d v ∧ SR K H ι ρ σ ∧ HR K cl H ι mh ∧ okR K cl E ι H (g d ρ mh) fun ρ' H' ι' => ∀ σ', SR K H' ι' ρ' σ' → Q σ' H'
theorem stepG {d : D} {v : V} {g : MG} {f : Ro → MH → Res α} {P : α → Hp → List Addr → Prop} (r : Rep K H ι d v) (sr : SR K H ι ρ σ) (hr : HR K cl H ι mh) (ok : okR K cl E ι H ((g d ρ mh).bind f) P) :
    tMG K cl E g v σ H fun σ' H' => ∃ ρ' mh' ι', Ext ι H ι' H' ∧ SR K H' ι' ρ' σ' ∧ HR K cl H' ι' mh' ∧ okR K cl E ι' H' (f ρ' mh') P :=
  ⟨d, ρ, mh, ι, r, sr, hr, okR.imp ok.bnd fun ρ' H1 ι1 e ⟨mh1, hr1, q⟩ σ' sr' => ⟨ρ', mh1, ι1, e, sr', hr1, q⟩⟩
theorem tMG.mono {g : MG} {v : V} {Q Q' : L2.St → Hp → Prop} (h : tMG K cl E g v σ H Q) (i : ∀ σ' H', Q σ' H' → Q' σ' H') : tMG K cl E g v σ H Q' := by
  obtain ⟨d, ρ, mh, ι, r, a1, a2, a3⟩ := h
  exact ⟨d, ρ, mh, ι, r, a1, a2, okR.imp a3 fun ρ' H1 ι1 e1 q σ' sr' => i _ _ (q σ' sr')⟩
theorem putD_of {κ : Type} [DecidableEq κ] {k : κ} {d : D} {v : V} (r : Rep K H ι d v) {ds : List (κ × D)} {vs : List (κ × V)} (q : Prs K H ι ds vs) : Prs K H ι (putD ds k d) (putK vs k v) := by
  have any : ∀ {ds : List (κ × D)} {vs : List (κ × V)}, Prs K H ι ds vs → (ds.any fun kv => decide (kv.1 = k)) = (vs.any fun kv => decide (kv.1 = k)) := by
    intro ds vs q
    induction q with
    | nil => rfl
    | @cons a b as bs h t ih => rw [List.any_cons, List.any_cons, h.1, ih]
  have mp : ∀ {ds : List (κ × D)} {vs : List (κ × V)}, Prs K H ι ds vs → Prs K H ι (ds.map fun kv => if kv.1 = k then (kv.1, d) else kv) (vs.map fun kv => if kv.1 = k then (kv.1, v) else kv) := by
    intro ds vs q
    induction q with
    | nil => exact .nil
    | @cons a b as bs h t ih =>
      rw [List.map_cons, List.map_cons]
      refine .cons ?_ ih
      by_cases e : a.1 = k
      · rw [if_pos e, if_pos (h.1 ▸ e)]; exact ⟨h.1, r⟩
      · rw [if_neg e, if_neg (h.1 ▸ e)]; exact h
  have ap : ∀ {ds : List (κ × D)} {vs : List (κ × V)}, Prs K H ι ds vs → Prs K H ι (ds ++ [(k, d)]) (vs ++ [(k, v)]) := by
    intro ds vs q
    induction q with
    | nil => exact .cons ⟨rfl, r⟩ .nil
    | @cons a b as bs h t ih => exact .cons h ih
  have e : putK vs k v = if (vs.any fun kv => decide (kv.1 = k)) = true then vs.map fun kv => if kv.1 = k then (kv.1, v) else kv else vs ++ [(k, v)] := rfl
  rw [e]
  unfold putD
  rw [any q]
  split
  · exact mp q
  · exact ap q
end
section
variable {X : Cx} {cl : Clm} {E : XK} {e o i c tg iter : Expr} {st : Stmt} {rest body els : List Stmt} {pos : Pos} {me mo mi : ME} {mt : MT} {ma mb : MS} {g : MG}
theorem s_nil : PSs X [] (tMS X.K cl E nxS) := pss_nil.imp fun D σ H ⟨ρ, mh, ι, sr, hr, ok⟩ => finS hr sr ok
theorem s_pass : PS X (.Pass pos) (tMS X.K cl E nxS) := ps_pass.imp fun D σ H ⟨ρ, mh, ι, sr, hr, ok⟩ => finS hr sr ok
theorem s_break : PS X (.Break pos) (tMS X.K cl E bkS) := ps_break.imp fun D σ H ⟨ρ, mh, ι, sr, hr, ok⟩ => finS hr sr ok
theorem s_continue : PS X (.Continue pos) (tMS X.K cl E ctS) := ps_continue.imp fun D σ H ⟨ρ, mh, ι, sr, hr, ok⟩ => finS hr sr ok
theorem s_no : PS X st (tMS X.K cl E noS) := ⟨fun _ _ _ _ _ _ ⟨_, _, _, _, _, ok⟩ => ok.elim⟩
theorem ss_no : PSs X rest (tMS X.K cl E noS) := ⟨fun _ _ _ _ _ _ ⟨_, _, _, _, _, ok⟩ => ok.elim⟩
theorem s_doc {x j pos'} : PS X (.Expr (.Constant (.str x) j pos) pos') (tMS X.K cl E nxS) := ps_doc.imp fun D σ H ⟨ρ, mh, ι, sr, hr, ok⟩ => finS hr sr ok
theorem s_cons (h1 : PS X st (tMS X.K cl E ma)) (h2 : PSs X rest (tMS X.K cl E mb)) : PSs X (st :: rest) (tMS X.K cl E (seqS ma mb)) :=
  (pss_cons h1 h2).imp fun D σ H ⟨ρ, mh, ι, sr, hr, ok⟩ => by
    refine ⟨ρ, mh, ι, sr, hr, okR.imp ok.bnd fun r H1 ι1 e1 ⟨mh1, hr1, q⟩ σ' sr' => ?_⟩
    obtain ⟨f, ρ'⟩ := r
    cases f with
    | nx => exact contS sr' hr1 q
    | bk => exact finS (E := E) (Dn := D) (r := (.bk, ρ')) hr1 sr' q
    | ct => exact finS (E := E) (Dn := D) (r := (.ct, ρ')) hr1 sr' q
    | rt d => exact finS (E := E) (Dn := D) (r := (.rt d, ρ')) hr1 sr' q
theorem s_expr (he : PE X e (tM X.K cl E me)) (hs : swapsWith e none pos.line X.env = pure false) : PS X (.Expr e pos) (tMS X.K cl E (dropS me)) :=
  (ps_expr he hs).imp fun D σ H ⟨ρ, mh, ι, sr, hr, ok⟩ => tM.mono (step sr hr ok) fun v H1 ⟨d1, mh1, ι1, e1, sr1, hr1, r1, q1⟩ => finS (r := (.nx, ρ)) hr1 sr1 q1
theorem s_ret (he : PE X e (tM X.K cl E me)) : PS X (.Return (some e) pos) (tMS X.K cl E (retS me)) :=
  (ps_ret he).imp fun D σ H ⟨ρ, mh, ι, sr, hr, ok⟩ => tM.mono (step sr hr ok) fun v H1 ⟨d1, mh1, ι1, e1, sr1, hr1, r1, q1⟩ => finS (r := (.rt d1, ρ)) hr1 sr1 q1 v r1
theorem s_retN : PS X (.Return none pos) (tMS X.K cl E retN) := ps_retN.imp fun D σ H ⟨ρ, mh, ι, sr, hr, ok⟩ => finS (r := (.rt .non, ρ)) hr sr ok _ .non
theorem s_if (hc : PT X c (tMT X.K cl E mt)) (ha : PSs X body (tMS X.K cl E ma)) (hb : PSs X els (tMS X.K cl E mb)) : PS X (.If c body els pos) (tMS X.K cl E (ifS mt ma mb)) :=
  (ps_if hc ha hb).imp fun D σ H ⟨ρ, mh, ι, sr, hr, ok⟩ => tMT.mono (stepT sr hr ok) fun k H1 ⟨mh1, ι1, e1, sr1, hr1, q1⟩ => by
    cases k with
    | true => exact iteT (contS sr1 hr1 q1)
    | false => exact iteF (contS sr1 hr1 q1)
/-! targets -/
theorem g_name {x : Str} {i : Nat} (h : PG X e (gName i)) : PG X e (tMG X.K cl E (nameG i)) := ⟨fun pins s σ H v u Q I r ⟨d, ρ, mh, ι, rd, sr, hr, ok⟩ => h.run pins s σ H v u Q I r (ok H ι hr .refl _ (sr.set rd i))⟩
theorem s_set {i : Nat} {x : Str} {pos' : Pos} (hN : X.N.Nodup) (hi : X.N[i]? = some x) (hx : Loc X.env.scope x) (he : PE X e (tM X.K cl E me)) (hs : swapsWith e (some (.Name x pos')) pos.line X.env = pure false) (hf : X.fn x = true ∨ X.env.scope.names.lookup x = some .local) :
    PS X (.Assign [.Name x pos'] e pos) (tMS X.K cl E (setS i me)) :=
  (ps_set hN hi hx he hs hf).imp fun D σ H ⟨ρ, mh, ι, sr, hr, ok⟩ => tM.mono (step sr hr ok) fun v H1 ⟨d1, mh1, ι1, e1, sr1, hr1, r1, q1⟩ => finS (r := (.nx, ρ.set i (some d1))) hr1 (sr1.set r1 i) q1
theorem s_asg (he : PE X e (tM X.K cl E me)) (hg : PG X tg (tMG X.K cl E g)) (hs : swapsWithSole [tg] e pos.line X.env = pure false) (hw : swappedStores [tg] e X.env = pure none) (h1 : (assignEach [tg] X.env).map (·.2) = [assign tg X.env]) :
    PS X (.Assign [tg] e pos) (tMS X.K cl E (asgS me g)) :=
  (ps_asg he hg hs hw h1).imp fun D σ H ⟨ρ, mh, ι, sr, hr, ok⟩ => tM.mono (step sr hr ok) fun v H1 ⟨d1, mh1, ι1, e1, sr1, hr1, r1, q1⟩ =>
    tMG.mono (stepG r1 sr1 hr1 q1) fun σ' H2 ⟨ρ', mh2, ι2, e2, sr2, hr2, q2⟩ => finS (r := (.nx, ρ')) hr2 sr2 q2
def opIn (op : Operator) : D → D → MH → Res D := match op with
  | .Add => fun x y mh => match x, y with | .int i, .int j => .ok (.int (i + j)) mh | _, _ => .no
  | .Sub => subD
  | _ => fun _ _ _ => .no
theorem ip_ok (op : Operator) : OpR X (inplaceOp op) (rM X.K cl E (opIn op)) := by
  rintro pins s σ H x y v u Q I rx ry ⟨dx, dy, mh, ι, r1, r2, hr, ok⟩
  cases op <;> try exact ok.elim
  · cases r1 <;> cases r2 <;> try exact ok.elim
    rename_i i j
    exact ip_add pins s σ H _ _ v u Q I rx ry ⟨i, j, rfl, rfl, fin hr (.int _) ok⟩
  · cases r1 <;> cases r2 <;> try exact ok.elim
    rename_i i j
    exact ip_sub pins s σ H _ _ v u Q I rx ry ⟨i, j, rfl, rfl, fin hr (.int _) ok⟩
theorem s_aug {i : Nat} {x : Str} {op : Operator} {pos' : Pos} (hN : X.N.Nodup) (hi : X.N[i]? = some x) (hx : Loc X.env.scope x) (he : PE X e (tM X.K cl E me)) (hf : X.fn x = true ∨ X.env.scope.names.lookup x = some .local) :
    PS X (.AugAssign (.Name x pos') op e pos) (tMS X.K cl E (augS i (opIn op) me)) :=
  (ps_aug (ti := rM X.K cl E (opIn op)) hN hi hx he (fun pins s σ H x y v u Q I rx ry q => ip_ok op pins s σ H x y v u Q I rx ry q) hf).imp fun D σ H ⟨ρ, mh, ι, sr, hr, ok⟩ => by
    unfold augS at ok
    cases hd : ρ[i]? with
    | none => rw [hd] at ok; exact ok.elim
    | some o =>
      rw [hd] at ok
      cases o with
      | none => exact ok.elim
      | some d =>
        obtain ⟨v, hv, r⟩ := sr.2 i d hd
        refine ⟨v, hv, tM.mono (step sr hr ok) fun y H1 ⟨d1, mh1, ι1, e1, sr1, hr1, r1, q1⟩ => ?_⟩
        refine ⟨d, d1, mh1, ι1, r.mono e1, r1, hr1, okR.imp q1.bnd fun d2 H2 ι2 e2 ⟨mh2, hr2, q2⟩ v2 r2 => ?_⟩
        exact finS (r := (.nx, ρ.set i (some d2))) hr2 ((sr1.mono e2).set r2 i) q2
theorem pgs_names {X : Cx} {cl : Clm} {Q : L2.St → Hp → Prop} {H : Hp} {ι : List Addr} {mh : MH} : ∀ (is : List Nat) (ds : List D) (vs : List V) (ρ : Ro) (σ : L2.St), ds.length = is.length → Reps X.K H ι ds vs → SR X.K H ι ρ σ → HR X.K cl H ι mh →
    (∀ σ', SR X.K H ι (namesG is ds ρ) σ' → Q σ' H) → (is.foldr (fun i u => gCons (gName i) u) gNil) vs σ H Q
  | [], [], [], ρ, σ, _, _, sr, _, q => ⟨rfl, q σ sr⟩
  | i :: is, d :: ds, v :: vs, ρ, σ, hl, r, sr, hr, q => by
    cases r with
    | cons r t => exact ⟨v, vs, rfl, pgs_names is ds vs _ _ (by simpa using hl) t (sr.set r i) hr q⟩
  | [], _ :: _, _, _, _, hl, _, _, _, _ => by cases hl
  | _ :: _, [], _, _, _, hl, _, _, _, _ => by cases hl
  | [], [], _ :: _, _, _, _, r, _, _, _ => by cases r
  | _ :: _, _ :: _, [], _, _, _, r, _, _, _ => by cases r
theorem g_tup {is : List Nat} {es : List Expr} {k : Nat} {n : Nat} (hn : is.length = n) (h : PG X (.Tuple es k pos) (gTup X.K n (is.foldr (fun i u => gCons (gName i) u) gNil))) : PG X (.Tuple es k pos) (tMG X.K cl E (tupG is)) := by
  refine ⟨fun pins s σ H v u Q I r ⟨d, ρ, mh, ι, rd, sr, hr, ok⟩ => h.run pins s σ H v u Q I r ?_⟩
  cases rd with
  | tup s1 q1 =>
    simp only [tupG] at ok
    split at ok
    · rename_i hl
      exact ⟨_, _, rfl, s1, by rw [← q1.length, hl, hn], pgs_names is _ _ ρ σ hl q1 sr hr fun σ' sr' => ok H ι hr .refl σ' sr'⟩
    · exact ok.elim
  | _ => exact ok.elim
def rSetM (K : PySem.W.Frag) (cl : Clm) (E : XK) : TSet := fun o i v H Q => ∃ od id vd mh ι, Rep K H ι od o ∧ Rep K H ι id i ∧ Rep K H ι vd v ∧ HR K cl H ι mh ∧ okR K cl E ι H (setK od id vd mh) fun _ H' _ => Q H'
theorem set_ok (hcP : cl.P = X.prog) (hcw : cl.w = X.w) (hu : X.A.units + 1 < cLine) : PSet X (rSetM X.K cl E) := by
  rintro pins s σ H o i v ov iv u Q I ro ri rv ⟨od, id, vd, mh, ι, q1, q2, q3, hr, ok⟩
  unfold setK at ok
  cases q1 with
  | @ref n a hn =>
    simp only at ok
    cases e1 : mh[n]? with
    | none => rw [e1] at ok; exact ok.elim
    | some ob =>
      rw [e1] at ok
      have ho := hr.ob n a ob hn e1
      cases ob with
      | lst ds =>
        simp only [setI, e1] at ok
        cases q2 with
        | int k =>
          simp only at ok
          obtain ⟨xs, h1, h2⟩ := ho
          cases e2 : ixN ds.length k with
          | none => rw [e2] at ok; exact ok.elim
          | some j =>
            rw [e2] at ok
            have ex : Ext ι H ι (upd H a (.lst (xs.set j v))) := Ext.set h1 (fun _ z => nomatch z) fun _ _ z => nomatch z
            refine set_list pins s σ H _ _ v ov iv u Q I ro ri rv ⟨a, xs, k, j, rfl, rfl, h1, by rw [← h2.length]; exact e2, ?_⟩
            exact ok _ ι (hr.set hn ex ⟨_, upd_same, (Reps.set q3 j h2).mono ex⟩) ex
        | _ => exact ok.elim
      | dic kvs =>
        simp only at ok
        obtain ⟨vs, h1, h2⟩ := ho
        cases e2 : keyD id with
        | none => rw [e2] at ok; exact ok.elim
        | some k =>
          rw [e2] at ok
          simp only at ok
          split at ok
          · rename_i hl
            have ei := key_at q2 e2
            subst ei
            cases ro
            have ex : Ext ι H ι (upd H a (.dK (putK vs k v))) := Ext.set h1 (fun _ z => nomatch z) fun _ _ z => nomatch z
            have fin : Q (upd H a (.dK (putK vs k v))) := ok _ ι (hr.set hn ex ⟨_, upd_same, (putD_of q3 h2).mono ex⟩) ex
            exact d_setItem hu I (DPut.k h1 (by rw [← Prs.len h2]; exact hl)) ri rv fun s' I' => ⟨_, I', fin⟩
          · exact ok.elim
      | dil kvs =>
        simp only at ok
        obtain ⟨vs, h1, h2⟩ := ho
        cases e2 : leafD id with
        | none => rw [e2] at ok; exact ok.elim
        | some k =>
          rw [e2] at ok
          simp only at ok
          split at ok
          · rename_i hl
            cases ro
            have ex : Ext ι H ι (upd H a (bO cl.P cl.w a (putK vs k v))) := Ext.set h1 (fun _ z => nomatch z) fun _ _ z => nomatch z
            have fin : Q (upd H a (bO cl.P cl.w a (putK vs k v))) := ok _ ι (hr.set hn ex ⟨_, upd_same, (putD_of q3 h2).mono ex⟩) ex
            rw [hcP, hcw] at h1 fin
            obtain ⟨z, hd, us, rel, dd⟩ := bd_of I.hok h1
            have hz : us.length ≤ sizeLine := by rw [← rel.length]; exact z
            have hl2 : (putK vs k v).length ≤ sizeLine := by have := length_putK vs k v; have := Prs.len h2; omega
            refine wpAny_setItem_pairs (hsz := hz) (leaf_at q2 ri e2) dd fun h' dd' hs => ⟨_, ?_, fin⟩
            have he : ∃ q, h'.get? a = some q := let ⟨q, _, _, hq, _⟩ := dd'; ⟨q, hq⟩
            exact d_write I (by rw [h1]; exact True.intro) hs he ⟨⟨hl2, hd, _, rel.put k rv, dd'⟩, he, fun h1 h2 ⟨b1, b2, us', b3, q, es, ep, b4, b5⟩ kp => ⟨b1, b2, us', b3, q, es, ep, kp _ b4, b5⟩⟩
          · exact ok.elim
      | _ => exact ok.elim
  | _ => exact ok.elim
theorem g_sub (hcP : cl.P = X.prog) (hcw : cl.w = X.w) (hu : X.A.units + 1 < cLine) (ho : PE X o (tM X.K cl E mo)) (hi : PE X i (tM X.K cl E mi))
    (ha : ∀ v, assign (.Subscript o i pos) X.env v = (do
      let ov ← holding [v] (eval o X.env)
      let iv ← holding [v, ov] (eval i X.env)
      standAt pos
      holding [v, ov, iv] (setItem ov iv v)
      release [v, ov, iv] [])) : PG X (.Subscript o i pos) (tMG X.K cl E (subG mo mi)) := by
  refine ⟨fun pins s σ H v u Q I r ⟨d, ρ, mh, ι, rd, sr, hr, ok⟩ => (pg_sub ho hi (set_ok (cl := cl) (E := E) hcP hcw hu) ha).run pins s σ H v u Q I r ?_⟩
  refine tM.mono (step sr hr ok) fun v1 H1 ⟨d1, mh1, ι1, e1, sr1, hr1, r1, q1⟩ => ?_
  refine tM.mono (step sr1 hr1 q1) fun v2 H2 ⟨d2, mh2, ι2, e2, sr2, hr2, r2, q2⟩ => ?_
  exact ⟨d1, d2, d, mh2, ι2, r1.mono e2, r2, (rd.mono e1).mono e2, hr2, okR.imp q2.bnd fun _ H3 ι3 e3 ⟨mh3, hr3, q3⟩ => q3 H3 ι3 hr3 .refl σ (sr2.mono e3)⟩
/-! loops -/
theorem s_while (hp : PassesOwn (model X.prog X.w) X.A X.env X.xe) (hc : PT X c (tMT X.K cl E mt)) (hb : PSs X body (tMS X.K cl E mb)) : PS X (.While c body [] pos) (tMS X.K cl E (whileS mt mb)) :=
  (ps_while hp hc hb).imp fun D σ H ⟨ρ, mh, ι, sr, hr, ok⟩ => by
    refine ⟨fun k σ H => ∃ ρ mh ι, SR X.K H ι ρ σ ∧ HR X.K cl H ι mh ∧ okR X.K cl E ι H (whileL mt mb k ρ mh) (pS X.K D), ⟨fuelW, ρ, mh, ι, sr, hr, ok⟩, ?_⟩
    rintro k σ H ⟨ρ, mh, ι, sr, hr, ok⟩
    cases k with
    | zero => exact ok.elim
    | succ k =>
      refine tMT.mono (stepT sr hr ok) fun b H1 ⟨mh1, ι1, e1, sr1, hr1, q1⟩ => ?_
      cases b with
      | false => exact iteF (finS (r := (.nx, ρ)) hr1 sr1 q1)
      | true =>
        refine iteT ⟨fun σ H => ∃ ρ mh ι, SR X.K H ι ρ σ ∧ HR X.K cl H ι mh ∧ okR X.K cl E ι H (whileL mt mb k ρ mh) (pS X.K D), fun σ' H' w => ⟨k, Nat.lt_succ_self k, w⟩, ?_⟩
        refine ⟨ρ, mh1, ι1, sr1, hr1, okR.imp (okR.bnd (show okR X.K cl E ι1 H1 ((mb ρ mh1).bind _) _ from q1)) fun r H2 ι2 e2 ⟨mh2, hr2, q2⟩ σ2 sr2 => ?_⟩
        obtain ⟨f, ρ2⟩ := r
        cases f with
        | nx => exact ⟨ρ2, mh2, ι2, sr2, hr2, q2⟩
        | ct => exact ⟨ρ2, mh2, ι2, sr2, hr2, q2⟩
        | bk => exact finS (E := E) (Dn := D) (r := (.nx, ρ2)) hr2 sr2 q2
        | rt d => exact finS (E := E) (Dn := D) (r := (.rt d, ρ2)) hr2 sr2 q2
/-- an iterator J walks the items ds while chk holds; it began at (ι1, H1) -/
structure SrcOk (K : PySem.W.Frag) (cl : Clm) (J : It) (ds : List D) (chk : MH → Bool) (ι1 : List Addr) (H1 : Hp) : Prop where
  go : ∀ (i : Nat) (H : Hp) (ι : List Addr) (mh : MH), Ext ι1 H1 ι H → HR K cl H ι mh → chk mh = true → i < ds.length → J.go i H
  yld : ∀ (i : Nat) (H : Hp) (ι : List Addr) (mh : MH), Ext ι1 H1 ι H → HR K cl H ι mh → chk mh = true → i < ds.length → ∀ x H', J.yld i H x H' → HR K cl H' ι mh ∧ Ext ι H ι H' ∧ ∃ d, ds[i]? = some d ∧ Rep K H' ι d x
  stop : ∀ (i : Nat) (H : Hp) (ι : List Addr) (mh : MH), Ext ι1 H1 ι H → HR K cl H ι mh → chk mh = true → ds.length ≤ i → J.stop i H
def tMI (K : PySem.W.Frag) (cl : Clm) (E : XK) (m : MI) : TI := fun σ H R => ∃ ρ mh ι, SR K H ι ρ σ ∧ HR K cl H ι mh ∧ okR K cl E ι H (m ρ mh) fun p H1 ι1 => ∀ J, SrcOk K cl J p.1 p.2 ι1 H1 → R J H1
theorem s_for {m : MI} (hp : PassesOwn (model X.prog X.w) X.A X.env X.xe) (hc : X.calm = true) (hi : PI X tg iter (tMI X.K cl E m)) (hg : PG X tg (tMG X.K cl E g)) (hb : PSs X body (tMS X.K cl E mb))
    (hs : ∀ x, foldedSetIterable iter X.env x = pure x) : PS X (.For tg iter body [] pos) (tMS X.K cl E (forS m g mb)) :=
  (ps_for hp hc hi hg hb hs).imp fun D σ H ⟨ρ, mh, ι, sr, hr, ok⟩ => by
    refine ⟨ρ, mh, ι, sr, hr, okR.imp ok.bnd fun p H1 ι1 e1 ⟨mh1, hr1, q1⟩ J S => ?_⟩
    refine ⟨fun i k σ H => ∃ ρ mh ι, SR X.K H ι ρ σ ∧ HR X.K cl H ι mh ∧ Ext ι1 H1 ι H ∧ k = p.1.length - i ∧ i ≤ p.1.length ∧ okR X.K cl E ι H (forL p.2 g mb (p.1.drop i) ρ mh) (pS X.K D), ⟨p.1.length, ρ, mh1, ι1, sr.mono e1, hr1, .refl, by simp, Nat.zero_le _, q1⟩, ?_⟩
    rintro i k σ H ⟨ρ, mh, ι, sr, hr, ex, rfl, hi, ok⟩
    by_cases hlt : i < p.1.length
    · rw [List.drop_eq_getElem_cons hlt, forL] at ok
      split at ok
      · rename_i hchk
        refine .inr ⟨S.go i H ι mh ex hr hchk hlt, fun σ H => ∃ ρ mh ι, SR X.K H ι ρ σ ∧ HR X.K cl H ι mh ∧ Ext ι1 H1 ι H ∧ okR X.K cl E ι H (forL p.2 g mb (p.1.drop (i + 1)) ρ mh) (pS X.K D), fun σ' H' ⟨ρ', mh', ι', w1, w2, w3, w4⟩ => ⟨p.1.length - (i + 1), by omega, ρ', mh', ι', w1, w2, w3, rfl, hlt, w4⟩, fun x H' y => ?_⟩
        obtain ⟨hr', e', d, hd, rd⟩ := S.yld i H ι mh ex hr hchk hlt x H' y
        have hd' : p.1[i] = d := by rw [List.getElem?_eq_getElem hlt] at hd; exact Option.some.inj hd
        subst hd'
        refine tMG.mono (stepG rd (sr.mono e') hr' (ok.weak e')) fun σ2 H2 ⟨ρ2, mh2, ι2, e2, sr2, hr2, q2⟩ => ?_
        refine ⟨ρ2, mh2, ι2, sr2, hr2, okR.imp q2.bnd fun r H3 ι3 e3 ⟨mh3, hr3, q3⟩ σ3 sr3 => ?_⟩
        obtain ⟨f, ρ3⟩ := r
        cases f with
        | nx => exact ⟨ρ3, mh3, ι3, sr3, hr3, ((ex.trans e').trans e2).trans e3, q3⟩
        | ct => exact ⟨ρ3, mh3, ι3, sr3, hr3, ((ex.trans e').trans e2).trans e3, q3⟩
        | bk => exact finS (E := E) (Dn := D) (r := (.nx, ρ3)) hr3 sr3 q3
        | rt d => exact finS (E := E) (Dn := D) (r := (.rt d, ρ3)) hr3 sr3 q3
      · exact ok.elim
    · rw [List.drop_eq_nil_of_le (by omega), forL] at ok
      split at ok
      · rename_i hchk
        exact .inl ⟨S.stop i H ι mh ex hr hchk (by omega), finS (r := (.nx, ρ)) hr sr ok⟩
      · exact ok.elim
end
end Mir
namespace Mir
open PySem PySem.Spec L2

/-! ### values compared as they are -/
mutual
def D.beq : D → D → Bool
  | .non, .non => true
  | .bl a, .bl b => a == b
  | .int a, .int b => decide (a = b)
  | .str a, .str b => decide (a = b)
  | .tup a, .tup b => D.beqs a b
  | .ref a, .ref b => decide (a = b)
  | .ty a, .ty b => decide (a = b)
  | .wl a, .wl b => D.beqs a b
  | _, _ => false
def D.beqs : List D → List D → Bool
  | [], [] => true
  | a :: as, b :: bs => D.beq a b && D.beqs as bs
  | _, _ => false
end
mutual
theorem D.beq_eq : ∀ (a b : D), D.beq a b = true → a = b
  | .non, b, h => by cases b <;> simp_all [D.beq]
  | .bl a, b, h => by cases b <;> simp_all [D.beq]
  | .int a, b, h => by cases b <;> simp_all [D.beq]
  | .str a, b, h => by cases b <;> simp_all [D.beq]
  | .ref a, b, h => by cases b <;> simp_all [D.beq]
  | .ty a, b, h => by cases b <;> simp_all [D.beq]
  | .tup a, b, h => by
    cases b with
    | tup b => rw [D.beqs_eq a b (by simpa [D.beq] using h)]
    | _ => simp [D.beq] at h
  | .wl a, b, h => by
    cases b with
    | wl b => rw [D.beqs_eq a b (by simpa [D.beq] using h)]
    | _ => simp [D.beq] at h
theorem D.beqs_eq : ∀ (a b : List D), D.beqs a b = true → a = b
  | [], [], _ => rfl
  | [], _ :: _, h => by simp [D.beqs] at h
  | _ :: _, [], h => by simp [D.beqs] at h
  | a :: as, b :: bs, h => by
    simp only [D.beqs, Bool.and_eq_true] at h
    rw [D.beq_eq a b h.1, D.beqs_eq as bs h.2]
end
mutual
theorem D.beq_refl : ∀ (a : D), D.beq a a = true
  | .non => rfl
  | .bl a => by simp [D.beq]
  | .int a => by simp [D.beq]
  | .str a => by simp [D.beq]
  | .ref a => by simp [D.beq]
  | .ty a => by simp [D.beq]
  | .tup a => by simp only [D.beq]; exact D.beqs_refl a
  | .wl a => by simp only [D.beq]; exact D.beqs_refl a
theorem D.beqs_refl : ∀ (a : List D), D.beqs a a = true
  | [] => rfl
  | a :: as => by simp only [D.beqs, Bool.and_eq_true]; exact ⟨D.beq_refl a, D.beqs_refl as⟩
end

/-! ### what is walked -/
def lstIs (n : Nat) (ds : List D) (h : MH) : Bool := match h[n]? with | some (.lst es) => D.beqs es ds | _ => false
def always (_ : MH) : Bool := true
def signs (z : Str) : List D := z.cps.toList.map fun c => .str ⟨#[c]⟩
def seqI (m : ME) : MI := fun ρ h => (m ρ h).bind fun x h => match x with
  | .tup ds => .ok (ds, always) h
  | .str z => .ok (signs z, always) h
  | .wl ds => .ok (ds, always) h
  | .ref n => (match h[n]? with
    | some (.lst ds) => .ok (ds, lstIs n ds) h
    | _ => .no)
  | _ => .no
def intsFrom (lo c : Int) (n : Nat) : List D := (List.range n).map fun (k : Nat) => .int (lo + (k : Int) * c)
def bnd62 (i : Int) : Bool := decide (-(2 ^ 62) ≤ i) && decide (i < 2 ^ 62)
def rangeI (m : MA) : MI := fun ρ h => (m ρ h).bind fun xs h => match xs with
  | [.int j] => if bnd62 j = true then .ok (intsFrom 0 1 j.toNat, always) h else .no
  | [.int i, .int j] => if bnd62 i = true ∧ bnd62 j = true then .ok (intsFrom i 1 (j - i).toNat, always) h else .no
  | [.int i, .int j, .int c] => if c ≠ 0 ∧ c.natAbs < 1073741824 ∧ Builtin.Range.small i j c = true ∧ 0 ≤ Builtin.Range.rangeSize i j c then .ok (intsFrom i c (Builtin.Range.rangeSize i j c).toNat, always) h else .no
  | _ => .no
theorem getV {α : Type} {l : List α} {i : Nat} (h : i < l.length) : ∃ a, l[i]? = some a := ⟨_, List.getElem?_eq_getElem h⟩
section
variable {X : Cx} {cl : Clm} {E : XK} {e tg iter a b c : Expr} {es : List Expr} {pos p : Pos} {m : ME} {ma : MA}
theorem m_alt {m : ME} (h : ∀ ρ mh, m ρ mh = .no ∨ ∃ m', PE X e (tM X.K cl E m') ∧ m ρ mh = m' ρ mh) : PE X e (tM X.K cl E m) := ⟨fun pins s σ H Q I ⟨ρ, mh, ι, sr, hr, ok⟩ => by
  rcases h ρ mh with e | ⟨m', h', e⟩
  · rw [e] at ok; exact ok.elim
  · exact h'.run pins s σ H Q I ⟨ρ, mh, ι, sr, hr, e ▸ ok⟩⟩
theorem i_alt {m : MI} (h : ∀ ρ mh, m ρ mh = .no ∨ ∃ m', PI X tg iter (tMI X.K cl E m') ∧ m ρ mh = m' ρ mh) : PI X tg iter (tMI X.K cl E m) := ⟨fun pins s σ H Q I ⟨ρ, mh, ι, sr, hr, ok⟩ => by
  rcases h ρ mh with e | ⟨m', h', e⟩
  · rw [e] at ok; exact ok.elim
  · exact h'.run pins s σ H Q I ⟨ρ, mh, ι, sr, hr, e ▸ ok⟩⟩
theorem _root_.L2.PI.imp {w w' : TI} (h : PI X tg iter w) (i : ∀ σ H Q, w' σ H Q → w σ H Q) : PI X tg iter w' := ⟨fun pins s σ H Q I q => h.run pins s σ H Q I (i _ _ _ q)⟩
def onlyTup (r : Res (List D × (MH → Bool))) (x : D) : Res (List D × (MH → Bool)) := match x with | .tup _ => r | _ => .no
theorem src_tup {a : Addr} {xs : List V} {ds : List D} {H1 : Hp} {ι1 : List Addr} (s1 : SqT X.K H1 a xs) (q1 : Reps X.K H1 ι1 ds xs) : SrcOk X.K cl (Itt X.K a) ds always ι1 H1 where
  go := fun i H ι mh ex hr _ hi => by
    obtain ⟨x, hx⟩ := getV (l := xs) (i := i) (by rw [← q1.length]; exact hi)
    exact ⟨xs, x, ex.sqt s1, hx⟩
  yld := fun i H ι mh ex hr _ hlt x H' y => by
    obtain ⟨rfl, y⟩ := y
    obtain ⟨d, h1, h2⟩ := Reps.getV q1 (y xs (ex.sqt s1))
    exact ⟨hr, .refl, d, h1, h2.mono ex⟩
  stop := fun i H ι mh ex hr _ hi => ⟨xs, ex.sqt s1, by rw [← q1.length]; exact hi⟩
theorem src_lst {n : Nat} {a : Addr} {ds : List D} {H1 : Hp} {ι1 : List Addr} (hn : ι1[n]? = some a) : SrcOk X.K cl (Itl X.K a) ds (lstIs n ds) ι1 H1 := by
  have at_ : ∀ {H : Hp} {ι : List Addr} {mh : MH}, Ext ι1 H1 ι H → HR X.K cl H ι mh → lstIs n ds mh = true → ∃ xs, H a = some (.lst xs) ∧ Reps X.K H ι ds xs := fun {H ι mh} ex hr hc => by
    unfold lstIs at hc
    split at hc
    · rename_i es he
      have := D.beqs_eq _ _ hc
      subst this
      exact hr.ob n a _ (ex.get hn) he
    · cases hc
  refine ⟨fun i H ι mh ex hr hc hi => ?_, fun i H ι mh ex hr hc hlt x H' y => ?_, fun i H ι mh ex hr hc hi => ?_⟩
  · obtain ⟨xs, h1, h2⟩ := at_ ex hr hc
    obtain ⟨x, hx⟩ := getV (l := xs) (i := i) (by rw [← h2.length]; exact hi)
    exact ⟨xs, x, SqL.of h1, hx⟩
  · obtain ⟨xs, h1, h2⟩ := at_ ex hr hc
    obtain ⟨rfl, y⟩ := y
    obtain ⟨d, h3, h4⟩ := Reps.getV h2 (y xs (SqL.of h1))
    exact ⟨hr, .refl, d, h3, h4⟩
  · obtain ⟨xs, h1, h2⟩ := at_ ex hr hc
    exact ⟨xs, SqL.of h1, by rw [← h2.length]; exact hi⟩
theorem src_wl {a : Addr} {xs : List V} {ds : List D} {H1 : Hp} {ι1 : List Addr} (s1 : RoL X.K H1 a xs) (q1 : Reps X.K H1 ι1 ds xs) : SrcOk X.K cl (Itl X.K a) ds always ι1 H1 where
  go := fun i H ι mh ex hr _ hi => by
    obtain ⟨x, hx⟩ := getV (l := xs) (i := i) (by rw [← q1.length]; exact hi)
    exact ⟨xs, x, (ex.rol s1).sq, hx⟩
  yld := fun i H ι mh ex hr _ hlt x H' y => by
    obtain ⟨rfl, y⟩ := y
    obtain ⟨d, h1, h2⟩ := Reps.getV q1 (y xs (ex.rol s1).sq)
    exact ⟨hr, .refl, d, h1, h2.mono ex⟩
  stop := fun i H ι mh ex hr _ hi => ⟨xs, (ex.rol s1).sq, by rw [← q1.length]; exact hi⟩
theorem src_str {z : Str} {H1 : Hp} {ι1 : List Addr} : SrcOk X.K cl (Its z) (signs z) always ι1 H1 where
  go := fun i H ι mh ex hr _ hi => show i < z.cps.size by simpa [signs] using hi
  yld := fun i H ι mh ex hr _ hlt x H' y => by
    obtain ⟨rfl, c, h1, rfl⟩ := y
    refine ⟨hr, .refl, .str ⟨#[c]⟩, ?_, .str _⟩
    unfold signs
    rw [List.getElem?_map]
    have h2 : z.cps.toList[i]? = some c := by simpa using h1
    rw [h2]; rfl
  stop := fun i H ι mh ex hr _ hi => show z.cps.size ≤ i by simpa [signs] using hi
theorem src_rng {lo c : Int} {n : Nat} {H1 : Hp} {ι1 : List Addr} : SrcOk X.K cl (Itc lo c n) (intsFrom lo c n) always ι1 H1 where
  go := fun i H ι mh ex hr _ hi => show i < n by simpa [intsFrom] using hi
  yld := fun i H ι mh ex hr _ hlt x H' y => by
    obtain ⟨rfl, rfl⟩ := y
    have hl : i < n := by simpa [intsFrom] using hlt
    refine ⟨hr, .refl, .int (lo + (i : Int) * c), ?_, .int _⟩
    unfold intsFrom
    rw [List.getElem?_map, List.getElem?_range hl]; rfl
  stop := fun i H ι mh ex hr _ hi => show n ≤ i by simpa [intsFrom] using hi
theorem src_rng1 {lo : Int} {n : Nat} {H1 : Hp} {ι1 : List Addr} : SrcOk X.K cl (Itr lo n) (intsFrom lo 1 n) always ι1 H1 where
  go := fun i H ι mh ex hr _ hi => show i < n by simpa [intsFrom] using hi
  yld := fun i H ι mh ex hr _ hlt x H' y => by
    obtain ⟨rfl, rfl⟩ := y
    have hl : i < n := by simpa [intsFrom] using hlt
    refine ⟨hr, .refl, .int (lo + (i : Int) * 1), ?_, ?_⟩
    · unfold intsFrom
      rw [List.getElem?_map, List.getElem?_range hl]; rfl
    · rw [Int.mul_one]; exact .int _
  stop := fun i H ι mh ex hr _ hi => show n ≤ i by simpa [intsFrom] using hi
/-- the expression walked, whatever its kind -/
def seqTup (m : ME) : MI := fun ρ h => (m ρ h).bind fun x h => match x with | .tup ds => .ok (ds, always) h | _ => .no
def seqStr (m : ME) : MI := fun ρ h => (m ρ h).bind fun x h => match x with | .str z => .ok (signs z, always) h | _ => .no
def seqLst (m : ME) : MI := fun ρ h => (m ρ h).bind fun x h => match x with
  | .ref n => (match h[n]? with
    | some (.lst ds) => .ok (ds, lstIs n ds) h
    | _ => .no)
  | _ => .no
def seqWl (m : ME) : MI := fun ρ h => (m ρ h).bind fun x h => match x with | .wl ds => .ok (ds, always) h | _ => .no
theorem i_seq (he : PE X e (tM X.K cl E m)) : PI X tg e (tMI X.K cl E (seqI m)) := by
  refine i_alt fun ρ mh => ?_
  cases h : m ρ mh with
  | no => left; unfold seqI; rw [h]; rfl
  | ex c fs h' =>
    refine .inr ⟨seqTup m, (pi_tup he).imp fun σ H Q ⟨ρ, mh, ι, sr, hr, ok⟩ => tM.mono (step sr hr ok) fun v H1 ⟨d1, mh1, ι1, e1, sr1, hr1, r1, q1⟩ => ?_, by unfold seqI seqTup; rw [h]; rfl⟩
    cases r1 with
    | tup s1 q2 => exact ⟨_, rfl, ⟨_, s1⟩, q1 H1 ι1 hr1 .refl _ (src_tup s1 q2)⟩
    | _ => exact q1.elim
  | ok x h' =>
    cases x with
    | tup ds =>
      refine .inr ⟨seqTup m, (pi_tup he).imp fun σ H Q ⟨ρ, mh, ι, sr, hr, ok⟩ => tM.mono (step sr hr ok) fun v H1 ⟨d1, mh1, ι1, e1, sr1, hr1, r1, q1⟩ => ?_, by unfold seqI seqTup; rw [h]; rfl⟩
      cases r1 with
      | tup s1 q2 => exact ⟨_, rfl, ⟨_, s1⟩, q1 H1 ι1 hr1 .refl _ (src_tup s1 q2)⟩
      | _ => exact q1.elim
    | wl ds =>
      refine .inr ⟨seqWl m, (pi_list he).imp fun σ H Q ⟨ρ, mh, ι, sr, hr, ok⟩ => tM.mono (step sr hr ok) fun v H1 ⟨d1, mh1, ι1, e1, sr1, hr1, r1, q1⟩ => ?_, by unfold seqI seqWl; rw [h]; rfl⟩
      cases r1 with
      | wl s1 q2 => exact ⟨_, rfl, ⟨_, s1.sq⟩, q1 H1 ι1 hr1 .refl _ (src_wl s1 q2)⟩
      | _ => exact q1.elim
    | str z =>
      refine .inr ⟨seqStr m, (pi_str he).imp fun σ H Q ⟨ρ, mh, ι, sr, hr, ok⟩ => tM.mono (step sr hr ok) fun v H1 ⟨d1, mh1, ι1, e1, sr1, hr1, r1, q1⟩ => ?_, by unfold seqI seqStr; rw [h]; rfl⟩
      cases r1 <;> try exact q1.elim
      exact ⟨_, rfl, q1 H1 ι1 hr1 .refl _ src_str⟩
    | ref n =>
      refine .inr ⟨seqLst m, (pi_list he).imp fun σ H Q ⟨ρ, mh, ι, sr, hr, ok⟩ => tM.mono (step sr hr ok) fun v H1 ⟨d1, mh1, ι1, e1, sr1, hr1, r1, q1⟩ => ?_, by unfold seqI seqLst; rw [h]; rfl⟩
      cases r1 with
      | @ref k a hk =>
        simp only at q1
        cases e1 : mh1[k]? with
        | none => rw [e1] at q1; exact q1.elim
        | some o =>
          rw [e1] at q1
          have ho := hr1.ob k a o hk e1
          cases o <;> try exact q1.elim
          · obtain ⟨xs, g1, g2⟩ := ho
            exact ⟨a, rfl, ⟨xs, SqL.of g1⟩, q1 H1 ι1 hr1 .refl _ (src_lst hk)⟩
      | _ => exact q1.elim
    | _ => left; unfold seqI; rw [h]; rfl
def rangeI1 (m : MA) : MI := fun ρ h => (m ρ h).bind fun xs h => match xs with
  | [.int j] => if bnd62 j = true then .ok (intsFrom 0 1 j.toNat, always) h else .no
  | _ => .no
def rangeI2 (m : MA) : MI := fun ρ h => (m ρ h).bind fun xs h => match xs with
  | [.int i, .int j] => if bnd62 i = true ∧ bnd62 j = true then .ok (intsFrom i 1 (j - i).toNat, always) h else .no
  | _ => .no
def rangeI3 (m : MA) : MI := fun ρ h => (m ρ h).bind fun xs h => match xs with
  | [.int i, .int j, .int c] => if c ≠ 0 ∧ c.natAbs < 1073741824 ∧ Builtin.Range.small i j c = true ∧ 0 ≤ Builtin.Range.rangeSize i j c then .ok (intsFrom i c (Builtin.Range.rangeSize i j c).toNat, always) h else .no
  | _ => .no
theorem bnd62_of {i : Int} (h : bnd62 i = true) : -(2 ^ 62) ≤ i ∧ i < 2 ^ 62 := by
  unfold bnd62 at h
  rw [Bool.and_eq_true] at h
  exact ⟨of_decide_eq_true h.1, of_decide_eq_true h.2⟩
theorem i_range1 (hg : Gl X "range") (hm : X.mg "range" = none) (ha : PA X [a] (tMA X.K cl E ma)) (hs : starEach [a] X.env = [(false, eval a X.env)]) : PI X tg (.Call (.Name "range" p) [a] [] pos) (tMI X.K cl E (rangeI1 ma)) :=
  (pi_range1 hg hm ha hs).imp fun σ H Q ⟨ρ, mh, ι, sr, hr, ok⟩ => tMA.mono (stepA sr hr ok) fun vs H1 ⟨ds, mh1, ι1, e1, sr1, hr1, r1, q1⟩ => by
    split at q1
    · split at q1
      · rename_i h
        obtain ⟨b1, b2⟩ := bnd62_of h
        obtain ⟨v, rfl, rv⟩ := one_of r1
        cases rv
        exact ⟨_, rfl, b1, b2, q1 H1 ι1 hr1 .refl _ src_rng1⟩
      · exact q1.elim
    · exact q1.elim
theorem i_range2 (hg : Gl X "range") (hm : X.mg "range" = none) (ha : PA X [a, b] (tMA X.K cl E ma)) (hs : starEach [a, b] X.env = [(false, eval a X.env), (false, eval b X.env)]) (hs2 : starEach [b] X.env = [(false, eval b X.env)]) : PI X tg (.Call (.Name "range" p) [a, b] [] pos) (tMI X.K cl E (rangeI2 ma)) :=
  (pi_range2 hg hm ha hs hs2).imp fun σ H Q ⟨ρ, mh, ι, sr, hr, ok⟩ => tMA.mono (stepA sr hr ok) fun vs H1 ⟨ds, mh1, ι1, e1, sr1, hr1, r1, q1⟩ => by
    split at q1
    · split at q1
      · rename_i h
        obtain ⟨b1, b2⟩ := bnd62_of h.1
        obtain ⟨b3, b4⟩ := bnd62_of h.2
        obtain ⟨v, u, rfl, rv, ru⟩ := two_of r1
        cases rv; cases ru
        exact ⟨_, _, rfl, ⟨b1, b2, b3, b4⟩, q1 H1 ι1 hr1 .refl _ src_rng1⟩
      · exact q1.elim
    · exact q1.elim
theorem three_of {K : PySem.W.Frag} {H : Hp} {ι : List Addr} {x y z : D} {vs : List V} (r : Reps K H ι [x, y, z] vs) : ∃ v u w, vs = [v, u, w] ∧ Rep K H ι x v ∧ Rep K H ι y u ∧ Rep K H ι z w := by
  cases r with | cons r t => obtain ⟨u, w, rfl, q1, q2⟩ := two_of t; exact ⟨_, u, w, rfl, r, q1, q2⟩
theorem i_range3 (hg : Gl X "range") (hm : X.mg "range" = none) (ha : PA X [a, b, c] (tMA X.K cl E ma)) (hs : starEach [a, b, c] X.env = (false, eval a X.env) :: starEach [b, c] X.env) (hpl : (backTo pos (starEach [b, c] X.env)).any (·.1) = false) : PI X tg (.Call (.Name "range" p) [a, b, c] [] pos) (tMI X.K cl E (rangeI3 ma)) :=
  (pi_range3 hg hm ha hs hpl).imp fun σ H Q ⟨ρ, mh, ι, sr, hr, ok⟩ => tMA.mono (stepA sr hr ok) fun vs H1 ⟨ds, mh1, ι1, e1, sr1, hr1, r1, q1⟩ => by
    split at q1
    · split at q1
      · rename_i h
        obtain ⟨v, u, w, rfl, rv, ru, rw'⟩ := three_of r1
        cases rv; cases ru; cases rw'
        exact ⟨_, _, _, _, rfl, ⟨h.1, h.2.1, h.2.2.1, by omega⟩, q1 H1 ι1 hr1 .refl _ src_rng⟩
      · exact q1.elim
    · exact q1.elim
end

/-! ### list comprehensions -/
def wipeD (ρ : Ro) : List Nat → Ro
  | [] => ρ
  | v :: vs => (wipeD ρ vs).set v none
def Res.nox {α : Type} : Res α → Res α
  | .ex _ _ _ => .no
  | r => r
def yesT : MT := fun _ h => .ok true h
def lcL (chk : MH → Bool) (g : MG) (t : MT) (e : ME) (ρ0 : Ro) (n : Nat) : List D → MH → Res D
  | [], h => if chk h = true then .ok (.ref n) h else .no
  | x :: xs, h => if chk h = true then (g x ρ0 h).bind fun ρ1 h => (t ρ1 h).nox.bind fun b h => if b = true then (e ρ1 h).nox.bind fun y h => (match h[n]? with
      | some (.lst acc) => if acc.length < sizeLine then lcL chk g t e ρ0 n xs (h.set n (.lst (acc ++ [y]))) else .no
      | _ => .no) else lcL chk g t e ρ0 n xs h else .no
def lcM (vs : List Nat) (m : MI) (g : MG) (t : MT) (e : ME) : ME := fun ρ h => (m ρ h).bind fun p h => lcL p.2 g t e (wipeD ρ vs) h.length p.1 (h ++ [.lst []])
abbrev xk0 : XK := fun _ _ _ => False
/-- a target of a comprehension: it stores own names alone, the heap stays -/
structure GW (K : PySem.W.Frag) (vs : List Nat) (t : TG) (g : MG) : Prop where
  run : ∀ (d : D) (v : V) (σ : L2.St) (H : Hp) (ρ : Ro) (ι : List Addr) (mh : MH) (ρ' : Ro) (Q : L2.St → Hp → Prop), Rep K H ι d v → SR K H ι ρ σ → g d ρ mh = .ok ρ' mh →
    (∀ σ', SR K H ι ρ' σ' → wipe σ' vs = wipe σ vs → Q σ' H) → t v σ H Q
  same : ∀ d ρ mh, g d ρ mh = .no ∨ ∃ ρ', g d ρ mh = .ok ρ' mh
theorem wipe_set {σ : L2.St} {i : Nat} {o : Option V} : ∀ {vs : List Nat}, i ∈ vs → wipe (σ.set i o) vs = wipe σ vs
  | v :: vs, h => by
    unfold wipe
    by_cases e : i = v
    · subst e
      by_cases e2 : i ∈ vs
      · rw [wipe_set e2]
      · have : ∀ us : List Nat, i ∉ us → wipe (σ.set i o) us = (wipe σ us).set i o := fun us => by
          induction us with
          | nil => intro _; rfl
          | cons u us ih =>
            intro hu
            simp only [List.mem_cons, not_or] at hu
            unfold wipe
            rw [ih hu.2, List.set_comm _ _ hu.1]
        rw [this vs e2, List.set_set]
    · have h' : i ∈ vs := by simpa [e] using h
      rw [wipe_set h']
theorem wipe_in {σ : L2.St} {v : Nat} : ∀ {vs : List Nat}, v ∈ vs → (wipe σ vs).set v none = wipe σ vs
  | u :: us, h => by
    unfold wipe
    by_cases e : v = u
    · subst e; rw [List.set_set]
    · rw [List.set_comm _ _ (Ne.symm e), wipe_in (by simpa [e] using h)]
theorem wipe_sub {σ : L2.St} {vs : List Nat} : ∀ us : List Nat, (∀ u ∈ us, u ∈ vs) → wipe (wipe σ vs) us = wipe σ vs
  | [], _ => rfl
  | u :: us, h => by
    show (wipe (wipe σ vs) us).set u none = _
    rw [wipe_sub us fun w hw => h w (List.mem_cons_of_mem _ hw), wipe_in (h u List.mem_cons_self)]
theorem wipe_wipe {σ : L2.St} {vs : List Nat} : wipe (wipe σ vs) vs = wipe σ vs := wipe_sub vs fun _ h => h
theorem SR.wipe {K : PySem.W.Frag} {H : Hp} {ι : List Addr} {ρ : Ro} {σ : L2.St} (h : SR K H ι ρ σ) : ∀ vs, SR K H ι (wipeD ρ vs) (wipe σ vs)
  | [] => h
  | v :: vs => by
    have ih := SR.wipe h vs
    unfold wipeD L2.wipe
    refine ⟨by simp [ih.1], fun j d hd => ?_⟩
    rw [List.getElem?_set] at hd ⊢
    by_cases e : v = j
    · subst e
      rw [if_pos rfl] at hd
      split at hd <;> cases hd
    · rw [if_neg e] at hd ⊢
      exact ih.2 j d hd
theorem gw_name {K : PySem.W.Frag} {vs : List Nat} {i : Nat} (h : i ∈ vs) : GW K vs (gName i) (nameG i) where
  run := fun d v σ H ρ ι mh ρ' Q r sr e q => by
    have : ρ' = ρ.set i (some d) := by unfold nameG at e; injection e with e1 _; exact e1.symm
    subst this
    exact q _ (sr.set r i) (wipe_set h)
  same := fun d ρ mh => .inr ⟨_, rfl⟩
theorem gw_names {K : PySem.W.Frag} {vs : List Nat} {H : Hp} {ι : List Addr} {Q : L2.St → Hp → Prop} : ∀ (is : List Nat) (ds : List D) (xs : List V) (ρ : Ro) (σ : L2.St), (∀ i ∈ is, i ∈ vs) → ds.length = is.length → Reps K H ι ds xs → SR K H ι ρ σ →
    (∀ σ', SR K H ι (namesG is ds ρ) σ' → wipe σ' vs = wipe σ vs → Q σ' H) → (is.foldr (fun i u => gCons (gName i) u) gNil) xs σ H Q
  | [], [], [], ρ, σ, _, _, _, sr, q => ⟨rfl, q σ sr rfl⟩
  | i :: is, d :: ds, v :: xs, ρ, σ, hi, hl, r, sr, q => by
    cases r with
    | cons r t => exact ⟨v, xs, rfl, gw_names is ds xs _ _ (fun j hj => hi j (List.mem_cons_of_mem _ hj)) (by simpa using hl) t (sr.set r i) fun σ' s' w => q σ' s' (w.trans (wipe_set (hi i List.mem_cons_self)))⟩
  | [], _ :: _, _, _, _, _, hl, _, _, _ => by cases hl
  | _ :: _, [], _, _, _, _, hl, _, _, _ => by cases hl
  | [], [], _ :: _, _, _, _, _, r, _, _ => by cases r
  | _ :: _, _ :: _, [], _, _, _, _, r, _, _ => by cases r
theorem gw_tup {K : PySem.W.Frag} {vs is : List Nat} {n : Nat} (hn : is.length = n) (h : ∀ i ∈ is, i ∈ vs) : GW K vs (gTup K n (is.foldr (fun i u => gCons (gName i) u) gNil)) (tupG is) where
  run := fun d v σ H ρ ι mh ρ' Q r sr e q => by
    cases r with
    | tup s1 q1 =>
      simp only [tupG] at e
      split at e
      · rename_i hl
        injection e with e1 _
        subst e1
        exact ⟨_, _, rfl, s1, by rw [← q1.length, hl, hn], gw_names is _ _ ρ σ h hl q1 sr q⟩
      · cases e
    | _ => cases e
  same := fun d ρ mh => by
    cases d with
    | tup ds =>
      simp only [tupG]
      split
      · exact .inr ⟨_, rfl⟩
      · exact .inl rfl
    | _ => exact .inl rfl
theorem okR.nox {K : PySem.W.Frag} {cl : Clm} {E : XK} {H : Hp} {ι : List Addr} {α β : Type} {r : Res α} {f : α → MH → Res β} {P : β → Hp → List Addr → Prop} (h : okR K cl E ι H (r.nox.bind f) P) :
    okR K cl xk0 ι H r fun a H' ι' => ∃ mh', HR K cl H' ι' mh' ∧ okR K cl E ι' H' (f a mh') P := by
  cases r with
  | ok a mh => exact fun H2 ι2 h2 e2 => ⟨mh, h2, okR.weak h e2⟩
  | ex c fs mh => exact h.elim
  | no => exact h.elim
section
variable {X : Cx} {cl : Clm} {E : XK} {elt tg iter : Expr} {ifs : List Expr} {scope : Scope} {own : List (Str × Nat)} {pos spos py : Pos} {m : MI} {g : MG} {tG : TG} {t : MT} {me : ME}
theorem lcI : GW X.K (own.map (·.2)) tG g → ∀ σ H Q, tM X.K cl E (lcM (own.map (·.2)) m g t me) σ H Q → tLc (tMI X.K cl E m) tG (tMT X.K cl xk0 t) (tM X.K cl xk0 me) (own.map (·.2)) σ H Q := by
  rintro G σ H Q ⟨ρ, mh, ι, sr, hr, ok⟩
  refine ⟨ρ, mh, ι, sr, hr, okR.imp ok.bnd fun p H1 ι1 e1 ⟨mh1, hr1, q1⟩ J S Dp hD => ?_⟩
  have hr2 : HR X.K cl (upd H1 Dp (.lst [])) (ι1 ++ [Dp]) (mh1 ++ [.lst []]) := hr1.new hD ⟨_, upd_same, .nil⟩
  have hn : (ι1 ++ [Dp])[mh1.length]? = some Dp := by rw [← hr1.len]; simp
  have ex2 : Ext ι1 H1 (ι1 ++ [Dp]) (upd H1 Dp (.lst [])) := .new hD _
  have sr2 := (sr.mono e1).wipe (own.map (·.2))
  refine ⟨fun i k H => ∃ mh ι, HR X.K cl H ι mh ∧ Ext (ι1 ++ [Dp]) (upd H1 Dp (.lst [])) ι H ∧ k = p.1.length - i ∧ i ≤ p.1.length ∧ okR X.K cl E ι H (lcL p.2 g t me (wipeD ρ (own.map (·.2))) mh1.length (p.1.drop i) mh) (pE X.K Q), ⟨p.1.length, _, _, hr2, .refl, by simp, Nat.zero_le _, okR.weak q1 ex2⟩, ?_⟩
  rintro i k H ⟨mh, ι, hr, ex, rfl, hi, ok⟩
  have exJ : Ext ι1 H1 ι H := ex2.trans ex
  by_cases hlt : i < p.1.length
  · rw [List.drop_eq_getElem_cons hlt, lcL] at ok
    split at ok
    · rename_i hchk
      refine .inr ⟨S.go i H ι mh exJ hr hchk hlt, fun H => ∃ mh ι, HR X.K cl H ι mh ∧ Ext (ι1 ++ [Dp]) (upd H1 Dp (.lst [])) ι H ∧ okR X.K cl E ι H (lcL p.2 g t me (wipeD ρ (own.map (·.2))) mh1.length (p.1.drop (i + 1)) mh) (pE X.K Q), fun H' ⟨mh', ι', w2, w3, w4⟩ => ⟨p.1.length - (i + 1), by omega, mh', ι', w2, w3, rfl, hlt, w4⟩, fun x H' y => ?_⟩
      obtain ⟨hr', e', d, hd, rd⟩ := S.yld i H ι mh exJ hr hchk hlt x H' y
      have hd' : p.1[i] = d := by rw [List.getElem?_eq_getElem hlt] at hd; exact Option.some.inj hd
      subst hd'
      have ex' := ex.trans e'
      have sr' : SR X.K H' ι (wipeD ρ (own.map (·.2))) (wipe σ (own.map (·.2))) := (sr2.mono ex2).mono ex'
      have ok' := okR.weak ok e'
      rcases G.same p.1[i] (wipeD ρ (own.map (·.2))) mh with z | ⟨ρ1, z⟩
      · rw [z] at ok'; exact ok'.elim
      rw [z] at ok'
      refine G.run _ _ _ _ _ _ _ _ _ rd sr' z fun σ2 sr3 hw => ⟨by rw [hw, wipe_wipe], ?_⟩
      refine ⟨ρ1, mh, ι, sr3, hr', okR.imp (okR.nox (show okR X.K cl E ι H' ((t ρ1 mh).nox.bind _) _ from ok')) fun b H3 ι3 e3 ⟨mh3, hr3, q3⟩ => ?_⟩
      cases b with
      | false =>
        unfold pT; dsimp only
        rw [if_neg Bool.false_ne_true]
        exact ⟨mh3, ι3, hr3, ex'.trans e3, q3⟩
      | true =>
        unfold pT; dsimp only
        rw [if_pos rfl]
        refine ⟨ρ1, mh3, ι3, sr3.mono e3, hr3, okR.imp (okR.nox (show okR X.K cl E ι3 H3 ((me ρ1 mh3).nox.bind _) _ from q3)) fun y H4 ι4 e4 ⟨mh4, hr4, q4⟩ v4 r4 => ?_⟩
        have ex4 := (ex'.trans e3).trans e4
        have hn4 := ex4.get hn
        cases e5 : mh4[mh1.length]? with
        | none => rw [e5] at q4; exact q4.elim
        | some o =>
          rw [e5] at q4
          have ho := hr4.ob _ _ _ hn4 e5
          cases o <;> try exact q4.elim
          rename_i acc
          simp only at q4
          split at q4
          · rename_i hl
            obtain ⟨xs, h1, h2⟩ := ho
            have exs : Ext ι4 H4 ι4 (upd H4 Dp (.lst (xs ++ [v4]))) := Ext.set h1 (fun _ z => nomatch z) fun _ _ z => nomatch z
            refine ⟨xs, h1, h2.length ▸ hl, _, ι4, hr4.set (o := .lst (acc ++ [y])) hn4 exs ⟨_, upd_same, (h2.append (.cons r4 .nil)).mono exs⟩, ex4.trans exs, okR.weak q4 exs⟩
          · exact q4.elim
    · exact ok.elim
  · rw [List.drop_eq_nil_of_le (by omega), lcL] at ok
    split at ok
    · rename_i hchk
      exact .inl ⟨S.stop i H ι mh exJ hr hchk (by omega), fin hr (.ref (ex.get hn)) ok⟩
    · exact ok.elim
end
section
variable {X : Cx} {cl : Clm} {E : XK} {elt tg iter : Expr} {ifs : List Expr} {scope : Scope} {own : List (Str × Nat)} {pos spos py : Pos} {m : MI} {g : MG} {tG : TG} {t : MT} {me : ME}
theorem m_lc (hc : X.calm = true) (hN : X.N.Nodup) (hi : PI X tg iter (tMI X.K cl E m)) (ok : BlkOk X.N X.env.scope scope own) (G : GW X.K (own.map (·.2)) tG g)
    (hg : ∀ (s : Shared) (H : Hp) (C : Addr) (cl : List (Str × Addr)) (fp : List Addr), PG (X.blk s H scope (compEnvC scope cl C X.env) fp) tg tG)
    (ht : ∀ (s : Shared) (H : Hp) (C : Addr) (cl' : List (Str × Addr)) (fp : List Addr), PTs (X.blk s H scope (compEnvC scope cl' C X.env) fp) ifs (tMT X.K cl xk0 t))
    (he : ∀ (s : Shared) (H : Hp) (C : Addr) (cl' : List (Str × Addr)) (fp : List Addr), PE (X.blk s H scope (compEnvC scope cl' C X.env) fp) elt (tM X.K cl xk0 me)) (hs : ∀ x, foldedSetIterable iter X.env x = pure x) :
    PE X (.ListComp elt [⟨tg, iter, ifs, 0⟩] scope pos) (tM X.K cl E (lcM (own.map (·.2)) m g t me)) := (pe_lc hc hN hi ok hg ht he hs).imp (lcI G)
theorem s_setLc {i : Nat} {y : Str} (hc : X.calm = true) (hN : X.N.Nodup) (hy : X.N[i]? = some y) (hyl : X.env.scope.names.lookup y = some .local) (hsw : swapsWith (.ListComp elt [⟨tg, iter, ifs, 0⟩] scope pos) (some (.Name y py)) spos.line X.env = pure true)
    (hi : PI X tg iter (tMI X.K cl E m)) (ok : BlkOk X.N X.env.scope scope own) (G : GW X.K (own.map (·.2)) tG g)
    (hg : ∀ (s : Shared) (H : Hp) (C : Addr) (cl : List (Str × Addr)) (fp : List Addr), PG (X.blk s H scope (compEnvC scope cl C X.env) fp) tg tG)
    (ht : ∀ (s : Shared) (H : Hp) (C : Addr) (cl' : List (Str × Addr)) (fp : List Addr), PTs (X.blk s H scope (compEnvC scope cl' C X.env) fp) ifs (tMT X.K cl xk0 t))
    (he : ∀ (s : Shared) (H : Hp) (C : Addr) (cl' : List (Str × Addr)) (fp : List Addr), PE (X.blk s H scope (compEnvC scope cl' C X.env) fp) elt (tM X.K cl xk0 me)) (hs : ∀ x, foldedSetIterable iter X.env x = pure x) :
    PS X (.Assign [.Name y py] (.ListComp elt [⟨tg, iter, ifs, 0⟩] scope pos) spos) (tMS X.K cl E (setS i (lcM (own.map (·.2)) m g t me))) :=
  (ps_setLc hc hN hy hyl hsw hi ok hg ht he hs).imp fun D σ H ⟨ρ, mh, ι, sr, hr, ok⟩ => by
    refine lcI G _ _ _ (tM.mono (step sr hr ok) fun v H1 ⟨d1, mh1, ι1, e1, sr1, hr1, r1, q1⟩ => ?_)
    exact finS (r := (.nx, ρ.set i (some d1))) hr1 (sr1.set r1 i) q1
theorem t_yes : PTs X [] (tMT X.K cl E yesT) := ⟨fun pins s σ H Q I ⟨ρ, mh, ι, sr, hr, ok⟩ => pts_nil.run pins s σ H Q I (finT hr ok)⟩
end
end Mir
namespace Mir
open PySem PySem.Spec L2

/-! ### dict displays -/
def pairsM : List (ME × ME) → Ro → MH → Res (List (D × D))
  | [], _, h => .ok [] h
  | (k, v) :: r, ρ, h => (k ρ h).bind fun x h => (v ρ h).bind fun y h => (pairsM r ρ h).bind fun ps h => .ok ((x, y) :: ps) h
def keysD {κ : Type} (f : D → Option κ) : List (D × D) → Option (List (κ × D))
  | [] => some []
  | (x, y) :: r => match f x, keysD f r with | some k, some ps => some ((k, y) :: ps) | _, _ => none
def mergeD {κ : Type} [DecidableEq κ] (kvs more : List (κ × D)) : List (κ × D) := more.foldl (fun acc kv => putD acc kv.1 kv.2) kvs
def newDic : ME := fun _ h => .ok (.ref h.length) (h ++ [.dic []])
def dispM (prs : List (ME × ME)) : ME := fun ρ h => (pairsM prs ρ (h ++ [.dic []])).bind fun ps h2 => match keysD keyD ps with
  | some kvs => if kvs.length ≤ 15 then (match h2[h.length]? with | some (.dic []) => .ok (.ref h.length) (h2.set h.length (.dic (mergeD [] kvs))) | _ => .no) else .no
  | none => .no
def dispL (prs : List (ME × ME)) : ME := fun ρ h => (pairsM prs ρ (h ++ [.dil []])).bind fun ps h2 => match keysD leafD ps with
  | some kvs => if kvs.length ≤ 15 then (match h2[h.length]? with | some (.dil []) => .ok (.ref h.length) (h2.set h.length (.dil (mergeD [] kvs))) | _ => .no) else .no
  | none => .no
abbrev Prr (K : PySem.W.Frag) (H : Hp) (ι : List Addr) : List (D × D) → List (V × V) → Prop := Paired fun p q => Rep K H ι p.1 q.1 ∧ Rep K H ι p.2 q.2
section
variable {K : PySem.W.Frag} {cl : Clm} {E : XK} {H : Hp} {ι : List Addr} {ρ : Ro} {σ : L2.St} {mh : MH}
theorem tM.mono' {m : ME} {Q Q' : VK} (h : tM K cl E m σ H Q) (i : ∀ v H', Q v H' → Q' v H') : tM K cl E m σ H Q' := by
  obtain ⟨ρ, mh, ι, a1, a2, a3⟩ := h
  exact ⟨ρ, mh, ι, a1, a2, okR.imp a3 fun d H1 ι1 e1 q v rv => i _ _ (q v rv)⟩
theorem pairs_ok {Q : List (V × V) → Hp → Prop} : ∀ (prs : List (ME × ME)) {H : Hp} {ι : List Addr} {mh : MH} {P : List (D × D) → Hp → List Addr → Prop}, SR K H ι ρ σ → HR K cl H ι mh → okR K cl E ι H (pairsM prs ρ mh) P →
    (∀ ps vs H' ι', Ext ι H ι' H' → Prr K H' ι' ps vs → P ps H' ι' → Q vs H') → tPairs (prs.map fun p => (tM K cl E p.1, tM K cl E p.2)) σ H Q
  | [], H, ι, mh, P, sr, hr, ok, q => q [] [] H ι .refl .nil (ok H ι hr .refl)
  | (k, v) :: r, H, ι, mh, P, sr, hr, ok, q => by
    refine tM.mono' (step sr hr ok) fun x H1 ⟨d1, mh1, ι1, e1, sr1, hr1, r1, q1⟩ => ?_
    refine tM.mono' (step sr1 hr1 q1) fun y H2 ⟨d2, mh2, ι2, e2, sr2, hr2, r2, q2⟩ => ?_
    refine pairs_ok (P := fun ps H3 ι3 => P ((d1, d2) :: ps) H3 ι3) r sr2 hr2 (okR.imp q2.bnd fun ps H3 ι3 e3 ⟨mh3, hr3, q3⟩ => q3 H3 ι3 hr3 .refl) fun ps vs H' ι' e rr p => ?_
    exact q _ _ _ _ ((e1.trans e2).trans e) (.cons ⟨(r1.mono e2).mono e, r2.mono e⟩ rr) p
theorem mergeD_of {κ : Type} [DecidableEq κ] : ∀ {ms : List (κ × D)} {us : List (κ × V)} {ds : List (κ × D)} {vs : List (κ × V)}, Prs K H ι ms us → Prs K H ι ds vs → Prs K H ι (mergeD ds ms) (us.foldl (fun acc kv => putK acc kv.1 kv.2) vs)
  | _, _, _, _, .nil, q => q
  | _, _, ds, vs, .cons (a := p) (b := u) r t, q => by
    have e : Prs K H ι (putD ds p.1 p.2) (putK vs u.1 u.2) := by rw [← r.1]; exact putD_of r.2 q
    exact (show Prs K H ι (mergeD (putD ds p.1 p.2) _) (List.foldl _ (putK vs u.1 u.2) _) from mergeD_of t e)
theorem keysK_of : ∀ {ps : List (D × D)} {vs : List (V × V)} {kvs : List (Key × D)}, Prr K H ι ps vs → keysD keyD ps = some kvs → ∃ us : List (Key × V), vs = us.map (fun kv => (kV kv.1, kv.2)) ∧ Prs K H ι kvs us
  | _, _, _, .nil, h => by cases h; exact ⟨[], rfl, .nil⟩
  | _, _, _, .cons (a := p) (b := q) (l₁ := ps) r t, h => by
    obtain ⟨x, y⟩ := p
    simp only [keysD] at h
    cases e1 : keyD x with
    | none => rw [e1] at h; cases h
    | some k =>
      cases e2 : keysD keyD ps with
      | none => rw [e1, e2] at h; cases h
      | some ks =>
        rw [e1, e2] at h
        cases h
        obtain ⟨us, rfl, q2⟩ := keysK_of t e2
        have := key_at r.1 e1
        obtain ⟨q1, q3⟩ := q
        simp only at this
        subst this
        exact ⟨(k, q3) :: us, rfl, .cons ⟨rfl, r.2⟩ q2⟩
theorem keysL_of {P : Program} {w : World} : ∀ {ps : List (D × D)} {vs : List (V × V)} {ws : List (Value × Value)} {kvs : List (Leaf × D)}, Prr K H ι ps vs → VV vs ws → keysD leafD ps = some kvs → ∃ (us : List (Leaf × V)) (rs : List (Leaf × Value)), Carries (leafKind P w) ws rs ∧ KV us rs ∧ Prs K H ι kvs us
  | _, _, _, _, .nil, v, h => by cases h; cases v; exact ⟨[], [], True.intro, .nil, .nil⟩
  | _, _, _, _, .cons (a := p) (b := q) (l₁ := ps) r t, v, h => by
    cases v with
    | @cons _ b _ bs v1 vt =>
      obtain ⟨x, y⟩ := p
      simp only [keysD] at h
      cases e1 : leafD x with
      | none => rw [e1] at h; cases h
      | some k =>
        cases e2 : keysD leafD ps with
        | none => rw [e1, e2] at h; cases h
        | some ks =>
          rw [e1, e2] at h
          cases h
          obtain ⟨us, rs, c, q1, q2⟩ := keysL_of (P := P) (w := w) t vt e2
          obtain ⟨b1, b2⟩ := b
          exact ⟨(k, q.2) :: us, (k, b2) :: rs, ⟨leaf_at r.1 v1.1 e1, rfl, c⟩, .cons ⟨rfl, v1.2⟩ q1, .cons ⟨rfl, r.2⟩ q2⟩
end
section
variable {X : Cx} {cl : Clm} {E : XK} {pos : Pos} {keys : List (Option Expr)} {values : List Expr} {prs : List (ME × ME)}
theorem m_dnew : PE X (.Dict [] [] pos) (tM X.K cl E newDic) := pe_dnewK.imp fun σ H Q ⟨ρ, mh, ι, sr, hr, ok⟩ => fun p hp => by
  refine ok _ (ι ++ [p]) (hr.new hp ⟨_, upd_same, .nil⟩) (.new hp _) _ (.ref ?_)
  rw [← hr.len]; simp
theorem m_disp (h : PPs X pos keys values (prs.map fun p => (tM X.K cl E p.1, tM X.K cl E p.2))) (hall : keys.all (·.isSome) = true) (hl : keys.length = values.length) (h0 : keys ≠ []) (h15 : keys.length ≤ 15) : PE X (.Dict keys values pos) (tM X.K cl E (dispM prs)) :=
  (pe_disp h hall hl h0 h15).imp fun σ H Q ⟨ρ, mh, ι, sr, hr, ok⟩ => fun p hp => by
    have hr1 : HR X.K cl (upd H p (.dK [])) (ι ++ [p]) (mh ++ [.dic []]) := hr.new hp ⟨_, upd_same, .nil⟩
    have e1 : Ext ι H (ι ++ [p]) (upd H p (.dK [])) := .new hp _
    have hn : (ι ++ [p])[mh.length]? = some p := by rw [← hr.len]; simp
    refine pairs_ok prs (sr.mono e1) hr1 (okR.bnd (okR.weak ok e1)) fun ps vs H' ι' e rr ⟨mh', hr', q⟩ => ?_
    cases hk : keysD keyD ps with
    | none => rw [hk] at q; exact q.elim
    | some kvs =>
      rw [hk] at q
      simp only at q
      split at q
      · rename_i h15'
        split at q
        · rename_i he
          have hn' := e.get hn
          obtain ⟨xs, g1, g2⟩ := hr'.ob _ _ _ hn' he
          cases g2
          obtain ⟨us, rfl, q2⟩ := keysK_of rr hk
          have ex : Ext ι' H' ι' (upd H' p (.dK (mergeK [] us))) := Ext.set g1 (fun _ z => nomatch z) fun _ _ z => nomatch z
          refine ⟨g1, us, rfl, by rw [← Prs.len q2]; exact h15', ?_⟩
          exact q _ ι' (hr'.set (o := .dic (mergeD [] kvs)) hn' ex ⟨_, upd_same, (mergeD_of q2 .nil).mono ex⟩) ex _ (.ref hn')
        · exact q.elim
      · exact q.elim
theorem m_displ (hcP : cl.P = X.prog) (hcw : cl.w = X.w) (h : PPs X pos keys values (prs.map fun p => (tM X.K cl E p.1, tM X.K cl E p.2))) (hall : keys.all (·.isSome) = true) (hl : keys.length = values.length) (h0 : keys ≠ []) (h15 : keys.length ≤ 15) : PE X (.Dict keys values pos) (tM X.K cl E (dispL prs)) := by
  refine ⟨fun pins s σ H Q I ⟨ρ, mh, ι, sr, hr, ok⟩ => ?_⟩
  have hn := I.hok.fresh (Nat.le_refl s.heap.objs.size)
  have kp : ∀ (vs : List (Leaf × V)) (h1 h2 : Heap), BD X.prog X.w s.heap.objs.size vs h1 → (∀ o, h1.get? s.heap.objs.size = some o → h2.get? s.heap.objs.size = some o) → BD X.prog X.w s.heap.objs.size vs h2 :=
    fun vs h1 h2 ⟨b1, b2, us', b3, q, es, ep, b4, b5⟩ k => ⟨b1, b2, us', b3, q, es, ep, k _ b4, b5⟩
  have hd0 : (s.heap.objs.size == sysModules) = false := beq_eq_false_iff_ne.mpr (Ne.symm (Nat.ne_of_lt I.big))
  have em : (s.heap.push { cls := .type "dict", data := .dict #[] }).DictOf (leafKind X.prog X.w) s.heap.objs.size [] := Heap.DictOf.new s.heap
  have I1 := I.laid (a := s.heap.objs.size) (o := bO X.prog X.w s.heap.objs.size []) (h' := s.heap.push { cls := .type "dict", data := .dict #[] }) (t' := s.toks) (fun _ _ q => Heap.get?_push_of_some _ q) (Nat.le_refl _)
    ⟨⟨Nat.zero_le _, hd0, [], .nil, em⟩, ⟨_, Heap.get?_push_size _ rfl⟩, kp []⟩
  have hr1 : HR X.K cl (upd H s.heap.objs.size (bO X.prog X.w s.heap.objs.size [])) (ι ++ [s.heap.objs.size]) (mh ++ [.dil []]) := hr.new hn ⟨[], by rw [hcP, hcw]; exact upd_same, .nil⟩
  have e1 : Ext ι H (ι ++ [s.heap.objs.size]) (upd H s.heap.objs.size (bO X.prog X.w s.heap.objs.size [])) := .new hn _
  have hnn : (ι ++ [s.heap.objs.size])[mh.length]? = some s.heap.objs.size := by rw [← hr.len]; simp
  refine wpAny_Dict_walk (knd := leafKind X.prog X.w) hall hl h0 h15 (thn (h.run pins _ σ _ (fun vs H2 => ∃ ps ι' mh', Prr X.K H2 ι' ps vs ∧ HR X.K cl H2 ι' mh' ∧ Ext (ι ++ [s.heap.objs.size]) (upd H s.heap.objs.size (bO X.prog X.w s.heap.objs.size [])) ι' H2 ∧ okR X.K cl E ι' H2 (match keysD leafD ps with
    | some kvs => if kvs.length ≤ 15 then (match mh'[mh.length]? with | some (.dil []) => .ok (.ref mh.length) (mh'.set mh.length (.dil (mergeD [] kvs))) | _ => .no) else .no
    | none => .no) (pE X.K Q)) I1 (pairs_ok prs (sr.mono e1) hr1 (okR.bnd (okR.weak ok e1)) fun ps vs H' ι' e rr ⟨mh', hr', q⟩ => ⟨ps, ι', mh', rr, hr', e, q⟩)) fun ws s2 ⟨vs, H2, I2, rel, ps, ι', mh', rr, hr', e, q⟩ => ?_)
  cases hk : keysD leafD ps with
  | none => rw [hk] at q; exact q.elim
  | some kvs =>
    rw [hk] at q
    simp only at q
    split at q
    · rename_i h15'
      split at q
      · rename_i he
        have hn' := e.get hnn
        obtain ⟨xs, g1, g2⟩ := hr'.ob _ _ _ hn' he
        cases g2
        obtain ⟨us, rs, c, q1, q2⟩ := keysL_of (P := X.prog) (w := X.w) rr rel hk
        rw [hcP, hcw] at g1
        obtain ⟨z, hd, us0, r0, dd⟩ := bd_of I2.hok g1
        cases r0
        refine ⟨rs, c, dd, fun h' dd' hs => ?_⟩
        have mg : ∀ {more : List (Leaf × V)} {rs : List (Leaf × Value)} {kvs : List (Leaf × V)} {vs : List (Leaf × Value)}, KV more rs → KV kvs vs → KV (more.foldl (fun acc kv => putK acc kv.1 kv.2) kvs) (merged vs rs) := by
          intro more rs kvs vs r
          unfold KV at r
          induction r generalizing kvs vs with
          | nil => intro q; exact q
          | @cons p q ps qs h t ih =>
            intro r0
            have e : KV (putK kvs p.1 p.2) (stored vs q.1 q.2) := by
              have := r0.put p.1 h.2
              rw [← h.1]; exact this
            exact ih e
        have ln : ∀ (more kvs : List (Leaf × V)), (more.foldl (fun acc kv => putK acc kv.1 kv.2) kvs).length ≤ kvs.length + more.length := by
          intro more
          induction more with
          | nil => intro kvs; exact Nat.le_refl _
          | cons p r ih =>
            intro kvs
            have h1 := ih (putK kvs p.1 p.2)
            have h2 := length_putK kvs p.1 p.2
            show (List.foldl _ (putK kvs p.1 p.2) r).length ≤ _
            rw [List.length_cons]; omega
        have ex : Ext ι' H2 ι' (upd H2 s.heap.objs.size (bO X.prog X.w s.heap.objs.size (us.foldl (fun acc kv => putK acc kv.1 kv.2) []))) := Ext.set g1 (fun _ z => nomatch z) fun _ _ z => nomatch z
        have hz : (us.foldl (fun acc kv => putK acc kv.1 kv.2) ([] : List (Leaf × V))).length ≤ sizeLine := by
          have h1 := ln us []
          have h2 := Prs.len q2
          rw [List.length_nil] at h1
          rw [sizeLine_eq]; omega
        have he' : ∃ q, h'.get? s.heap.objs.size = some q := let ⟨q, _, _, hq, _⟩ := dd'; ⟨q, hq⟩
        refine ⟨.ref s.heap.objs.size, _, d_write I2 (ob := bO X.prog X.w s.heap.objs.size (us.foldl (fun acc kv => putK acc kv.1 kv.2) [])) (by rw [g1]; exact True.intro) hs he' ⟨⟨hz, hd, _, mg q1 .nil, dd'⟩, he', kp _⟩, rfl, ?_⟩
        exact q _ ι' (hr'.set (o := .dil (mergeD [] kvs)) hn' ex ⟨_, by rw [hcP, hcw]; exact upd_same, (mergeD_of q2 .nil).mono ex⟩) ex _ (.ref hn')
      · exact q.elim
    · exact q.elim
end

/-! ### methods of built-in types -/
def rMt (K : PySem.W.Frag) (cl : Clm) (E : XK) (g : D → List D → MH → Res D) : V → List V → Hp → VK → Prop := fun x xs H Q => ∃ dx ds mh ι, Rep K H ι dx x ∧ Reps K H ι ds xs ∧ HR K cl H ι mh ∧ okR K cl E ι H (g dx ds mh) (pE K Q)
structure BM (X : Cx) (cl : Clm) (E : XK) (T : String) (name : Str) (g : D → List D → MH → Res D) : Prop where
  ex : ∃ id, PlainAttrs T ∧ Slot T name id ∧ typeOf (.builtin id) = pure (.type "method_descriptor") ∧ MtR X id (rMt X.K cl E g)
def isTy (T : String) (x : D) (h : MH) : Bool := match x with
  | .str _ => T == "str"
  | .wl _ => T == "list"
  | .ref n => (match h[n]? with | some (.lst _) => T == "list" | some (.dic _) => T == "dict" | _ => false)
  | _ => false
def bmM (T : String) (g : D → List D → MH → Res D) (o : ME) (a : MA) : ME := fun ρ h => (o ρ h).bind fun x h => if isTy T x h = true then (a ρ h).bind fun xs h => g x xs h else .no
theorem tyV_of {K : PySem.W.Frag} {cl : Clm} {H : Hp} {ι : List Addr} {mh : MH} {x : D} {v : V} {T : String} (hr : HR K cl H ι mh) (r : Rep K H ι x v) (h : isTy T x mh = true) : tyV K T v H := by
  cases r with
  | str z => exact beq_iff_eq.mp h
  | wl s q => exact .inl ⟨beq_iff_eq.mp h, _, s.sq⟩
  | @ref n a hn =>
    simp only [isTy] at h
    cases e : mh[n]? with
    | none => rw [e] at h; cases h
    | some o =>
      rw [e] at h
      have ho := hr.ob n a o hn e
      cases o <;> try cases h
      · obtain ⟨xs, g1, g2⟩ := ho; exact .inl ⟨beq_iff_eq.mp h, xs, SqL.of g1⟩
      · obtain ⟨xs, g1, g2⟩ := ho; exact .inr (.inr (.inl ⟨beq_iff_eq.mp h, .inl ⟨xs, g1⟩⟩))
  | _ => cases h
section
variable {X : Cx} {cl : Clm} {E : XK} {o e : Expr} {es : List Expr} {name : Str} {apos cpos : Pos} {T : String} {g : D → List D → MH → Res D} {mo : ME} {ma : MA}
theorem m_bm0 (B : BM X cl E T name g) (ho : PE X o (tM X.K cl E mo)) (hbase : attributeBase o name X.env (eval o X.env) = eval o X.env) (hline : (apos.endLine == cpos.line) = true) : PE X (.Call (.Attribute o name apos) [] [] cpos) (tM X.K cl E (bmM T g mo nilM)) := by
  obtain ⟨id, pa, sl, ty, hm⟩ := B.ex
  exact (pe_bm0 pa sl ty hm ho hbase hline).imp fun σ H Q ⟨ρ, mh, ι, sr, hr, ok⟩ => tM.mono (step sr hr ok) fun v H1 ⟨d1, mh1, ι1, e1, sr1, hr1, r1, q1⟩ => by
    split at q1
    · rename_i h
      exact ⟨tyV_of hr1 r1 h, d1, [], mh1, ι1, r1, .nil, hr1, q1⟩
    · exact q1.elim
theorem m_bm (B : BM X cl E T name g) (ho : PE X o (tM X.K cl E mo)) (ha : PA X (e :: es) (tMA X.K cl E ma)) (hbase : attributeBase o name X.env (eval o X.env) = eval o X.env)
    (hfew : ((backTo cpos (starEach (e :: es) X.env)).all (fun x => !x.1) && (backToKw cpos (keywordEach [] X.env)).all (fun x => x.1.isSome)
      && decide ((e :: es).length + ([] : List Keyword).length + (if ([] : List Keyword).isEmpty then 0 else 1) < 30)) = true)
    (hline : (apos.endLine == cpos.line) = true) (hs : starEach (e :: es) X.env = (false, eval e X.env) :: starEach es X.env) (hplain : (backTo cpos (starEach es X.env)).any (·.1) = false) :
    PE X (.Call (.Attribute o name apos) (e :: es) [] cpos) (tM X.K cl E (bmM T g mo ma)) := by
  obtain ⟨id, pa, sl, ty, hm⟩ := B.ex
  exact (pe_bm pa sl ty hm ho ha hbase hfew hline hs hplain).imp fun σ H Q ⟨ρ, mh, ι, sr, hr, ok⟩ => tM.mono (step sr hr ok) fun v H1 ⟨d1, mh1, ι1, e1, sr1, hr1, r1, q1⟩ => by
    split at q1
    · rename_i h
      refine ⟨tyV_of hr1 r1 h, tMA.mono (stepA sr1 hr1 q1) fun vs H2 ⟨ds, mh2, ι2, e2, sr2, hr2, r2, q2⟩ => ?_⟩
      exact ⟨d1, ds, mh2, ι2, r1.mono e2, r2, hr2, q2⟩
    · exact q1.elim
end
/-! the methods -/
def strsO : List D → Option (List Str)
  | [] => some []
  | .str i :: r => (strsO r).map (i :: ·)
  | _ => none
def lowerD (x : D) (xs : List D) (h : MH) : Res D := match x, xs with | .str a, [] => if a.length ≤ 5592405 then .ok (.str (Txt.lower a)) h else .no | _, _ => .no
def stripD (x : D) (xs : List D) (h : MH) : Res D := match x, xs with | .str a, [.str b] => if a.length ≤ sizeLine then .ok (.str (Txt.stripChars a b)) h else .no | _, _ => .no
def splitD (x : D) (xs : List D) (h : MH) : Res D := match x, xs with
  | .str a, [.str b] => if (b.length == 0) = false ∧ a.length + 2 ≤ sizeLine then .ok (.ref h.length) (h ++ [.lst ((Txt.split a b).map .str)]) else .no
  | _, _ => .no
def joinD (x : D) (xs : List D) (h : MH) : Res D := match x, xs with
  | .str a, [y] => (match (seqO y h).bind strsO with | some ys => if (ys.map (·.length)).sum + ys.length * a.length ≤ 16777216 then .ok (.str (Txt.join a ys)) h else .no | none => .no)
  | _, _ => .no
def appendD (x : D) (xs : List D) (h : MH) : Res D := match x, xs with
  | .ref n, [y] => (match h[n]? with | some (.lst ds) => if ds.length < sizeLine then .ok .non (h.set n (.lst (ds ++ [y]))) else .no | _ => .no)
  | _, _ => .no
def extendD (x : D) (xs : List D) (h : MH) : Res D := match x, xs with
  | .ref n, [.ref m] => (match h[n]?, h[m]? with | some (.lst ds), some (.lst es) => if ds.length + es.length ≤ sizeLine then .ok .non (h.set n (.lst (ds ++ es))) else .no | _, _ => .no)
  | _, _ => .no
def indexD (x : D) (xs : List D) (h : MH) : Res D := match x, xs with
  | .ref n, [y] => (match seqO (.ref n) h with
    | some ds => if flatD y = true ∧ ds.all flatD = true then (match ds.findIdx? fun d => eqF d y with | some j => .ok (.int (j : Nat)) h | none => .no) else .no
    | none => .no)
  | _, _ => .no
def popD (x : D) (xs : List D) (h : MH) : Res D := match x, xs with
  | .ref n, [] => (match h[n]? with | some (.lst ds) => (match ds[ds.length - 1]? with | some y => .ok y (h.set n (.lst ds.dropLast)) | none => .no) | _ => .no)
  | _, _ => .no
section
variable {X : Cx} {cl : Clm} {E : XK}
theorem strs_of {K : PySem.W.Frag} {H : Hp} {ι : List Addr} : ∀ {ds : List D} {vs : List V} {ns : List Str}, Reps K H ι ds vs → strsO ds = some ns → vs = ns.map V.str
  | _, _, _, .nil, h => by cases h; rfl
  | _, _, _, .cons r t, h => by
    cases r <;> try cases h
    obtain ⟨ms, h1, rfl⟩ := Option.map_eq_some_iff.mp h
    rw [strs_of t h1]; rfl
theorem reps_strs {K : PySem.W.Frag} {H : Hp} {ι : List Addr} : ∀ (ss : List Str), Reps K H ι (ss.map .str) (ss.map V.str)
  | [] => .nil
  | s :: ss => .cons (.str s) (reps_strs ss)
theorem bm_lower : BM X cl E "str" "lower" lowerD := by
  refine ⟨_, F.plainAttrs_str, F.slot_str_lower, F.type_str_lower, ?_⟩
  rintro pins s σ H x xs v us Q I rx rs ⟨dx, ds, mh, ι, r1, r2, hr, ok⟩
  unfold lowerD at ok
  split at ok
  · cases r1; cases r2
    split at ok
    · rename_i hl; exact mt_lower pins s σ H _ _ v us Q I rx rs ⟨_, rfl, rfl, hl, fin hr (.str _) ok⟩
    · exact ok.elim
  · exact ok.elim
theorem bm_strip : BM X cl E "str" "strip" stripD := by
  refine ⟨_, F.plainAttrs_str, F.slot_str_strip, F.type_str_strip, ?_⟩
  rintro pins s σ H x xs v us Q I rx rs ⟨dx, ds, mh, ι, r1, r2, hr, ok⟩
  unfold stripD at ok
  split at ok
  · cases r1
    obtain ⟨v2, rfl, q2⟩ := one_of r2
    cases q2
    split at ok
    · rename_i hl; exact mt_stripChars pins s σ H _ _ v us Q I rx rs ⟨_, _, rfl, rfl, hl, fin hr (.str _) ok⟩
    · exact ok.elim
  · exact ok.elim
theorem bm_split : BM X cl E "str" "split" splitD := by
  refine ⟨_, F.plainAttrs_str, F.slot_str_split, F.type_str_split, ?_⟩
  rintro pins s σ H x xs v us Q I rx rs ⟨dx, ds, mh, ι, r1, r2, hr, ok⟩
  unfold splitD at ok
  split at ok
  · cases r1
    obtain ⟨v2, rfl, q2⟩ := one_of r2
    cases q2
    split at ok
    · rename_i hl; exact mt_split pins s σ H _ _ v us Q I rx rs ⟨_, _, rfl, rfl, hl.1, hl.2, fun p hp => new_lst hr (reps_strs _) ok hp⟩
    · exact ok.elim
  · exact ok.elim
theorem bm_join : BM X cl E "str" "join" joinD := by
  refine ⟨_, F.plainAttrs_str, F.slot_str_join, F.type_str_join, ?_⟩
  rintro pins s σ H x xs v us Q I rx rs ⟨dx, ds, mh, ι, r1, r2, hr, ok⟩
  unfold joinD at ok
  split at ok
  · cases r1
    obtain ⟨v2, rfl, q2⟩ := one_of r2
    split at ok
    · rename_i ys hys
      obtain ⟨es, h1, h2⟩ := Option.bind_eq_some_iff.mp hys
      obtain ⟨p, zs, rfl, sq, q⟩ := seq_of hr q2 h1
      rw [strs_of q h2] at sq
      split at ok
      · rename_i hl; exact mt_join pins s σ H _ _ v us Q I rx rs ⟨_, p, ys, rfl, rfl, sq, hl, fin hr (.str _) ok⟩
      · exact ok.elim
    · exact ok.elim
  · exact ok.elim
theorem bm_append : BM X cl E "list" "append" appendD := by
  refine ⟨_, PySem.F.plainAttrs_list, PySem.F.slot_list_append, PySem.F.type_list_append, ?_⟩
  rintro pins s σ H x xs v us Q I rx rs ⟨dx, ds, mh, ι, r1, r2, hr, ok⟩
  unfold appendD at ok
  split at ok
  · cases r1
    rename_i n y a hn
    obtain ⟨v2, rfl, q2⟩ := one_of r2
    split at ok
    · rename_i es he
      obtain ⟨zs, g1, g2⟩ := hr.ob _ _ _ hn he
      split at ok
      · rename_i hl
        have ex : Ext ι H ι (upd H a (.lst (zs ++ [v2]))) := Ext.set g1 (fun _ z => nomatch z) fun _ _ z => nomatch z
        refine mt_append pins s σ H _ _ v us Q I rx rs ⟨a, zs, v2, rfl, rfl, g1, g2.length ▸ hl, ?_⟩
        exact ok _ ι (hr.set (o := .lst (es ++ [y])) hn ex ⟨_, upd_same, (g2.append (.cons q2 .nil)).mono ex⟩) ex _ .non
      · exact ok.elim
    · exact ok.elim
  · exact ok.elim
theorem bm_extend : BM X cl E "list" "extend" extendD := by
  refine ⟨_, PySem.F.plainAttrs_list, PySem.F.slot_list_extend, PySem.F.type_list_extend, ?_⟩
  rintro pins s σ H x xs v us Q I rx rs ⟨dx, ds, mh, ι, r1, r2, hr, ok⟩
  unfold extendD at ok
  split at ok
  · cases r1
    rename_i n m a hn
    obtain ⟨v2, rfl, q2⟩ := one_of r2
    cases q2
    rename_i b hm
    split at ok
    · rename_i ds es h1 h2
      obtain ⟨xs, g1, g2⟩ := hr.ob _ _ _ hn h1
      obtain ⟨ys, g3, g4⟩ := hr.ob _ _ _ hm h2
      split at ok
      · rename_i hl
        have ex : Ext ι H ι (upd H a (.lst (xs ++ ys))) := Ext.set g1 (fun _ z => nomatch z) fun _ _ z => nomatch z
        refine mt_extend pins s σ H _ _ v us Q I rx rs ⟨a, b, xs, ys, rfl, rfl, g1, g3, by rw [← g2.length, ← g4.length]; exact hl, ?_⟩
        exact ok _ ι (hr.set (o := .lst (ds ++ es)) hn ex ⟨_, upd_same, (g2.append g4).mono ex⟩) ex _ .non
      · exact ok.elim
    · exact ok.elim
  · exact ok.elim
theorem bm_index : BM X cl E "list" "index" indexD := by
  refine ⟨_, PySem.F.plainAttrs_list, PySem.F.slot_list_index, PySem.F.type_list_index, ?_⟩
  rintro pins s σ H x xs v us Q I rx rs ⟨dx, ds, mh, ι, r1, r2, hr, ok⟩
  unfold indexD at ok
  split at ok
  · rename_i n y
    obtain ⟨v2, rfl, q2⟩ := one_of r2
    split at ok
    · rename_i es he
      split at ok
      · rename_i hf
        split at ok
        · rename_i j hj
          obtain ⟨h1, h2, h3⟩ := List.findIdx?_eq_some_iff_getElem.mp hj
          have sq : ∃ p zs, x = .ref p ∧ SqL X.K H p zs ∧ Reps X.K H ι es zs := by
            cases r1 with
            | @ref _ a hn =>
              simp only [seqO] at he
              cases e1 : mh[n]? with
              | none => rw [e1] at he; cases he
              | some o =>
                rw [e1] at he
                have ho := hr.ob n a o hn e1
                cases o <;> try cases he
                · obtain ⟨zs, g1, g2⟩ := ho; exact ⟨a, zs, rfl, SqL.of g1, g2⟩
          obtain ⟨p, zs, rfl, sq, q⟩ := sq
          obtain ⟨z, hz, rz⟩ := q.get (List.getElem?_eq_getElem h1)
          refine mt_index pins s σ H _ _ v us Q I rx rs ⟨p, zs, v2, j, z, rfl, rfl, sq, flat_of q2 ▸ hf.1, flats_of q ▸ hf.2, hz, ?_, fun m z' hm hz' => ?_, fin hr (.int _) ok⟩
          · rw [← eqF_of rz q2]; exact h2
          · obtain ⟨d', hd', rd'⟩ := Reps.getV q hz'
            have := h3 m hm
            rw [← eqF_of rd' q2]
            have e : es[m] = d' := by rw [List.getElem?_eq_getElem (Nat.lt_trans hm h1)] at hd'; exact Option.some.inj hd'
            rw [e] at this
            simpa using this
        · exact ok.elim
      · exact ok.elim
    · exact ok.elim
  · exact ok.elim
theorem Reps.dropLast {K : PySem.W.Frag} {H : Hp} {ι : List Addr} {ds : List D} {vs : List V} (r : Reps K H ι ds vs) : Reps K H ι ds.dropLast vs.dropLast := by
  rw [List.dropLast_eq_take, List.dropLast_eq_take, r.length]
  exact r.take _
theorem bm_pop : BM X cl E "list" "pop" popD := by
  refine ⟨_, PySem.F.plainAttrs_list, PySem.F.slot_list_pop, PySem.F.type_list_pop, ?_⟩
  rintro pins s σ H x xs v us Q I rx rs ⟨dx, ds, mh, ι, r1, r2, hr, ok⟩
  unfold popD at ok
  split at ok
  · cases r1; cases r2
    rename_i n a hn
    split at ok
    · rename_i es he
      obtain ⟨zs, g1, g2⟩ := hr.ob _ _ _ hn he
      split at ok
      · rename_i y hy
        have ex : Ext ι H ι (upd H a (.lst zs.dropLast)) := Ext.set g1 (fun _ z => nomatch z) fun _ _ z => nomatch z
        obtain ⟨w, hw, rw'⟩ := g2.get hy
        refine mt_pop pins s σ H _ _ v us Q I rx rs ⟨a, zs, w, rfl, rfl, g1, by rw [← g2.length]; exact hw, ?_⟩
        exact ok _ ι (hr.set (o := .lst es.dropLast) hn ex ⟨_, upd_same, g2.dropLast.mono ex⟩) ex _ (rw'.mono ex)
      · exact ok.elim
    · exact ok.elim
  · exact ok.elim
end
def bmTab (T : String) (name : Str) : Option (D → List D → MH → Res D) :=
  if T = "str" then (if name = "lower" then some lowerD else if name = "strip" then some stripD else if name = "split" then some splitD else if name = "join" then some joinD else none)
  else if T = "list" then (if name = "append" then some appendD else if name = "extend" then some extendD else if name = "index" then some indexD else if name = "pop" then some popD else none)
  else none
theorem bmTab_ok {X : Cx} {cl : Clm} {E : XK} {T : String} {name : Str} {g : D → List D → MH → Res D} (h : bmTab T name = some g) : BM X cl E T name g := by
  unfold bmTab at h
  split at h
  · rename_i hT; subst hT
    split at h
    · rename_i e; subst e; cases h; exact bm_lower
    split at h
    · rename_i e; subst e; cases h; exact bm_strip
    split at h
    · rename_i e; subst e; cases h; exact bm_split
    split at h
    · rename_i e; subst e; cases h; exact bm_join
    · cases h
  · split at h
    · rename_i hT; subst hT
      split at h
      · rename_i e; subst e; cases h; exact bm_append
      split at h
      · rename_i e; subst e; cases h; exact bm_extend
      split at h
      · rename_i e; subst e; cases h; exact bm_index
      split at h
      · rename_i e; subst e; cases h; exact bm_pop
      · cases h
    · cases h
end Mir
namespace Mir
open PySem PySem.Spec L2

/-! ### the mirror of a text -/
inductive GV where
  | val (d : D) | fn (np : Nat)
structure Tab where
  gl : Str → Option GV
  fns : Str → List D → MH → Res D
def okName (x : Str) : Bool := !(x == ("__debug__" : Str)) && !(x == ("__classdict__" : Str)) && decide (x ≠ "__name__")
def slotOf (N : List Str) (sc : Scope) (x : Str) : Option Nat := match sc.names.lookup x with
  | some .local => N.idxOf? x
  | some .cell => N.idxOf? x
  | some .free => N.idxOf? x
  | _ => none
def isGl (sc : Scope) (x : Str) : Bool := decide (sc.names.lookup x = some .globalImplicit)
def bltNames : List (Str × String) := [("len", "len"), ("abs", "abs"), ("ord", "ord"), ("max", "max"), ("min", "min"), ("sum", "sum"), ("isinstance", "isinstance")]
def tyNames : List (Str × String) := [("int", "int"), ("tuple", "tuple"), ("list", "list"), ("str", "str")]
def tyCalls : List (Str × String) := [("int", "int"), ("tuple", "tuple"), ("list", "list")]
def nameE (T : Tab) (N : List Str) (sc : Scope) (x : Str) : ME :=
  if okName x = true then match slotOf N sc x with
    | some i => varM i
    | none => if isGl sc x = true then match T.gl x with
      | some (.val d) => cM d
      | some _ => noM
      | none => (match tyNames.lookup x with | some t => cM (.ty t) | none => noM) else noM
  else noM
def constE : Const → ME
  | .none => cM .non
  | .bool b => cM (.bl b)
  | .int i => cM (.int i)
  | .str x => cM (.str x)
  | _ => noM
def notStar : Expr → Bool
  | .Starred _ _ => false
  | _ => true
def notSet : Expr → Bool
  | .Set _ _ _ => false
  | _ => true
def notSlice : Expr → Bool
  | .Slice _ _ _ _ => false
  | _ => true
def notSuper : Expr → Bool
  | .Call (.Name id _) [] [] _ => decide (id ≠ "super")
  | _ => true
def argsE : List ME → MA
  | [] => nilM
  | m :: ms => consM m (argsE ms)
def plainArgs (es : List Expr) : Bool := es.all notStar && decide (es.length < 30)
def andTs : List MT → MT
  | [] => noT
  | [a] => a
  | a :: b :: r => andT a (andTs (b :: r))
def orTs : List MT → MT
  | [] => noT
  | [a] => a
  | a :: b :: r => orT a (orTs (b :: r))
def andMs : List ME → ME
  | [] => noM
  | [a] => a
  | a :: b :: r => andM a (andMs (b :: r))
def orMs : List ME → ME
  | [] => noM
  | [a] => a
  | a :: b :: r => orM a (orMs (b :: r))
abbrev Dn := Scope → (Expr → ME) × (Expr → MT)
def cmpE (d : Expr → ME) (a : Expr) (ops : List CmpOp) (es : List Expr) : ME := match ops, es with
  | [op], [b] => if notSet b = true then binM (compD op) (d a) (d b) else noM
  | [op, op'], [b, c] => if notSet c = true then chainM (compD op) (compD op') (d a) (d b) (d c) else noM
  | _, _ => noM
def partE (d : Expr → ME) : Option Expr → Ro → MH → Res (Option Int)
  | some e => partM (d e)
  | none => noPart
def noI : MI := fun _ _ => .no
def iterE (T : Tab) (sc : Scope) (d : Expr → ME) (iter : Expr) : MI := match iter with
  | .Call (.Name x _) args [] _ => if x = "range" then (if isGl sc x = true ∧ (T.gl x).isNone = true ∧ plainArgs args = true then (match args with
      | [a] => rangeI1 (argsE [d a])
      | [a, b] => rangeI2 (argsE [d a, d b])
      | [a, b, c] => rangeI3 (argsE [d a, d b, d c])
      | _ => noI) else noI) else (match iter with | .Set _ _ _ => noI | _ => seqI (d iter))
  | .Set _ _ _ => noI
  | _ => seqI (d iter)
def idxs (N : List Str) (ok : Str → Bool) : List Expr → Option (List Nat)
  | [] => some []
  | .Name x _ :: r => if ok x = true then (match N.idxOf? x, idxs N ok r with | some i, some is => some (i :: is) | _, _ => none) else none
  | _ => none
inductive Tg where
  | one (i : Nat) | many (is : List Nat) | bad
def tgOf (N : List Str) (ok : Str → Bool) : Expr → Tg
  | .Name x _ => if ok x = true then (match N.idxOf? x with | some i => .one i | none => .bad) else .bad
  | .Tuple es _ _ => (match idxs N ok es with | some is => .many is | none => .bad)
  | _ => .bad
def noG : MG := fun _ _ _ => .no
def tgG : Tg → MG
  | .one i => nameG i
  | .many is => tupG is
  | .bad => noG
def ownOf (N : List Str) (scope : Scope) : List (Str × Nat) := scope.names.filterMap fun y => match y.2 with
  | .local => (N.idxOf? y.1).map fun i => (y.1, i)
  | .cell => (N.idxOf? y.1).map fun i => (y.1, i)
  | _ => none
def isLoc (sc : Scope) (x : Str) : Bool := decide (sc.names.lookup x = some .local)
def tgIn (vs : List Nat) : Tg → Bool
  | .one i => vs.contains i
  | .many is => is.all fun i => vs.contains i
  | .bad => false
def testsE (d : Expr → MT) : List Expr → MT
  | [] => yesT
  | [c] => d c
  | _ => noT
def compE (T : Tab) (N : List Str) (d : Dn) (sc : Scope) (elt : Expr) (gens : List Comprehension) (scope : Scope) : ME := match gens with
  | [⟨tg, iter, ifs, 0⟩] =>
    if blkC N sc scope (ownOf N scope) = true ∧ tgIn ((ownOf N scope).map (·.2)) (tgOf N (isLoc scope) tg) = true then
      lcM ((ownOf N scope).map (·.2)) (iterE T sc (d sc).1 iter) (tgG (tgOf N (isLoc scope) tg)) (testsE (d (relS scope sc)).2 ifs) ((d (relS scope sc)).1 elt)
    else noM
  | _ => noM
def allBool (keys : List (Option Expr)) : Bool := keys.all fun k => match k with | some (.Constant (.bool _) _ _) => true | _ => false
def pairsE (d : Expr → ME) : List (Option Expr) → List Expr → Option (List (ME × ME))
  | [], [] => some []
  | some k :: ks, v :: vs => (match pairsE d ks vs with | some r => some ((d k, d v) :: r) | none => none)
  | _, _ => none
def dictE (d : Expr → ME) (keys : List (Option Expr)) (values : List Expr) : ME := match keys, values with
  | [], [] => newDic
  | _, _ => match pairsE d keys values with
    | some prs => if keys.length ≤ 15 then (if allBool keys = true then dispL prs else dispM prs) else noM
    | none => noM
def bmE (name : Str) (o : ME) (a : MA) : ME := fun ρ h => match o ρ h with
  | .ok x h' => (if isTy "str" x h' = true then (match bmTab "str" name with | some g => bmM "str" g o a ρ h | none => .no)
    else if isTy "list" x h' = true then (match bmTab "list" name with | some g => bmM "list" g o a ρ h | none => .no)
    else if isTy "dict" x h' = true then (match bmTab "dict" name with | some g => bmM "dict" g o a ρ h | none => .no)
    else .no)
  | _ => .no
def callE (T : Tab) (N : List Str) (sc : Scope) (d : Expr → ME) (f : Expr) (args : List Expr) (cpos : Pos) : ME := match f with
  | .Name x _ => if okName x = true ∧ isGl sc x = true ∧ plainArgs args = true then (match T.gl x with
      | some (.fn np) => (match args with | [] => (match np with | 0 => callN 0 (T.fns x) nilM | _ => noM) | _ :: _ => callN np (T.fns x) (argsE (args.map d)))
      | some _ => noM
      | none => (match args with
        | [] => noM
        | _ :: _ => (match bltNames.lookup x with
          | some s => callM (bltD s) (argsE (args.map d))
          | none => (match tyCalls.lookup x with
            | some s => callM (tyD s) (argsE (args.map d))
            | none => noM)))) else noM
  | .Attribute o m apos => if plainArgs args = true ∧ notSuper o = true ∧ (apos.endLine == cpos.line) = true then bmE m (d o) (argsE (args.map d)) else noM
  | _ => noM
def estepD (T : Tab) (N : List Str) (d : Dn) (sc : Scope) (e : Expr) : ME := match e with
  | .Constant c _ _ => constE c
  | .Name x _ => nameE T N sc x
  | .BinOp a op b _ => binM (binD op) ((d sc).1 a) ((d sc).1 b)
  | .UnaryOp .USub a _ => unM negD ((d sc).1 a)
  | .UnaryOp .Not a _ => notM ((d sc).1 a)
  | .BoolOp .And es _ => andMs (es.map (d sc).1)
  | .BoolOp .Or es _ => orMs (es.map (d sc).1)
  | .Compare a ops es _ => cmpE (d sc).1 a ops es
  | .IfExp c a b _ => ifM ((d sc).2 c) ((d sc).1 a) ((d sc).1 b)
  | .Tuple es _ _ => if plainArgs es = true then tupM (argsE (es.map (d sc).1)) else noM
  | .List es _ => if es.all notStar = true then lstM (argsE (es.map (d sc).1)) else noM
  | .Subscript a (.Slice lo hi none _) _ => sliceM ((d sc).1 a) (partE (d sc).1 lo) (partE (d sc).1 hi)
  | .Subscript a b _ => if notSlice b = true then binM ixD ((d sc).1 a) ((d sc).1 b) else noM
  | .ListComp elt gens scope _ => compE T N d sc elt gens scope
  | .Dict keys values _ => dictE (d sc).1 keys values
  | .Call f args [] cpos => callE T N sc (d sc).1 f args cpos
  | _ => noM
def tstepD (d : Dn) (sc : Scope) (e : Expr) : MT := match e with
  | .BoolOp .And es _ => andTs (es.map (d sc).2)
  | .BoolOp .Or es _ => orTs (es.map (d sc).2)
  | .UnaryOp .Not a _ => notT ((d sc).2 a)
  | .Compare a ops es _ => testM (cmpE (d sc).1 a ops es)
  | .IfExp _ _ _ _ => noT
  | e => truM ((d sc).1 e)
def den (T : Tab) (N : List Str) : Nat → Dn
  | 0 => fun _ => (fun _ => noM, fun _ => noT)
  | n + 1 => fun sc => (estepD T N (den T N n) sc, tstepD (den T N n) sc)

/-! ### .. is sound -/
def GOk (X : Cx) (T : Tab) (cl : Clm) (x : Str) : GV → Prop
  | .val d => ∃ u v, X.mg x = some u ∧ RelV v u ∧ ∀ H ι, Rep X.K H ι d v
  | .fn np => ∃ k f fd ps, X.mg x = some (.ref f) ∧ PySem.W.keepIn X.K (.ref f) = true ∧ Binds X.K fd ps [] ∧ FnOk X.prog X.w X.K X.mg X.base CX0 k f fd ps (spM X.K cl np (T.fns x)) ∧ Room k X.A
def bltAll : List Str := [("range" : Str)] ++ bltNames.map (·.1) ++ tyNames.map (·.1)
structure Snd (X : Cx) (T : Tab) (cl : Clm) (N : List Str) (sc : Scope) : Prop where
  hN : X.N = N
  hsc : X.env.scope = sc
  nd : X.N.Nodup
  calm : X.calm = true
  hcP : cl.P = X.prog
  hcw : cl.w = X.w
  hu : X.A.units + 64 < cLine
  gl : ∀ x gv, T.gl x = some gv → GOk X T cl x gv
  bl : ∀ x ∈ bltAll, T.gl x = none → X.mg x = none
section
variable {X : Cx} {T : Tab} {cl : Clm} {N : List Str} {sc : Scope} {E : XK}
theorem Snd.blk (S : Snd X T cl N sc) (s : Shared) (H : Hp) (scope : Scope) (C : Addr) (cls : List (Str × Addr)) (fp : List Addr) : Snd (X.blk s H scope (compEnvC scope cls C X.env) fp) T cl N (relS scope sc) where
  hN := S.hN
  hsc := by rw [← S.hsc]; rfl
  nd := S.nd
  calm := S.calm
  hcP := S.hcP
  hcw := S.hcw
  hu := S.hu
  gl := fun x gv h => by
    have := S.gl x gv h
    cases gv with
    | val d => exact this
    | fn np => exact this
  bl := S.bl
theorem idx_of {x : Str} {i : Nat} (h : N.idxOf? x = some i) : N[i]? = some x := by
  induction N generalizing i with
  | nil => cases h
  | cons y N ih =>
    rw [List.idxOf?_cons] at h
    split at h
    · rename_i e
      cases h
      have : y = x := by simpa using e
      rw [this]; rfl
    · obtain ⟨j, h1, rfl⟩ := Option.map_eq_some_iff.mp h
      exact ih h1
theorem okName_of {x : Str} (h : okName x = true) : (x == ("__debug__" : Str)) = false ∧ (x == ("__classdict__" : Str)) = false ∧ x ≠ "__name__" := by
  unfold okName at h
  simp only [Bool.and_eq_true, Bool.not_eq_true', decide_eq_true_eq] at h
  exact ⟨h.1.1, h.1.2, h.2⟩
theorem boot_ty {x : Str} {t : String} (h : tyNames.lookup x = some t) : bootBuiltins x = some (.type t) ∧ x ∈ bltAll := by
  have : ∀ p ∈ tyNames, bootBuiltins p.1 = some (.type p.2) ∧ p.1 ∈ bltAll := by decide +kernel
  exact this _ (PySem.mem_of_lookup h)
theorem boot_tc {x : Str} {t : String} (h : tyCalls.lookup x = some t) : bootBuiltins x = some (.type t) ∧ x ∈ bltAll ∧ t ∈ ["int", "tuple", "list"] := by
  have : ∀ p ∈ tyCalls, bootBuiltins p.1 = some (.type p.2) ∧ p.1 ∈ bltAll ∧ p.2 ∈ ["int", "tuple", "list"] := by decide +kernel
  exact this _ (PySem.mem_of_lookup h)
theorem boot_bn {x : Str} {t : String} (h : bltNames.lookup x = some t) : bootBuiltins x = some (.builtin t) ∧ x ∈ bltAll ∧ t ∈ ["len", "abs", "ord", "max", "min", "sum", "isinstance"] := by
  have : ∀ p ∈ bltNames, bootBuiltins p.1 = some (.builtin p.2) ∧ p.1 ∈ bltAll ∧ p.2 ∈ ["len", "abs", "ord", "max", "min", "sum", "isinstance"] := by decide +kernel
  exact this _ (PySem.mem_of_lookup h)
theorem name_ok (S : Snd X T cl N sc) (x : Str) (pos : Pos) : PE X (.Name x pos) (tM X.K cl E (nameE T N sc x)) := by
  unfold nameE
  split
  · rename_i hok
    obtain ⟨h1, h2, h3⟩ := okName_of hok
    split
    · rename_i i hi
      unfold slotOf at hi
      have key : ∀ k, sc.names.lookup x = some k → N.idxOf? x = some i → Vis sc x → PE X (.Name x pos) (tM X.K cl E (varM i)) := fun k _ hi v =>
        m_var (x := x) (pe_var (by rw [S.hN]; exact idx_of hi) (by rw [S.hsc]; exact v) h1 h2)
      split at hi
      · rename_i e; exact key _ e hi (.inl e)
      · rename_i e; exact key _ e hi (.inr (.inl e))
      · rename_i e; exact key _ e hi (.inr (.inr e))
      · cases hi
    · split
      · rename_i hg
        have g : Gl X x := by
          show X.env.scope.names.lookup x = _
          rw [S.hsc]; exact of_decide_eq_true hg
        split
        · rename_i d hd
          obtain ⟨u, v, m1, m2, m3⟩ := S.gl x _ hd
          exact m_c (fun H ι => m3 H ι) (pe_glob g m1 m2 h1)
        · exact m_no
        · rename_i hn
          split
          · rename_i t ht
            obtain ⟨b1, b2⟩ := boot_ty ht
            exact m_c (v := .ty t) (fun H ι => .ty t) (pe_bltn g (S.bl x b2 hn) b1 rfl h3 h1)
          · exact m_no
      · exact m_no
  · exact m_no
theorem const_ok (c : Const) (k : Nat) (pos : Pos) : PE X (.Constant c k pos) (tM X.K cl E (constE c)) := by
  cases c with
  | none => exact m_c (v := .non) (fun _ _ => .non) pe_non
  | bool b => exact m_c (v := .bl b) (fun _ _ => .bl b) pe_bl
  | int i => exact m_c (v := .int i) (fun _ _ => .int i) pe_int
  | str i => exact m_c (v := .str i) (fun _ _ => .str i) pe_str
  | _ => exact m_no
theorem star_eq {e : Expr} {es : List Expr} {env : Env} (h : notStar e = true) : starEach (e :: es) env = (false, eval e env) :: starEach es env := by
  cases e <;> first | rfl | cases h
theorem plain_any {pos : Pos} {env : Env} : ∀ {es : List Expr}, es.all notStar = true → (backTo pos (starEach es env)).any (·.1) = false
  | [], _ => rfl
  | e :: es, h => by
    rw [List.all_cons, Bool.and_eq_true] at h
    rw [star_eq h.1]
    have ih := plain_any (pos := pos) (env := env) h.2
    unfold backTo at ih ⊢
    rw [List.map_cons, List.any_cons, ih]; rfl
theorem plain_all {pos : Pos} {env : Env} : ∀ {es : List Expr}, es.all notStar = true → (backTo pos (starEach es env)).all (fun x => !x.1) = true
  | [], _ => rfl
  | e :: es, h => by
    rw [List.all_cons, Bool.and_eq_true] at h
    rw [star_eq h.1]
    have ih := plain_all (pos := pos) (env := env) h.2
    unfold backTo at ih ⊢
    rw [List.map_cons, List.all_cons, ih]; rfl
theorem args_ok {d : Expr → ME} (hd : ∀ e, PE X e (tM X.K cl E (d e))) : ∀ {es : List Expr}, es.all notStar = true → PA X es (tMA X.K cl E (argsE (es.map d)))
  | [], _ => m_nil
  | e :: es, h => by
    rw [List.all_cons, Bool.and_eq_true] at h
    exact m_cons (hd e) (args_ok hd h.2) (star_eq h.1)
theorem plain_of {es : List Expr} (h : plainArgs es = true) : es.all notStar = true ∧ es.length < 30 := by
  unfold plainArgs at h
  rw [Bool.and_eq_true] at h
  exact ⟨h.1, of_decide_eq_true h.2⟩
theorem set_beh {op : CmpOp} {b : Expr} (h : notSet b = true) : behindInMarks op b = false := by
  cases b <;> first | rfl | cases h
theorem cmp_okE (S : Snd X T cl N sc) {d : Expr → ME} (hd : ∀ e, PE X e (tM X.K cl E (d e))) (a : Expr) (ops : List CmpOp) (es : List Expr) (pos : Pos) : PE X (.Compare a ops es pos) (tM X.K cl E (cmpE d a ops es)) := by
  unfold cmpE
  split
  · split
    · rename_i h; exact m_cmp (comp_ok S.hu _) (hd _) (hd _) (set_beh h)
    · exact m_no
  · split
    · rename_i h; exact m_chain (comp_ok S.hu _) (comp_ok S.hu _) (hd _) (hd _) (hd _) (set_beh h)
    · exact m_no
  · exact m_no
theorem no_test {e : Expr} : PT X e (tMT X.K cl E (testM noM)) := ⟨fun _ _ _ _ _ _ ⟨_, _, _, _, _, ok⟩ => ok.elim⟩
theorem cmp_okT (S : Snd X T cl N sc) {d : Expr → ME} (hd : ∀ e, PE X e (tM X.K cl E (d e))) (a : Expr) (ops : List CmpOp) (es : List Expr) (pos : Pos) : PT X (.Compare a ops es pos) (tMT X.K cl E (testM (cmpE d a ops es))) := by
  unfold cmpE
  split
  · split
    · rename_i h; exact m_cmpT (comp_ok S.hu _) (hd _) (hd _) (set_beh h)
    · exact no_test
  · split
    · rename_i h; exact m_chainT (comp_ok S.hu _) (comp_ok S.hu _) (hd _) (hd _) (hd _) (set_beh h)
    · exact no_test
  · exact no_test
theorem ands_ok {d : Expr → MT} {pos : Pos} (hd : ∀ e, PT X e (tMT X.K cl E (d e))) : ∀ {es : List Expr}, PW X (.BoolOp .And es pos) (tMT X.K cl E (andTs (es.map d)))
  | [] => ⟨fun _ _ _ _ _ _ _ ⟨_, _, _, _, _, ok⟩ => ok.elim⟩
  | [a] => pw_and1 (hd a)
  | a :: b :: r => m_and (hd a) (ands_ok hd (es := b :: r))
theorem ors_ok {d : Expr → MT} {pos : Pos} (hd : ∀ e, PT X e (tMT X.K cl E (d e))) : ∀ {es : List Expr}, PW X (.BoolOp .Or es pos) (tMT X.K cl E (orTs (es.map d)))
  | [] => ⟨fun _ _ _ _ _ _ _ ⟨_, _, _, _, _, ok⟩ => ok.elim⟩
  | [a] => pw_or1 (hd a)
  | a :: b :: r => m_or (hd a) (ors_ok hd (es := b :: r))
theorem andMs_ok {d : Expr → ME} {pos : Pos} (hd : ∀ e, PE X e (tM X.K cl E (d e))) : ∀ {es : List Expr}, PE X (.BoolOp .And es pos) (tM X.K cl E (andMs (es.map d)))
  | [] => m_no
  | [a] => pe_one (hd a)
  | a :: b :: r => m_andV (hd a) (andMs_ok hd (es := b :: r))
theorem orMs_ok {d : Expr → ME} {pos : Pos} (hd : ∀ e, PE X e (tM X.K cl E (d e))) : ∀ {es : List Expr}, PE X (.BoolOp .Or es pos) (tM X.K cl E (orMs (es.map d)))
  | [] => m_no
  | [a] => pe_one (hd a)
  | a :: b :: r => m_orV (hd a) (orMs_ok hd (es := b :: r))
theorem part_ok {d : Expr → ME} (hd : ∀ e, PE X e (tM X.K cl E (d e))) : ∀ o : Option Expr, PO X o (tMO X.K cl E (partE d o))
  | some e => m_part (hd e)
  | none => m_nopart
theorem plainIx {b : Expr} (h : notSlice b = true) : PlainIx b := by
  intro o i
  cases b <;> first | rfl | cases h
theorem fold_eq {iter : Expr} {env : Env} (h : notSet iter = true) : ∀ x, foldedSetIterable iter env x = pure x := by
  intro x
  cases iter <;> first | rfl | cases h
theorem i_no {tg iter : Expr} : PI X tg iter (tMI X.K cl E noI) := ⟨fun _ _ _ _ _ _ ⟨_, _, _, _, _, ok⟩ => ok.elim⟩
theorem iter_ok (S : Snd X T cl N sc) {d : Expr → ME} (hd : ∀ e, PE X e (tM X.K cl E (d e))) (tg iter : Expr) : PI X tg iter (tMI X.K cl E (iterE T sc d iter)) := by
  unfold iterE
  split
  · split
    · rename_i e; subst e
      split
      · rename_i h
        obtain ⟨h1, h2, h3⟩ := h
        have g : Gl X "range" := by
          show X.env.scope.names.lookup _ = _
          rw [S.hsc]; exact of_decide_eq_true h1
        have hm : X.mg "range" = none := S.bl _ (by decide +kernel) (Option.isNone_iff_eq_none.mp h2)
        obtain ⟨h4, _⟩ := plain_of h3
        split
        · simp only [List.all_cons, List.all_nil, Bool.and_true] at h4
          exact i_range1 g hm (args_ok hd (es := [_]) (by simpa using h4)) (star_eq h4)
        · simp only [List.all_cons, List.all_nil, Bool.and_true, Bool.and_eq_true] at h4
          exact i_range2 g hm (args_ok hd (es := [_, _]) (by simpa using h4)) (by rw [star_eq h4.1, star_eq h4.2]; rfl) (star_eq h4.2)
        · simp only [List.all_cons, List.all_nil, Bool.and_true, Bool.and_eq_true] at h4
          exact i_range3 g hm (args_ok hd (es := [_, _, _]) (by simpa using h4)) (star_eq h4.1) (plain_any (by simpa using h4.2))
        · exact i_no
      · exact i_no
    · exact i_seq (hd _)
  · exact i_no
  · exact i_seq (hd _)
theorem iter_set {T : Tab} {sc : Scope} {d : Expr → ME} {iter : Expr} (h : notSet iter = false) : iterE T sc d iter = noI := by
  cases iter <;> first | rfl | cases h
end
end Mir
namespace Mir
open PySem PySem.Spec L2
section
variable {X : Cx} {T : Tab} {cl : Clm} {N : List Str} {sc : Scope} {E : XK}

/-! ### targets -/
def rawG (K : PySem.W.Frag) : Tg → TG
  | .one i => gName i
  | .many is => gTup K is.length (is.foldr (fun i u => gCons (gName i) u) gNil)
  | .bad => fun _ _ _ _ => False
theorem idxs_ok (hN : X.N = N) (nd : X.N.Nodup) {ok : Str → Bool} (hok : ∀ x, ok x = true → Loc X.env.scope x ∧ (X.fn x = true ∨ X.env.scope.names.lookup x = some .local)) : ∀ {es : List Expr} {is : List Nat}, idxs N ok es = some is →
    PGs X es (is.foldr (fun i u => gCons (gName i) u) gNil) ∧ (assignEach es X.env).length = is.length ∧ (assignEach es X.env).findIdx? (·.1) = none
  | [], is, h => by cases h; exact ⟨pgs_nil, rfl, rfl⟩
  | e :: r, is, h => by
    cases e <;> try cases h
    rename_i x pos
    simp only [idxs] at h
    split at h
    · rename_i hx
      split at h
      · rename_i i is' h1 h2
        cases h
        obtain ⟨q1, q2, q3⟩ := idxs_ok hN nd hok h2
        obtain ⟨l1, l2⟩ := hok x hx
        refine ⟨pgs_cons (pg_name nd (by rw [hN]; exact idx_of h1) l1 l2) q1 rfl, ?_, ?_⟩
        · show (assignEach r X.env).length + 1 = _
          rw [q2]; rfl
        · show List.findIdx? (·.1) ((false, assign (.Name x pos) X.env) :: assignEach r X.env) = none
          rw [List.findIdx?_cons, q3]; rfl
      · cases h
    · cases h
theorem tg_raw (hN : X.N = N) (nd : X.N.Nodup) (calm : X.calm = true) {ok : Str → Bool} (hok : ∀ x, ok x = true → Loc X.env.scope x ∧ (X.fn x = true ∨ X.env.scope.names.lookup x = some .local)) (tg : Expr) : PG X tg (rawG X.K (tgOf N ok tg)) := by
  have bad : PG X tg (rawG X.K .bad) := ⟨fun _ _ _ _ _ _ _ _ _ h => h.elim⟩
  cases tg with
  | Name x pos =>
    simp only [tgOf]
    split
    · rename_i hx
      split
      · rename_i i hi
        obtain ⟨l1, l2⟩ := hok x hx
        exact pg_name nd (by rw [hN]; exact idx_of hi) l1 l2
      · exact bad
    · exact bad
  | Tuple es k pos =>
    simp only [tgOf]
    split
    · rename_i is hi
      obtain ⟨q1, q2, q3⟩ := idxs_ok hN nd hok hi
      exact pg_tup calm q1 q2 q3
    · exact bad
  | _ => exact bad
theorem tg_m {tg : Expr} {t : Tg} (h : PG X tg (rawG X.K t)) : PG X tg (tMG X.K cl E (tgG t)) := by
  refine ⟨fun pins s σ H v u Q I r ⟨d, ρ, mh, ι, rd, sr, hr, ok⟩ => h.run pins s σ H v u Q I r ?_⟩
  cases t with
  | one i => exact ok H ι hr .refl _ (sr.set rd i)
  | many is =>
    cases rd with
    | tup s1 q1 =>
      simp only [tgG, tupG] at ok
      split at ok
      · rename_i hl
        exact ⟨_, _, rfl, s1, by rw [← q1.length, hl], pgs_names is _ _ ρ σ hl q1 sr hr fun σ' sr' => ok H ι hr .refl σ' sr'⟩
      · exact ok.elim
    | _ => exact ok.elim
  | bad => exact ok.elim
theorem tg_gw {K : PySem.W.Frag} {vs : List Nat} {t : Tg} (h : tgIn vs t = true) : GW K vs (rawG K t) (tgG t) := by
  cases t with
  | one i => exact gw_name (by simpa [tgIn] using h)
  | many is => exact gw_tup rfl (by simpa [tgIn] using h)
  | bad => cases h
/-! ### comprehensions -/
theorem tests_ok {d : Expr → MT} (hd : ∀ e, PT X e (tMT X.K cl E (d e))) : ∀ es : List Expr, PTs X es (tMT X.K cl E (testsE d es))
  | [] => t_yes
  | [c] => pts_one (hd c)
  | _ :: _ :: _ => ⟨fun _ _ _ _ _ _ ⟨_, _, _, _, _, ok⟩ => ok.elim⟩
/-- what a mirror of expressions promises -/
def DnOk (T : Tab) (cl : Clm) (N : List Str) (d : Dn) : Prop := ∀ (X : Cx) (sc : Scope) (E : XK), Snd X T cl N sc → (∀ e, PE X e (tM X.K cl E ((d sc).1 e))) ∧ ∀ e, PT X e (tMT X.K cl E ((d sc).2 e))
theorem rel_loc {scope sc : Scope} {x : Str} (h : scope.names.lookup x = some .local) : (relS scope sc).names.lookup x = some .local := lookup_relS_keep (fun z => nomatch z) h
theorem blk_tg (S : Snd X T cl N sc) (scope : Scope) (tg : Expr) (s : Shared) (H : Hp) (C : Addr) (cls : List (Str × Addr)) (fp : List Addr) : PG (X.blk s H scope (compEnvC scope cls C X.env) fp) tg (rawG X.K (tgOf N (isLoc scope) tg)) := by
  have S' := S.blk s H scope C cls fp
  refine tg_raw (X := X.blk s H scope (compEnvC scope cls C X.env) fp) S'.hN S'.nd S'.calm (fun x hx => ?_) tg
  have h1 : scope.names.lookup x = some .local := of_decide_eq_true hx
  have h2 : (X.blk s H scope (compEnvC scope cls C X.env) fp).env.scope.names.lookup x = some .local := by
    rw [S'.hsc]; exact rel_loc h1
  exact ⟨.inl h2, .inr h2⟩
theorem comp_okE (S : Snd X T cl N sc) {d : Dn} (hd : DnOk T cl N d) (elt : Expr) (gens : List Comprehension) (scope : Scope) (pos : Pos) : PE X (.ListComp elt gens scope pos) (tM X.K cl E (compE T N d sc elt gens scope)) := by
  unfold compE
  split
  · split
    · rename_i tg iter ifs h
      cases hs : notSet iter with
      | false =>
        rw [iter_set hs]
        exact ⟨fun _ _ _ _ _ _ ⟨_, _, _, _, _, ok⟩ => ok.elim⟩
      | true =>
        refine m_lc S.calm S.nd (iter_ok S (hd X sc E S).1 tg iter) (blkOk_by (by rw [S.hN, S.hsc]; exact h.1)) (tg_gw h.2) (blk_tg S scope tg) (fun s H C cls fp => ?_) (fun s H C cls fp => ?_) (fold_eq hs)
        · exact tests_ok (X := X.blk s H scope (compEnvC scope cls C X.env) fp) (hd _ _ xk0 (S.blk s H scope C cls fp)).2 ifs
        · exact (hd _ _ xk0 (S.blk s H scope C cls fp)).1 elt
    · exact m_no
  · exact m_no
/-! ### dicts -/
theorem pairs_okE {d : Expr → ME} (hd : ∀ e, PE X e (tM X.K cl E (d e))) {pos : Pos} : ∀ {ks : List (Option Expr)} {vs : List Expr} {prs : List (ME × ME)}, pairsE d ks vs = some prs →
    PPs X pos ks vs (prs.map fun p => (tM X.K cl E p.1, tM X.K cl E p.2)) ∧ ks.all (·.isSome) = true ∧ ks.length = vs.length
  | [], [], prs, h => by cases h; exact ⟨pps_nil, rfl, rfl⟩
  | some k :: ks, v :: vs, prs, h => by
    simp only [pairsE] at h
    split at h
    · rename_i r hr
      cases h
      obtain ⟨q1, q2, q3⟩ := pairs_okE hd (pos := pos) hr
      exact ⟨pps_cons (hd k) (hd v) q1, by rw [List.all_cons, q2]; rfl, by rw [List.length_cons, List.length_cons, q3]⟩
    · cases h
  | none :: _, [], _, h => by cases h
  | none :: _, _ :: _, _, h => by cases h
  | some _ :: _, [], _, h => by cases h
  | [], _ :: _, _, h => by cases h
theorem dict_okE (S : Snd X T cl N sc) {d : Expr → ME} (hd : ∀ e, PE X e (tM X.K cl E (d e))) (keys : List (Option Expr)) (values : List Expr) (pos : Pos) : PE X (.Dict keys values pos) (tM X.K cl E (dictE d keys values)) := by
  unfold dictE
  split
  · exact m_dnew
  · rename_i hne
    split
    · rename_i prs hp
      obtain ⟨q1, q2, q3⟩ := pairs_okE hd (pos := pos) hp
      have h0 : keys ≠ [] := fun z => by
        subst z
        cases values with
        | nil => exact hne rfl rfl
        | cons _ _ => cases hp
      split
      · rename_i h15
        split
        · exact m_displ S.hcP S.hcw q1 q2 q3 h0 h15
        · exact m_disp q1 q2 q3 h0 h15
      · exact m_no
    · exact m_no
/-! ### calls -/
theorem base_eq {o : Expr} {m : Str} {env : Env} {w : Sem Value} (h : notSuper o = true) : attributeBase o m env w = w := by
  unfold attributeBase
  cases o with
  | Call f args kws pos =>
    cases f <;> try rfl
    cases args <;> try rfl
    cases kws <;> try rfl
    rename_i id p
    have h' : id ≠ "super" := of_decide_eq_true h
    simp [h']
  | _ => rfl
theorem bm_okE {d : Expr → ME} (hd : ∀ e, PE X e (tM X.K cl E (d e))) {o : Expr} {m : Str} {apos cpos : Pos} {args : List Expr} (h1 : plainArgs args = true) (h2 : notSuper o = true) (h3 : (apos.endLine == cpos.line) = true) :
    PE X (.Call (.Attribute o m apos) args [] cpos) (tM X.K cl E (bmE m (d o) (argsE (args.map d)))) := by
  have key : ∀ T g, bmTab T m = some g → PE X (.Call (.Attribute o m apos) args [] cpos) (tM X.K cl E (bmM T g (d o) (argsE (args.map d)))) := fun T g hg => by
    obtain ⟨p1, p2⟩ := plain_of h1
    cases args with
    | nil => exact m_bm0 (bmTab_ok hg) (hd o) (base_eq h2) h3
    | cons e es =>
      have p1' := p1
      rw [List.all_cons, Bool.and_eq_true] at p1'
      refine m_bm (bmTab_ok hg) (hd o) (args_ok hd p1) (base_eq h2) ?_ h3 (star_eq p1'.1) (plain_any p1'.2)
      rw [plain_all p1]
      simp only [keywordEach, backToKw, List.map_nil, List.all_nil, Bool.true_and, List.length_nil, List.isEmpty_nil, if_true, Nat.add_zero, decide_eq_true_eq]
      exact p2
  refine m_alt fun ρ mh => ?_
  unfold bmE
  split
  · split
    · split
      · rename_i g hg; exact .inr ⟨_, key _ g hg, rfl⟩
      · exact .inl rfl
    · split
      · split
        · rename_i g hg; exact .inr ⟨_, key _ g hg, rfl⟩
        · exact .inl rfl
      · split
        · split
          · rename_i g hg; exact .inr ⟨_, key _ g hg, rfl⟩
          · exact .inl rfl
        · exact .inl rfl
  · exact .inl rfl
theorem pass_0 {X : Cx} {E : XK} : Passes CX0 X E := fun _ _ _ _ _ _ _ h => h.elim
theorem call_okE (S : Snd X T cl N sc) {d : Expr → ME} (hd : ∀ e, PE X e (tM X.K cl E (d e))) (f : Expr) (args : List Expr) (cpos : Pos) : PE X (.Call f args [] cpos) (tM X.K cl E (callE T N sc d f args cpos)) := by
  unfold callE
  split
  · split
    · rename_i x p h
      obtain ⟨h1, h2, h3⟩ := h
      obtain ⟨n1, n2, n3⟩ := okName_of h1
      obtain ⟨p1, p2⟩ := plain_of h3
      have g : Gl X x := by
        show X.env.scope.names.lookup _ = _
        rw [S.hsc]; exact of_decide_eq_true h2
      split
      · rename_i np hnp
        obtain ⟨k, fa, fd, ps, m1, m2, m3, m4, m5⟩ := S.gl x _ hnp
        split
        · split
          · exact m_call0 m4 m5 g m1 m2 m3 pass_0 n1
          · exact m_no
        · rename_i e es
          have p1' := p1
          rw [List.all_cons, Bool.and_eq_true] at p1'
          exact m_call m4 m5 g m1 m2 m3 pass_0 (args_ok hd p1) n1 (star_eq p1'.1) (plain_any p1'.2)
      · exact m_no
      · rename_i hn
        split
        · exact m_no
        · rename_i e es
          have p1' := p1
          rw [List.all_cons, Bool.and_eq_true] at p1'
          split
          · rename_i s hs
            obtain ⟨b1, b2, b3⟩ := boot_bn hs
            exact m_callB (blt_ok S.calm s b3) g (S.bl x b2 hn) b1 (args_ok hd p1) n3 n1 (star_eq p1'.1) (plain_any p1'.2)
          · split
            · rename_i s hs
              obtain ⟨b1, b2, b3⟩ := boot_tc hs
              exact m_callTy (tyc_ok s b3) g (S.bl x b2 hn) b1 (args_ok hd p1) n3 n1 (star_eq p1'.1) (plain_any p1'.2)
            · exact m_no
    · exact m_no
  · split
    · rename_i o m apos h
      exact bm_okE hd h.1 h.2.1 h.2.2
    · exact m_no
  · exact m_no
/-! ### the step, and the whole -/
theorem estep_ok (S : Snd X T cl N sc) {d : Dn} (hd : DnOk T cl N d) (e : Expr) : PE X e (tM X.K cl E (estepD T N d sc e)) := by
  have h1 := (hd X sc E S).1
  have h2 := (hd X sc E S).2
  unfold estepD
  split
  · exact const_ok _ _ _
  · exact name_ok S _ _
  · exact m_bin (bin_ok _) (h1 _) (h1 _)
  · exact m_un neg_ok (h1 _)
  · exact m_notV (h1 _)
  · exact andMs_ok h1
  · exact orMs_ok h1
  · exact cmp_okE S h1 _ _ _ _
  · exact m_if (h2 _) (h1 _) (h1 _)
  · split
    · rename_i h; exact m_tup (args_ok h1 (plain_of h).1)
    · exact m_no
  · split
    · rename_i h; exact m_lst (args_ok h1 h)
    · exact m_no
  · exact m_slice (h1 _) (part_ok h1 _) (part_ok h1 _)
  · split
    · rename_i h; exact m_ix (ix_ok S.hcP S.hcw (by have := S.hu; omega)) (h1 _) (h1 _) (plainIx h)
    · exact m_no
  · exact comp_okE S hd _ _ _ _
  · exact dict_okE S h1 _ _ _
  · exact call_okE S h1 _ _ _
  · exact m_no
theorem tstep_ok (S : Snd X T cl N sc) {d : Dn} (hd : DnOk T cl N d) (e : Expr) : PT X e (tMT X.K cl E (tstepD d sc e)) := by
  have h1 := (hd X sc E S).1
  have h2 := (hd X sc E S).2
  unfold tstepD
  split
  · exact (ands_ok h2).pt
  · exact (ors_ok h2).pt
  · exact m_notT (h2 _)
  · exact cmp_okT S h1 _ _ _ _
  · exact m_noT
  · rename_i g1 g2 g3 g4 g5
    refine m_tru (h1 _) fun whole => ?_
    cases e with
    | BoolOp op es pos => cases op with
      | And => exact (g1 _ _ rfl).elim
      | Or => exact (g2 _ _ rfl).elim
    | UnaryOp op a pos => cases op with
      | Not => exact (g3 _ _ rfl).elim
      | _ => rfl
    | Compare a ops es pos => exact (g4 _ _ _ _ rfl).elim
    | IfExp a b c pos => exact (g5 _ _ _ _ rfl).elim
    | _ => rfl
end
theorem den_ok {T : Tab} {cl : Clm} {N : List Str} : ∀ n, DnOk T cl N (den T N n)
  | 0 => fun X sc E S => ⟨fun _ => m_no, fun _ => m_noT⟩
  | n + 1 => fun X sc E S => ⟨fun e => estep_ok S (den_ok n) e, fun e => tstep_ok S (den_ok n) e⟩
end Mir
namespace Mir
open PySem PySem.Spec L2

/-! ### statements of a text -/
def isLC (sc : Scope) (x : Str) : Bool := decide (sc.names.lookup x = some .local) || decide (sc.names.lookup x = some .cell)
def notComp : Expr → Bool
  | .ListComp _ _ _ _ => false
  | .SetComp _ _ _ _ => false
  | .DictComp _ _ _ _ _ => false
  | _ => true
def notTup : Expr → Bool
  | .Tuple _ _ _ => false
  | .List _ _ => false
  | _ => true
def blkS (r : Stmt → MS) : List Stmt → MS
  | [] => nxS
  | s :: ss => seqS (r s) (blkS r ss)
def asgE (T : Tab) (N : List Str) (sc : Scope) (d : Dn) (tg e : Expr) : MS := match tg with
  | .Name x _ => if isLC sc x = true then (match N.idxOf? x with
      | some i => (match e with
        | .ListComp elt gens scope _ => setS i (compE T N d sc elt gens scope)
        | _ => if notComp e = true then setS i ((d sc).1 e) else noS)
      | none => noS) else noS
  | .Subscript o i _ => if notSlice i = true ∧ notComp e = true then asgS ((d sc).1 e) (subG ((d sc).1 o) ((d sc).1 i)) else noS
  | .Tuple es k pos => if notTup e = true ∧ notComp e = true then asgS ((d sc).1 e) (tgG (tgOf N (isLC sc) (.Tuple es k pos))) else noS
  | _ => noS
def sstepD (T : Tab) (N : List Str) (d : Dn) (sc : Scope) (r : Stmt → MS) (st : Stmt) : MS := match st with
  | .Pass _ => nxS
  | .Break _ => bkS
  | .Continue _ => ctS
  | .Expr (.Constant (.str _) _ _) _ => nxS
  | .Expr e _ => if notComp e = true then dropS ((d sc).1 e) else noS
  | .Return (some e) _ => retS ((d sc).1 e)
  | .Return none _ => retN
  | .If c a b _ => ifS ((d sc).2 c) (blkS r a) (blkS r b)
  | .While c b [] _ => whileS ((d sc).2 c) (blkS r b)
  | .For tg iter b [] _ => if notSet iter = true then forS (iterE T sc (d sc).1 iter) (tgG (tgOf N (isLC sc) tg)) (blkS r b) else noS
  | .Assign [tg] e _ => asgE T N sc d tg e
  | .AugAssign (.Name x _) op e _ => if isLC sc x = true then (match N.idxOf? x with | some i => augS i (opIn op) ((d sc).1 e) | none => noS) else noS
  | _ => noS
def denS (T : Tab) (N : List Str) (d : Dn) (sc : Scope) : Nat → Stmt → MS
  | 0 => fun _ => noS
  | n + 1 => sstepD T N d sc (denS T N d sc n)
/-- how deep a text's expressions and blocks are followed -/
def deepE : Nat := 40
def deepS : Nat := 20
def bodyS (T : Tab) (N : List Str) (sc : Scope) (body : List Stmt) : MS := blkS (denS T N (den T N deepE) sc deepS) body
def startD (N : List Str) (ds : List D) : Ro := ds.map some ++ List.replicate (N.length - ds.length) none
def resF (r : Res (Fl × Ro)) : Res D := match r with
  | .ok (.rt d, _) h => .ok d h
  | .ok (.nx, _) h => .ok .non h
  | _ => .no
def runB (m : MS) (N : List Str) (ds : List D) (h : MH) : Res D := resF (m (startD N ds) h)
structure SndF (X : Cx) (T : Tab) (cl : Clm) (N : List Str) (sc : Scope) : Prop extends Snd X T cl N sc where
  fn : ∀ x, X.fn x = true
  kind : sc.kind = .function
  own : PassesOwn (model X.prog X.w) X.A X.env X.xe
section
variable {X : Cx} {T : Tab} {cl : Clm} {N : List Str} {sc : Scope} {E : XK}
theorem lc_of (S : SndF X T cl N sc) {x : Str} (h : isLC sc x = true) : Loc X.env.scope x ∧ (X.fn x = true ∨ X.env.scope.names.lookup x = some .local) := by
  refine ⟨?_, .inl (S.fn x)⟩
  rw [S.hsc]
  unfold isLC at h
  rw [Bool.or_eq_true] at h
  exact h.elim (fun z => .inl (of_decide_eq_true z)) fun z => .inr (of_decide_eq_true z)
theorem sw_false {e : Expr} {t : Option Expr} {l : Nat} {env : Env} (h : notComp e = true) : swapsWith e t l env = pure false := by
  cases e <;> first | rfl | cases h
theorem sw_name {elt : Expr} {gs : List Comprehension} {scope : Scope} {pos py : Pos} {y : Str} {l : Nat} {env : Env} (hk : env.scope.kind = .function) :
    swapsWith (.ListComp elt gs scope pos) (some (.Name y py)) l env = pure (decide (env.scope.names.lookup y = some .local) && (py.line == pos.line) && !(scope.names.any fun (n, k) => n == y && (k == .local || k == .cell))) := by
  have hb : env.blockKind = .function := by unfold Env.blockKind; rw [hk]; rfl
  have hd : (env.kindOf y == some .local) = decide (env.scope.names.lookup y = some .local) := by
    show (env.scope.names.lookup y == some .local) = _
    rw [Bool.eq_iff_iff, beq_iff_eq, decide_eq_true_eq]
  unfold swapsWith
  simp only [hb, hd, Expr.pos]
  rfl
theorem asg_ok (S : SndF X T cl N sc) {d : Dn} (hd : DnOk T cl N d) (tg e : Expr) (pos : Pos) : PS X (.Assign [tg] e pos) (tMS X.K cl E (asgE T N sc d tg e)) := by
  have h1 := (hd X sc E S.toSnd).1
  unfold asgE
  split
  · rename_i x px
    split
    · rename_i hx
      obtain ⟨l1, l2⟩ := lc_of S hx
      split
      · rename_i i hi
        have hi' : X.N[i]? = some x := by rw [S.hN]; exact idx_of hi
        split
        · rename_i elt gens scope lpos
          have hsw := sw_name (elt := elt) (gs := gens) (scope := scope) (pos := lpos) (py := px) (y := x) (l := pos.line) (env := X.env) (by rw [S.hsc]; exact S.kind)
          cases hb : (decide (X.env.scope.names.lookup x = some .local) && (px.line == lpos.line) && !(scope.names.any fun (n, k) => n == x && (k == .local || k == .cell))) with
          | false =>
            rw [hb] at hsw
            exact s_set S.nd hi' l1 (comp_okE S.toSnd hd elt gens scope lpos) hsw l2
          | true =>
            rw [hb] at hsw
            unfold compE
            split
            · split
              · rename_i tg iter ifs h
                cases hs : notSet iter with
                | false =>
                  rw [iter_set hs]
                  exact ⟨fun _ _ _ _ _ _ ⟨_, _, _, _, _, ok⟩ => ok.elim⟩
                | true =>
                  simp only [Bool.and_eq_true, decide_eq_true_eq] at hb
                  refine s_setLc S.calm S.nd hi' hb.1.1 hsw (iter_ok S.toSnd (hd X sc E S.toSnd).1 tg iter) (blkOk_by (by rw [S.hN, S.hsc]; exact h.1)) (tg_gw h.2) (blk_tg S.toSnd scope tg) (fun s H C cls fp => ?_) (fun s H C cls fp => ?_) (fold_eq hs)
                  · exact tests_ok (X := X.blk s H scope (compEnvC scope cls C X.env) fp) (hd _ _ xk0 (S.toSnd.blk s H scope C cls fp)).2 ifs
                  · exact (hd _ _ xk0 (S.toSnd.blk s H scope C cls fp)).1 elt
              · exact ⟨fun _ _ _ _ _ _ ⟨_, _, _, _, _, ok⟩ => ok.elim⟩
            · exact ⟨fun _ _ _ _ _ _ ⟨_, _, _, _, _, ok⟩ => ok.elim⟩
        · split
          · rename_i hc; exact s_set S.nd hi' l1 (h1 e) (sw_false hc) l2
          · exact s_no
      · exact s_no
    · exact s_no
  · rename_i o i pos'
    split
    · rename_i h
      refine s_asg (h1 e) (g_sub S.hcP S.hcw (by have := S.hu; omega) (h1 o) (h1 i) fun v => ?_) (by rw [swapsWithSole]; exact sw_false h.2) rfl rfl
      have hs := h.1
      cases i <;> first | rfl | cases hs
    · exact s_no
  · rename_i es k pos'
    split
    · rename_i h
      refine s_asg (h1 e) (tg_m (tg_raw S.hN S.nd S.calm (fun x hx => lc_of S hx) _)) (by rw [swapsWithSole]; exact sw_false h.2) ?_ rfl
      have hs := h.1
      cases e <;> first | rfl | cases hs
    · exact s_no
  · exact s_no
theorem blk_ok {r : Stmt → MS} (hr : ∀ st, PS X st (tMS X.K cl E (r st))) : ∀ ss : List Stmt, PSs X ss (tMS X.K cl E (blkS r ss))
  | [] => s_nil
  | s :: ss => s_cons (hr s) (blk_ok hr ss)
theorem sstep_ok (S : SndF X T cl N sc) {d : Dn} (hd : DnOk T cl N d) {r : Stmt → MS} (hr : ∀ st, PS X st (tMS X.K cl E (r st))) (st : Stmt) : PS X st (tMS X.K cl E (sstepD T N d sc r st)) := by
  have h1 := (hd X sc E S.toSnd).1
  have h2 := (hd X sc E S.toSnd).2
  unfold sstepD
  split
  · exact s_pass
  · exact s_break
  · exact s_continue
  · exact s_doc
  · split
    · rename_i h; exact s_expr (h1 _) (sw_false h)
    · exact s_no
  · exact s_ret (h1 _)
  · exact s_retN
  · exact s_if (h2 _) (blk_ok hr _) (blk_ok hr _)
  · exact s_while S.own (h2 _) (blk_ok hr _)
  · split
    · rename_i h; exact s_for S.own S.calm (iter_ok S.toSnd h1 _ _) (tg_m (tg_raw S.hN S.nd S.calm (fun x hx => lc_of S hx) _)) (blk_ok hr _) (fold_eq h)
    · exact s_no
  · exact asg_ok S hd _ _ _
  · split
    · rename_i hx
      obtain ⟨l1, l2⟩ := lc_of S hx
      split
      · rename_i i hi
        exact s_aug S.nd (by rw [S.hN]; exact idx_of hi) l1 (h1 _) l2
      · exact s_no
    · exact s_no
  · exact s_no
theorem denS_ok (S : SndF X T cl N sc) {d : Dn} (hd : DnOk T cl N d) : ∀ n st, PS X st (tMS X.K cl E (denS T N d sc n st))
  | 0, _ => s_no
  | n + 1, st => sstep_ok S hd (denS_ok S hd n) st
theorem body_ok (S : SndF X T cl N sc) (body : List Stmt) : PSs X body (tMS X.K cl E (bodyS T N sc body)) := blk_ok (denS_ok S (den_ok deepE) deepS) body
end
/-! ### a def -/
theorem sr_start {K : PySem.W.Frag} {H : Hp} {ι : List Addr} {N : List Str} {ds : List D} {vs : List V} (r : Reps K H ι ds vs) : SR K H ι (startD N ds) (L2.start N vs) := by
  refine ⟨by unfold startD L2.start; simp [r.length], fun i d h => ?_⟩
  unfold startD at h
  by_cases hi : i < ds.length
  · rw [List.getElem?_append_left (by simpa using hi), List.getElem?_map] at h
    cases e : ds[i]? with
    | none => rw [e] at h; cases h
    | some d' =>
      rw [e] at h
      cases h
      obtain ⟨v, hv, rv⟩ := r.get e
      refine ⟨v, ?_, rv⟩
      unfold L2.start
      rw [List.getElem?_append_left (by simpa [← r.length] using hi), List.getElem?_map, hv]; rfl
  · rw [List.getElem?_append_right (by simpa using hi), List.getElem?_replicate] at h
    split at h <;> cases h
theorem fn_ok {P : Program} {w : World} {K : PySem.W.Frag} {mg : Str → Option Value} {base : Heap} {x qual : Str} {st : Stmt} {f : Addr} {fd : FuncData} {N ps : List Str} {k np : Nat} {T : Tab} {cl : Clm} (F : Fun K x qual st f fd) (SC : FnScope N ps (defScope st)) (hnp : ps.length = np)
    (hX : ∀ X : Cx, X.prog = P → X.w = w → X.K = K → X.mg = mg → X.base = base → Room k X.A → X.N = N → X.calm = true → Snd X T cl N X.env.scope) :
    FnOk P w K mg base CX0 (k + 1) f fd ps (spM K cl np (runB (bodyS T N (defScope st) (defBody st)) N)) := by
  refine F.ok SC (fun vs H Q E h => by rw [h.1, hnp]) fun cdv A outer s H vs Q E hr h => ?_
  obtain ⟨hl, ds, mh, ι, rs, hh, ok⟩ := h
  have S := hX (cxOf CX0 P w K mg base N qual (defScope st) f cdv A outer s H E).nox rfl rfl rfl rfl rfl hr rfl rfl
  have SF : SndF (cxOf CX0 P w K mg base N qual (defScope st) f cdv A outer s H E).nox T cl N (defScope st) := { S with fn := fun _ => rfl, kind := SC.kind, own := PassesOwn.never }
  refine ⟨_, body_ok (E := xk0) SF (defBody st), startD N ds, mh, ι, sr_start rs, hh, ?_⟩
  unfold runB at ok
  show okR K cl xk0 ι H (bodyS T N (defScope st) (defBody st) (startD N ds) mh) _
  cases hb : bodyS T N (defScope st) (defBody st) (startD N ds) mh with
  | no => rw [hb] at ok; exact ok.elim
  | ex c fs h' => rw [hb] at ok; exact ok.elim
  | ok r h' =>
    rw [hb] at ok
    obtain ⟨fl, ρ'⟩ := r
    cases fl with
    | nx => exact fun H' ι' hr' e' σ' sr' => ok H' ι' hr' e' _ .non
    | rt d => exact fun H' ι' hr' e' σ' sr' v rv => ok H' ι' hr' e' v rv
    | bk => exact ok.elim
    | ct => exact ok.elim
/-! ### a table of defs -/
structure Df where
  name : Str
  st : Stmt
  N : List Str
  np : Nat
def runsOf (gl : Str → Option GV) (defs : List Df) : Nat → Str → List D → MH → Res D
  | 0 => fun _ _ _ => .no
  | n + 1 => fun x => match defs.find? fun d => decide (d.name = x) with
    | some d => runB (bodyS ⟨gl, runsOf gl defs n⟩ d.N (defScope d.st) (defBody d.st)) d.N
    | none => fun _ _ => .no
def scC (N : List Str) (np : Nat) (sc : Scope) : Bool :=
  (match sc.kind with | .function => true | _ => false) && !sc.isCoroutine && !sc.isGenerator && decide N.Nodup && decide (np ≤ N.length) &&
    ((N.take np).all fun x => isLC sc x) && (sc.names.all fun y => match y.2 with | .free => false | _ => true)
theorem sc_of {N : List Str} {np : Nat} {sc : Scope} (h : scC N np sc = true) : FnScope N (N.take np) sc ∧ (N.take np).length = np := by
  unfold scC at h
  simp only [Bool.and_eq_true, Bool.not_eq_true', decide_eq_true_eq, List.all_eq_true] at h
  obtain ⟨⟨⟨⟨⟨⟨h1, h2⟩, h3⟩, h4⟩, h5⟩, h6⟩, h7⟩ := h
  have hl : (N.take np).length = np := by rw [List.length_take]; omega
  refine ⟨⟨?_, h2, h3, h4, by rw [hl], fun x hx => ?_, fun y hy z => ?_⟩, hl⟩
  · split at h1
    · assumption
    · cases h1
  · have := h6 x hx
    unfold isLC at this
    rw [Bool.or_eq_true] at this
    exact this.elim (fun z => .inl (of_decide_eq_true z)) fun z => .inr (of_decide_eq_true z)
  · have := h7 y hy
    rw [z] at this
    cases this
/-- what the top has made of a def -/
structure DfOk (K : PySem.W.Frag) (mg : Str → Option Value) (d : Df) : Prop where
  ex : ∃ f fd, mg d.name = some (.ref f) ∧ Fun K d.name d.name d.st f fd ∧ ∀ us : List Value, us.length = d.np → bindArgs fd ⟨us, []⟩ = pure ((d.N.take d.np).zip us)
  sc : scC d.N d.np (defScope d.st) = true
/-- what a name of the module is -/
def VOk (K : PySem.W.Frag) (mg : Str → Option Value) (x : Str) (d : D) : Prop := ∃ u v, mg x = some u ∧ RelV v u ∧ ∀ H ι, Rep K H ι d v
structure TabOk (K : PySem.W.Frag) (mg : Str → Option Value) (gl : Str → Option GV) (defs : List Df) : Prop where
  dfs : ∀ d ∈ defs, DfOk K mg d
  val : ∀ x d, gl x = some (.val d) → VOk K mg x d
  fn : ∀ x np, gl x = some (.fn np) → ∃ d ∈ defs, d.name = x ∧ d.np = np ∧ (defs.find? fun e => decide (e.name = x)) = some d
  bl : ∀ x ∈ bltAll, gl x = none → mg x = none
theorem runs_ok {P : Program} {w : World} {K : PySem.W.Frag} {mg : Str → Option Value} {base : Heap} {gl : Str → Option GV} {defs : List Df} {cl : Clm} (O : TabOk K mg gl defs) (hcP : cl.P = P) (hcw : cl.w = w) :
    ∀ (n : Nat) (d : Df), d ∈ defs → (defs.find? fun e => decide (e.name = d.name)) = some d → ∃ f fd, mg d.name = some (.ref f) ∧ PySem.W.keepIn K (.ref f) = true ∧ (∀ us : List Value, us.length = d.np → bindArgs fd ⟨us, []⟩ = pure ((d.N.take d.np).zip us)) ∧ Fun K d.name d.name d.st f fd ∧ FnOk P w K mg base CX0 n f fd (d.N.take d.np) (spM K cl d.np (runsOf gl defs n d.name))
  | 0, d, hd, hf => by
    obtain ⟨f, fd, m1, m2, m3⟩ := (O.dfs d hd).ex
    obtain ⟨s1, s2⟩ := sc_of (O.dfs d hd).sc
    refine ⟨f, fd, m1, m2.kp, m3, m2, fun vs H Q E h => by rw [h.1, s2], fun A outer s H args us vs Q E _ _ _ _ h => ?_⟩
    obtain ⟨_, _, _, _, _, _, ok⟩ := h
    exact ok.elim
  | n + 1, d, hd, hf => by
    obtain ⟨f, fd, m1, m2, m3⟩ := (O.dfs d hd).ex
    obtain ⟨s1, s2⟩ := sc_of (O.dfs d hd).sc
    refine ⟨f, fd, m1, m2.kp, m3, m2, ?_⟩
    have e : runsOf gl defs (n + 1) d.name = runB (bodyS ⟨gl, runsOf gl defs n⟩ d.N (defScope d.st) (defBody d.st)) d.N := by
      funext ds h
      simp only [runsOf, hf]
    rw [e]
    refine fn_ok m2 s1 s2 fun X e1 e2 e3 e4 e5 hr e6 e7 => ⟨e6, rfl, by rw [e6]; exact s1.nd, e7, hcP.trans e1.symm, hcw.trans e2.symm, hr.units, fun x gv hg => ?_, fun x hx hn => by rw [e4]; exact O.bl x hx hn⟩
    cases gv with
    | val v =>
      obtain ⟨u, v', q1, q2, q3⟩ := O.val x v hg
      exact ⟨u, v', by rw [e4]; exact q1, q2, fun H ι => by rw [e3]; exact q3 H ι⟩
    | fn np =>
      obtain ⟨d', hd', rfl, rfl, hf'⟩ := O.fn x np hg
      obtain ⟨f', fd', q1, q2, q3, _, q4⟩ := runs_ok (base := base) O hcP hcw n d' hd' hf'
      refine ⟨n, f', fd', _, by rw [e4]; exact q1, by rw [e3]; exact q2, .all fun us hl => q3 us (by rw [hl, (sc_of (O.dfs d' hd').sc).2]), ?_, hr⟩
      rw [e1, e2, e3, e4, e5]
      exact q4
end Mir
namespace Mir
open PySem PySem.Spec L2

/-! ### the end of a law -/
theorem df_mk {K : PySem.W.Frag} {h : Heap} {mg : Str → Option Value} (X : K.In h) (G : h.Ns mainGlobals mg) (d : Df) {f : Addr} {oc : Value} {od an : Option Addr} {osl : Array (Option Value)} {kV doc pm cdv ct : Value}
    (a : PySem.W.nsIn K mainGlobals d.name = some (some (.ref f))) (l : K.lookup f = some ⟨oc, od, .func (PySem.W.fnOf d.name d.name (defArgs d.st) (defBody d.st) (defScope d.st) .none kV doc pm an cdv ct), osl⟩)
    (c : PySem.W.codeIn K cdv d.name = true) (k : PySem.W.keepIn K (.ref f) = true) (sc : scC d.N d.np (defScope d.st) = true)
    (b : ∀ (kV doc pm : Value) (an : Option Addr) (cdv ct : Value) (us : List Value), us.length = d.np → bindArgs (PySem.W.fnOf d.name d.name (defArgs d.st) (defBody d.st) (defScope d.st) .none kV doc pm an cdv ct) ⟨us, []⟩ = pure ((d.N.take d.np).zip us)) : DfOk K mg d :=
  ⟨⟨f, _, PySem.W.mg_of X G a, fun_mk l c k, b kV doc pm an cdv ct⟩, sc⟩
theorem v_int {K : PySem.W.Frag} {h : Heap} {mg : Str → Option Value} (X : K.In h) (G : h.Ns mainGlobals mg) {x : Str} {i : Int} {t : Tok} (a : PySem.W.nsIn K mainGlobals x = some (some (.int i t))) : VOk K mg x (.int i) :=
  ⟨_, .int i, PySem.W.mg_of X G a, ⟨t, rfl⟩, fun _ _ => .int i⟩
theorem v_str {K : PySem.W.Frag} {h : Heap} {mg : Str → Option Value} (X : K.In h) (G : h.Ns mainGlobals mg) {x : Str} {i : Str} {t : Tok} (a : PySem.W.nsIn K mainGlobals x = some (some (.str i t))) : VOk K mg x (.str i) :=
  ⟨_, .str i, PySem.W.mg_of X G a, ⟨t, rfl⟩, fun _ _ => .str i⟩
mutual
/-- a value of the written part -/
inductive WV (K : PySem.W.Frag) : D → Value → Prop
  | non : WV K .non .none
  | bl (b : Bool) : WV K (.bl b) (.bool b)
  | int (i : Int) (t : Tok) : WV K (.int i) (.int i t)
  | str (x : Str) (t : Tok) : WV K (.str x) (.str x t)
  | tup {a : Addr} {dd : Option Addr} {its : Array Value} {n : Nat} {sl : Array (Option Value)} {ds : List D} (l : K.lookup a = some ⟨.type "tuple", dd, .seq its n, sl⟩) (z : its.size ≤ sizeLine) (q : WVs K ds its.toList) : WV K (.tup ds) (.ref a)
inductive WVs (K : PySem.W.Frag) : List D → List Value → Prop
  | nil : WVs K [] []
  | cons {d : D} {u : Value} {ds : List D} {us : List Value} : WV K d u → WVs K ds us → WVs K (d :: ds) (u :: us)
end
mutual
theorem WV.rep {K : PySem.W.Frag} : ∀ {d : D} {u : Value}, WV K d u → ∃ v, RelV v u ∧ ∀ H ι, Rep K H ι d v
  | _, _, .non => ⟨.non, rfl, fun _ _ => .non⟩
  | _, _, .bl b => ⟨.bl b, rfl, fun _ _ => .bl b⟩
  | _, _, .int i t => ⟨.int i, ⟨t, rfl⟩, fun _ _ => .int i⟩
  | _, _, .str x t => ⟨.str x, ⟨t, rfl⟩, fun _ _ => .str x⟩
  | _, _, .tup (a := a) l z q =>
    let ⟨vs, h1, h2⟩ := WVs.rep q
    ⟨.ref a, rfl, fun H ι => .tup (xs := vs) (.inr ⟨_, _, _, l, rfl, rfl, z, h1⟩) (h2 H ι)⟩
theorem WVs.rep {K : PySem.W.Frag} : ∀ {ds : List D} {us : List Value}, WVs K ds us → ∃ vs, Vals vs us ∧ ∀ H ι, Reps K H ι ds vs
  | _, _, .nil => ⟨[], .nil, fun _ _ => .nil⟩
  | _, _, .cons h t =>
    let ⟨v, h1, h2⟩ := WV.rep h
    let ⟨vs, h3, h4⟩ := WVs.rep t
    ⟨v :: vs, .cons h1 h3, fun H ι => .cons (h2 H ι) (h4 H ι)⟩
end
theorem v_w {K : PySem.W.Frag} {h : Heap} {mg : Str → Option Value} (X : K.In h) (G : h.Ns mainGlobals mg) {x : Str} {d : D} {u : Value} (a : PySem.W.nsIn K mainGlobals x = some (some u)) (q : WV K d u) : VOk K mg x d :=
  let ⟨v, r, m⟩ := q.rep
  ⟨u, v, PySem.W.mg_of X G a, r, m⟩
def glOf (l : List (Str × GV)) (x : Str) : Option GV := l.lookup x
theorem tab_mk {K : PySem.W.Frag} {mg : Str → Option Value} {l : List (Str × GV)} {defs : List Df} (h1 : ∀ d ∈ defs, DfOk K mg d) (h2 : ∀ p ∈ l, match p.2 with | .val d => VOk K mg p.1 d | .fn np => (defs.find? fun e => decide (e.name = p.1)).map (·.np) = some np)
    (h3 : ∀ x ∈ bltAll, l.lookup x = none → mg x = none) : TabOk K mg (glOf l) defs where
  dfs := h1
  val := fun x d h => h2 (x, .val d) (PySem.mem_of_lookup h)
  fn := fun x np h => by
    have := h2 (x, .fn np) (PySem.mem_of_lookup h)
    obtain ⟨d, e1, e2⟩ := Option.map_eq_some_iff.mp this
    have e3 := List.find?_some e1
    exact ⟨d, List.mem_of_find?_eq_some e1, by simpa using e3, e2, e1⟩
  bl := h3
theorem walk_m {l : PySem.W.OpenLaw} {q : Program} {loose : List Str} {XP : (Str → Option Value) → Heap → Prop} {YP : World → Heap → Prop} {d : DefRec} {K : Params → PySem.W.Frag} (n : Nat) (hn : l.most = some 63) (hdf : d.params.defaults = [])
    (hr : Room n callerA) (gl : List (Str × GV)) (defs : List Df) (df : Df) (hdn : d.name = df.name) (hin : df ∈ defs) (hfind : (defs.find? fun e => decide (e.name = df.name)) = some df) (hnp : df.np = 1) (x : Str) (hx : df.N.take 1 = [x])
    (hY : ∀ (w : World) (h : Heap), YP w h → (K w.params).In h)
    (F : ∀ (w : World) (mg : Str → Option Value) (h : Heap), (K w.params).In h → h.Ns mainGlobals mg → TabOk (K w.params) mg (glOf gl) defs)
    (main : ∀ ns : List Int, ns.length ≤ 63 → ∃ h', runsOf (glOf gl) defs n df.name [.wl (ns.map .int)] [] = .ok (.bl true) h') :
    PySem.W.WalkO q loose XP YP l.row.toRowW d [] (fun f vs => PySem.call f vs) := by
  refine L2.walk_of (n := 63) (k := n) (x := x) (CX := fun _ => CX0) (sp := fun w => spM (K w.params) ⟨fun _ => none, l.prog, w⟩ 1 (runsOf (glOf gl) defs n df.name)) hn (by decide) hdf hr hY (fun w mg fa h KX G hmg => ?_) (fun w H a ns hl hO hS => ?_) fun _ _ _ _ _ z => z
  · have O := F w mg h KX G
    obtain ⟨f, fd, m1, m2⟩ := (O.dfs df hin).ex
    rw [hdn] at hmg
    obtain ⟨f', fd', p1, p2, p3, p4, p5⟩ := runs_ok (P := l.prog) (w := w) (base := h) (cl := ⟨fun _ => none, l.prog, w⟩) O rfl rfl n df hin hfind
    have ef : f' = fa := by rw [p1] at hmg; exact Value.ref.inj (Option.some.inj hmg)
    subst ef
    refine ⟨fd', fun s u => ?_, fun base KB GB => ?_⟩
    · have := p3 [u] (by rw [hnp]; rfl)
      rw [hnp, hx] at this
      exact .of_eq this
    · have O' := F w mg base KB GB
      obtain ⟨f2, fd2, r1, r2, r3, r4, r5⟩ := runs_ok (P := l.prog) (w := w) (base := base) (cl := ⟨fun _ => none, l.prog, w⟩) O' rfl rfl n df hin hfind
      have ef : f2 = f' := by rw [r1] at p1; exact Value.ref.inj (Option.some.inj p1)
      subst ef
      have efd : fd2 = fd' := by
        obtain ⟨oc, od, kV, doc, pm, an, cdv, ct, osl, e1, lk, _⟩ := p4.ex
        obtain ⟨oc', od', kV', doc', pm', an', cdv', ct', osl', e1', lk', _⟩ := r4.ex
        rw [lk] at lk'
        cases lk'
        rfl
      subst efd
      rw [hnp, hx] at r5
      exact r5
  · refine ⟨rfl, [.wl (ns.map .int)], [], [], .cons (.wl ?_ (reps_ints ns)) .nil, ⟨rfl, List.nodup_nil, fun n a o h => by cases h⟩, ?_⟩
    · rcases hS with (h | ⟨o, h⟩) | h
      · rcases hO a with z | ⟨o, xs, z⟩
        · rw [z] at h; cases h
        · rw [z] at h; cases h
      · exact .inl ⟨o, h⟩
      · exact .inr h
    · obtain ⟨h', e⟩ := main ns hl
      rw [e]
      intro H' ι' _ _ v rv
      cases rv
      rfl
where
  reps_ints {K : PySem.W.Frag} {H : Hp} {ι : List Addr} : ∀ ns : List Int, Reps K H ι (ns.map .int) (ns.map V.int)
    | [] => .nil
    | n :: ns => .cons (.int n) (reps_ints ns)
end Mir
namespace Mir
open PySem L2

/-! ### what a mirror comes to -/
def Wp {α : Type} (r : Res α) (Q : α → MH → Prop) : Prop := match r with
  | .ok a h => Q a h
  | _ => False
section
variable {α β : Type} {r : Res α} {Q Q' : α → MH → Prop}
theorem Wp_ok {a : α} {h : MH} : Wp (.ok a h) Q = Q a h := rfl
theorem Wp_no : Wp (.no : Res α) Q = False := rfl
theorem Wp_ex {c fs h} : Wp (.ex c fs h : Res α) Q = False := rfl
theorem Wp_bind {f : α → MH → Res β} {Q : β → MH → Prop} : Wp (r.bind f) Q = Wp r fun a h => Wp (f a h) Q := by cases r <;> rfl
theorem Wp_nox : Wp r.nox Q = Wp r Q := by cases r <;> rfl
theorem Wp.mono (h : Wp r Q) (i : ∀ a h, Q a h → Q' a h) : Wp r Q' := by cases r <;> first | exact i _ _ h | exact h
theorem Wp.ex (h : Wp r Q) : ∃ a h', r = .ok a h' ∧ Q a h' := by
  cases r with
  | ok a h' => exact ⟨a, h', rfl, h⟩
  | ex => exact h.elim
  | no => exact h.elim
theorem Wp.of {a : α} {h : MH} (e : r = .ok a h) (q : Q a h) : Wp r Q := by rw [e]; exact q
theorem bind_ok {a : α} {h : MH} {f : α → MH → Res β} : (Res.ok a h).bind f = f a h := rfl
theorem bind_no {f : α → MH → Res β} : (Res.no : Res α).bind f = .no := rfl
theorem nox_ok {a : α} {h : MH} : (Res.ok a h).nox = .ok a h := rfl
theorem Wp_ite {c : Prop} [Decidable c] {x y : Res α} : Wp (if c then x else y) Q = if c then Wp x Q else Wp y Q := by split <;> rfl
end
theorem Wp_resF {m : Res (Fl × Ro)} {Q : D → MH → Prop} : Wp (resF m) Q = Wp m fun r h => match r.1 with | .rt d => Q d h | .nx => Q .non h | _ => False := by
  cases m with
  | ok r h => obtain ⟨f, ρ⟩ := r; cases f <;> rfl
  | ex => rfl
  | no => rfl
theorem Wp_seqS {a b : MS} {ρ : Ro} {h : MH} {Q : Fl × Ro → MH → Prop} : Wp (seqS a b ρ h) Q = Wp (a ρ h) fun r h => match r.1 with | .nx => Wp (b r.2 h) Q | _ => Q r h := by
  unfold seqS
  rw [Wp_bind]
  congr 1
  funext r h
  obtain ⟨f, ρ⟩ := r
  cases f <;> rfl
/-! loops -/
theorem forL_inv {chk : MH → Bool} {g : MG} {b : MS} {Q : Fl × Ro → MH → Prop} (all : List D) (I : Nat → Ro → MH → Prop)
    (turn : ∀ i ρ h x, all[i]? = some x → I i ρ h → chk h = true ∧ Wp (g x ρ h) fun ρ1 h1 => Wp (b ρ1 h1) fun r h2 => match r.1 with | .nx => I (i + 1) r.2 h2 | .ct => I (i + 1) r.2 h2 | .bk => Q (.nx, r.2) h2 | .rt d => Q (.rt d, r.2) h2)
    (done : ∀ ρ h, I all.length ρ h → chk h = true ∧ Q (.nx, ρ) h) : ∀ (xs : List D) (i : Nat) (ρ : Ro) (h : MH), all.drop i = xs → i ≤ all.length → I i ρ h → Wp (forL chk g b xs ρ h) Q
  | [], i, ρ, h, e, hl, hi => by
    have : i = all.length := by
      have := congrArg List.length e
      rw [List.length_drop, List.length_nil] at this
      omega
    subst this
    obtain ⟨h1, h2⟩ := done ρ h hi
    rw [forL, if_pos h1]; exact h2
  | x :: xs, i, ρ, h, e, hl, hi => by
    have hlt : i < all.length := by
      have := congrArg List.length e
      rw [List.length_drop, List.length_cons] at this
      omega
    have hx : all[i]? = some x ∧ all.drop (i + 1) = xs := by
      rw [List.drop_eq_getElem_cons hlt] at e
      injection e with e1 e2
      exact ⟨by rw [List.getElem?_eq_getElem hlt, e1], e2⟩
    obtain ⟨h1, h2⟩ := turn i ρ h x hx.1 hi
    rw [forL, if_pos h1, Wp_bind]
    refine h2.mono fun ρ1 h1 q => ?_
    rw [Wp_bind]
    refine q.mono fun r h2 q => ?_
    obtain ⟨f, ρ2⟩ := r
    cases f with
    | nx => exact forL_inv all I turn done xs (i + 1) ρ2 h2 hx.2 hlt q
    | ct => exact forL_inv all I turn done xs (i + 1) ρ2 h2 hx.2 hlt q
    | bk => exact q
    | rt d => exact q
theorem forL_wp {chk : MH → Bool} {g : MG} {b : MS} {Q : Fl × Ro → MH → Prop} {xs : List D} {ρ : Ro} {h : MH} (I : Nat → Ro → MH → Prop) (h0 : I 0 ρ h)
    (turn : ∀ i ρ h x, xs[i]? = some x → I i ρ h → chk h = true ∧ Wp (g x ρ h) fun ρ1 h1 => Wp (b ρ1 h1) fun r h2 => match r.1 with | .nx => I (i + 1) r.2 h2 | .ct => I (i + 1) r.2 h2 | .bk => Q (.nx, r.2) h2 | .rt d => Q (.rt d, r.2) h2)
    (done : ∀ ρ h, I xs.length ρ h → chk h = true ∧ Q (.nx, ρ) h) : Wp (forL chk g b xs ρ h) Q := forL_inv xs I turn done xs 0 ρ h rfl (Nat.zero_le _) h0
theorem lcL_inv {chk : MH → Bool} {g : MG} {t : MT} {e : ME} {ρ0 : Ro} {n : Nat} {Q : D → MH → Prop} (all : List D) (I : Nat → MH → Prop)
    (turn : ∀ i h x, all[i]? = some x → I i h → chk h = true ∧ Wp (g x ρ0 h) fun ρ1 h => Wp (t ρ1 h) fun b h => if b = true then Wp (e ρ1 h) fun y h => ∃ acc, h[n]? = some (.lst acc) ∧ acc.length < sizeLine ∧ I (i + 1) (h.set n (.lst (acc ++ [y]))) else I (i + 1) h)
    (done : ∀ h, I all.length h → chk h = true ∧ Q (.ref n) h) : ∀ (xs : List D) (i : Nat) (h : MH), all.drop i = xs → i ≤ all.length → I i h → Wp (lcL chk g t e ρ0 n xs h) Q
  | [], i, h, e, hl, hi => by
    have : i = all.length := by
      have := congrArg List.length e
      rw [List.length_drop, List.length_nil] at this
      omega
    subst this
    obtain ⟨h1, h2⟩ := done h hi
    rw [lcL, if_pos h1]; exact h2
  | x :: xs, i, h, e, hl, hi => by
    have hlt : i < all.length := by
      have := congrArg List.length e
      rw [List.length_drop, List.length_cons] at this
      omega
    have hx : all[i]? = some x ∧ all.drop (i + 1) = xs := by
      rw [List.drop_eq_getElem_cons hlt] at e
      injection e with e1 e2
      exact ⟨by rw [List.getElem?_eq_getElem hlt, e1], e2⟩
    obtain ⟨h1, h2⟩ := turn i h x hx.1 hi
    rw [lcL, if_pos h1, Wp_bind]
    refine h2.mono fun ρ1 h1 q => ?_
    rw [Wp_bind, Wp_nox]
    refine q.mono fun b h2 q => ?_
    cases b with
    | false =>
      rw [if_neg Bool.false_ne_true] at q
      exact lcL_inv all I turn done xs (i + 1) h2 hx.2 hlt q
    | true =>
      rw [if_pos rfl] at q
      rw [if_pos rfl, Wp_bind, Wp_nox]
      refine q.mono fun y h3 q => ?_
      obtain ⟨acc, e1, e2, q⟩ := q
      rw [e1]
      simp only
      rw [if_pos e2]
      exact lcL_inv all I turn done xs (i + 1) _ hx.2 hlt q
theorem lcL_wp {chk : MH → Bool} {g : MG} {t : MT} {e : ME} {ρ0 : Ro} {n : Nat} {Q : D → MH → Prop} {xs : List D} {h : MH} (I : Nat → MH → Prop) (h0 : I 0 h)
    (turn : ∀ i h x, xs[i]? = some x → I i h → chk h = true ∧ Wp (g x ρ0 h) fun ρ1 h => Wp (t ρ1 h) fun b h => if b = true then Wp (e ρ1 h) fun y h => ∃ acc, h[n]? = some (.lst acc) ∧ acc.length < sizeLine ∧ I (i + 1) (h.set n (.lst (acc ++ [y]))) else I (i + 1) h)
    (done : ∀ h, I xs.length h → chk h = true ∧ Q (.ref n) h) : Wp (lcL chk g t e ρ0 n xs h) Q := lcL_inv xs I turn done xs 0 h rfl (Nat.zero_le _) h0
/-! the heap behind some objects -/
theorem getE {h l : MH} {k : Nat} : (h ++ l)[h.length + k]? = l[k]? := by rw [List.getElem?_append_right (Nat.le_add_right _ _), Nat.add_sub_cancel_left]
theorem getE0 {h l : MH} : (h ++ l)[h.length]? = l[0]? := by rw [List.getElem?_append_right (Nat.le_refl _), Nat.sub_self]
theorem setE {h l : MH} {k : Nat} {o : Ob} : (h ++ l).set (h.length + k) o = h ++ l.set k o := by rw [List.set_append_right _ _ (Nat.le_add_right _ _), Nat.add_sub_cancel_left]
theorem setE0 {h l : MH} {o : Ob} : (h ++ l).set h.length o = h ++ l.set 0 o := by rw [List.set_append_right _ _ (Nat.le_refl _), Nat.sub_self]
theorem getP {h l : MH} {n : Nat} {o : Ob} (e : h[n]? = some o) : (h ++ l)[n]? = some o := by
  rw [List.getElem?_append_left (List.getElem?_eq_some_iff.mp e).1]; exact e
/-! draws -/
structure DrawAt (h : MH) (n : Nat) : Prop where
  ex : ∃ (m : Nat) (cs : List Int) (idx cur seed : Int), h[n]? = some (.lst [.ref m, .int idx, .int cur, .int seed]) ∧ h[m]? = some (.lst (cs.map .int)) ∧ -1 ≤ idx
/-- a draw: the draw's object alone has turned -/
structure Drawn1 (h h' : MH) (n : Nat) : Prop where
  at_ : DrawAt h' n
  len : h'.length = h.length
  rest : ∀ i, i ≠ n → h'[i]? = h[i]?
end Mir
namespace Mir
open PySem L2
def takeS : MS :=
  (seqS (ifS (testM (binM (compD .Eq) (binM ixD (varM 0) (cM (.int 2))) (cM (.int 0)))) (seqS (asgS (binM (binD .Add) (binM ixD (varM 0) (cM (.int 1))) (cM (.int 1))) (subG (varM 0) (cM (.int 1))))
    (seqS (ifS (testM (binM (compD .Lt) (binM ixD (varM 0) (cM (.int 1))) (callM (bltD "len") (argsE [binM ixD (varM 0) (cM (.int 0))])))) (seqS (asgS (binM ixD (binM ixD (varM 0) (cM (.int 0))) (binM ixD (varM 0) (cM (.int 1)))) (subG (varM 0) (cM (.int 2))))
      nxS) nxS)
    (seqS (ifS (testM (binM (compD .Eq) (binM ixD (varM 0) (cM (.int 2))) (cM (.int 0)))) (seqS (asgS (binM (binD .Mod) (callM (tyD "int") (argsE [binM (binD .Add) (binM (binD .Mult) (binM ixD (varM 0) (cM (.int 3))) (cM (.int 48271))) (cM (.int 11))])) (cM (.int 2147483647))) (subG (varM 0) (cM (.int 3))))
      (seqS (asgS (binM ixD (varM 0) (cM (.int 3))) (subG (varM 0) (cM (.int 2))))
      nxS)) nxS)
    nxS))) nxS)
  (seqS (setS 2 (binM (binD .Mod) (callM (tyD "int") (argsE [binM ixD (varM 0) (cM (.int 2))])) (varM 1)))
  (seqS (asgS (binM (binD .FloorDiv) (binM ixD (varM 0) (cM (.int 2))) (varM 1)) (subG (varM 0) (cM (.int 2))))
  (seqS (retS (varM 2))
  nxS))))
/-- reading and storing in the draw's list -/
theorem ixD_lst {h : MH} {n : Nat} {ds : List D} {i : Int} {d : D} (e : h[n]? = some (.lst ds)) (hi : atI ds i = some d) : ixD (.ref n) (.int i) h = .ok d h := by
  simp only [ixD, ixO, e, hi]
theorem setK_lst {h : MH} {n : Nat} {ds : List D} {i : Int} {j : Nat} {v : D} (e : h[n]? = some (.lst ds)) (hi : ixN ds.length i = some j) : setK (.ref n) (.int i) v h = .ok () (h.set n (.lst (ds.set j v))) := by
  simp only [setK, setI, e, hi]
theorem get_set {h : MH} {n : Nat} {o o' : Ob} (e : h[n]? = some o) : (h.set n o')[n]? = some o' := by
  rw [List.getElem?_set_self (List.getElem?_eq_some_iff.mp e).1]
theorem get_set_ne {h : MH} {n m : Nat} {o' : Ob} (e : m ≠ n) : (h.set n o')[m]? = h[m]? := List.getElem?_set_ne (Ne.symm e)
theorem take_ok {N : List Str} {h : MH} {n : Nat} {many : Int} (hN : N.length = 3) (hd : DrawAt h n) (h0 : 0 < many) (h1 : many < 2 ^ 64) : Wp (runB takeS N [.ref n, .int many] h) fun v h' => ∃ i, v = .int i ∧ 0 ≤ i ∧ i < many ∧ Drawn1 h h' n := by
  obtain ⟨m, cs, idx, cur, seed, e1, e2, hx⟩ := hd
  have ne : m ≠ n := by
    intro z; subst z; rw [e1] at e2
    have := Ob.lst.inj (Option.some.inj e2)
    cases cs <;> simp at this
  have a0 : ∀ a b c d : D, atI [a, b, c, d] (0 : Int) = some a := fun _ _ _ _ => rfl
  have a1 : ∀ a b c d : D, atI [a, b, c, d] (1 : Int) = some b := fun _ _ _ _ => rfl
  have a2 : ∀ a b c d : D, atI [a, b, c, d] (2 : Int) = some c := fun _ _ _ _ => rfl
  have a3 : ∀ a b c d : D, atI [a, b, c, d] (3 : Int) = some d := fun _ _ _ _ => rfl
  have g1 : ∀ o, (h.set n o)[n]? = some o := fun o => get_set e1
  have g2 : ∀ o, (h.set n o)[m]? = some (Ob.lst (cs.map .int)) := fun o => by rw [get_set_ne ne]; exact e2
  have k1 : ixN 4 (1 : Int) = some 1 := rfl
  have k2 : ixN 4 (2 : Int) = some 2 := rfl
  have k3 : ixN 4 (3 : Int) = some 3 := rfl
  have fin : ∀ (idx' cur' seed' : Int), -1 ≤ idx' → Drawn1 h (h.set n (Ob.lst [.ref m, .int idx', .int cur', .int seed'])) n := fun idx' cur' seed' hx' =>
    ⟨⟨m, cs, idx', cur', seed', g1 _, g2 _, hx'⟩, List.length_set, fun i hi => get_set_ne hi⟩
  have hm0 : ∀ i : Int, 0 ≤ i % many := fun i => Int.emod_nonneg i (by omega)
  have hm1 : ∀ i : Int, i % many < many := fun i => Int.emod_lt_of_pos i h0
  have hz : ∀ c : Int, -1 ≤ c → ¬ (c + 1 < cs.length) ∨ ∃ x, atI (cs.map D.int) (c + 1) = some (.int x) := fun c hc => by
    by_cases q : c + 1 < cs.length
    · right
      unfold atI ixN
      rw [List.length_map, if_pos (by omega), if_pos q]
      simp only [Option.bind_some, List.getElem?_map]
      rw [List.getElem?_eq_getElem (by omega)]
      exact ⟨_, rfl⟩
    · exact .inl q
  have mc : mulC seed 48271 = true := by
    unfold mulC
    simp
  have dm : decide (0 < many) = true := decide_eq_true h0
  have d2 : decide (many < 2 ^ 64) = true := decide_eq_true h1
  have d3 : decide ((0 : Int) < 2147483647) = true := rfl
  by_cases c0 : cur = 0
  · subst c0
    rcases hz idx hx with q | ⟨x, q⟩
    · simp only [runB, startD, hN, resF, takeS, seqS, nxS, ifS, testM, binM, compD, cM, varM, asgS, subG, setK, setI, setS, retS, callM, argsE, nilM, consM, bltD, tyD, lenO, ixD, ixO, e1, e2, g1, g2, a0, a1, a2, a3, bind_ok, eqD, eqO, scalD, ltD, binD, addD, mulD, modD, divD, intD, List.map_cons, List.map_nil, List.cons_append, List.nil_append, List.getElem?_cons_zero, List.getElem?_cons_succ, List.length_cons, List.length_nil, List.replicate, k1, k2, k3, if_true, List.set_cons_zero, List.set_cons_succ, List.set_set, List.length_map, decide_true, decide_false, if_false, Bool.false_eq_true, mc, dm, d2, Wp_ok, eq_self, Bool.and_true, Bool.true_and, d3, q]
      exact ⟨_, rfl, hm0 _, hm1 _, fin _ _ _ (by omega)⟩
    · have q' : idx + 1 < cs.length := by
        unfold atI ixN at q
        rw [List.length_map, if_pos (by omega)] at q
        split at q
        · assumption
        · cases q
      by_cases x0 : x = 0
      · subst x0
        simp only [runB, startD, hN, resF, takeS, seqS, nxS, ifS, testM, binM, compD, cM, varM, asgS, subG, setK, setI, setS, retS, callM, argsE, nilM, consM, bltD, tyD, lenO, ixD, ixO, e1, e2, g1, g2, a0, a1, a2, a3, bind_ok, eqD, eqO, scalD, ltD, binD, addD, mulD, modD, divD, intD, List.map_cons, List.map_nil, List.cons_append, List.nil_append, List.getElem?_cons_zero, List.getElem?_cons_succ, List.length_cons, List.length_nil, List.replicate, k1, k2, k3, if_true, List.set_cons_zero, List.set_cons_succ, List.set_set, List.length_map, decide_true, decide_false, if_false, Bool.false_eq_true, mc, dm, d2, Wp_ok, eq_self, Bool.and_true, Bool.true_and, d3, q, q']
        exact ⟨_, rfl, hm0 _, hm1 _, fin _ _ _ (by omega)⟩
      · simp only [runB, startD, hN, resF, takeS, seqS, nxS, ifS, testM, binM, compD, cM, varM, asgS, subG, setK, setI, setS, retS, callM, argsE, nilM, consM, bltD, tyD, lenO, ixD, ixO, e1, e2, g1, g2, a0, a1, a2, a3, bind_ok, eqD, eqO, scalD, ltD, binD, addD, mulD, modD, divD, intD, List.map_cons, List.map_nil, List.cons_append, List.nil_append, List.getElem?_cons_zero, List.getElem?_cons_succ, List.length_cons, List.length_nil, List.replicate, k1, k2, k3, if_true, List.set_cons_zero, List.set_cons_succ, List.set_set, List.length_map, decide_true, decide_false, if_false, Bool.false_eq_true, mc, dm, d2, Wp_ok, eq_self, Bool.and_true, Bool.true_and, d3, q, q', x0]
        exact ⟨_, rfl, hm0 _, hm1 _, fin _ _ _ (by omega)⟩
  · simp only [runB, startD, hN, resF, takeS, seqS, nxS, ifS, testM, binM, compD, cM, varM, asgS, subG, setK, setI, setS, retS, callM, argsE, nilM, consM, bltD, tyD, lenO, ixD, ixO, e1, e2, g1, g2, a0, a1, a2, a3, bind_ok, eqD, eqO, scalD, ltD, binD, addD, mulD, modD, divD, intD, List.map_cons, List.map_nil, List.cons_append, List.nil_append, List.getElem?_cons_zero, List.getElem?_cons_succ, List.length_cons, List.length_nil, List.replicate, k1, k2, k3, if_true, List.set_cons_zero, List.set_cons_succ, List.set_set, List.length_map, decide_true, decide_false, if_false, Bool.false_eq_true, mc, dm, d2, Wp_ok, eq_self, Bool.and_true, Bool.true_and, d3, c0]
    exact ⟨_, rfl, hm0 _, hm1 _, fin _ _ _ hx⟩

def drawS : MS :=
  (seqS (setS 1 (cM (.int 7)))
  (seqS (forS (seqI (varM 0)) (nameG 2) (seqS (setS 1 (binM (binD .Mod) (callM (tyD "int") (argsE [binM (binD .Add) (binM (binD .Add) (binM (binD .Mult) (varM 1) (cM (.int 48271))) (binM (binD .Mod) (callM (bltD "abs") (argsE [callM (tyD "int") (argsE [varM 2])])) (cM (.int 65521)))) (cM (.int 1))])) (cM (.int 2147483647))))
    nxS))
  (seqS (retS (lstM (argsE [lcM [2] (seqI (varM 0)) (nameG 2) (yesT) (callM (bltD "abs") (argsE [callM (tyD "int") (argsE [varM 2])])), unM negD (cM (.int 1)), cM (.int 0), varM 1])))
  nxS)))
theorem seq_ok {a b : MS} {ρ ρ' : Ro} {h h' : MH} (e : a ρ h = .ok (.nx, ρ') h') : seqS a b ρ h = b ρ' h' := by unfold seqS; rw [e]; rfl
theorem Wp_seq {a b : MS} {ρ : Ro} {h : MH} {Q : Fl × Ro → MH → Prop} (R : Ro → MH → Prop) (e : Wp (a ρ h) fun r h' => r.1 = .nx ∧ R r.2 h') (q : ∀ ρ' h', R ρ' h' → Wp (b ρ' h') Q) : Wp (seqS a b ρ h) Q := by
  rw [Wp_seqS]
  refine e.mono fun r h' ⟨e1, e2⟩ => ?_
  obtain ⟨f, ρ'⟩ := r
  simp only at e1
  subst e1
  exact q _ _ e2
theorem draw_ok {N : List Str} {h : MH} {ns : List Int} (hN : N.length = 3) (hl : ns.length ≤ 63) : Wp (runB drawS N [.wl (ns.map .int)] h) fun v h' => ∃ n, v = .ref n ∧ DrawAt h' n := by
  have d1 : decide ((0 : Int) < 65521) = true := rfl
  have d2 : decide ((0 : Int) < 2147483647) = true := rfl
  have mc : ∀ s : Int, mulC s 48271 = true := fun s => by unfold mulC; simp
  unfold runB
  rw [Wp_resF]
  simp only [startD, hN, List.map_cons, List.map_nil, List.length_cons, List.length_nil, List.replicate, List.cons_append, List.nil_append]
  unfold drawS
  rw [seq_ok (ρ' := [some (.wl (ns.map .int)), some (.int 7), none]) (h' := h) (by simp only [setS, cM, bind_ok, List.set_cons_zero, List.set_cons_succ])]
  refine Wp_seq (fun ρ' h' => ∃ s c, ρ' = [some (.wl (ns.map .int)), some (.int s), c] ∧ h = h') ?_ ?_
  · unfold forS
    rw [Wp_bind]
    simp only [seqI, varM, List.getElem?_cons_zero, bind_ok, Wp_ok]
    refine forL_wp (fun i ρ h' => ∃ s c, ρ = [some (.wl (ns.map .int)), some (.int s), c] ∧ h = h') ⟨7, none, rfl, rfl⟩ ?_ ?_
    · rintro i ρ h' x hx ⟨s, c, rfl, rfl⟩
      rw [List.getElem?_map] at hx
      obtain ⟨z, hz, rfl⟩ := Option.map_eq_some_iff.mp hx
      refine ⟨rfl, ?_⟩
      simp only [nameG, Wp_ok, List.set_cons_zero, List.set_cons_succ, seqS, setS, nxS, binM, binD, callM, argsE, consM, nilM, tyD, bltD, varM, cM, bind_ok, List.getElem?_cons_zero, List.getElem?_cons_succ, mulD, modD, addD, intD, mc, d1, d2, if_true]
      simp [mc, bind_ok, Wp_ok, List.set_cons_zero, List.set_cons_succ, -Int.emod_emod_of_dvd]
    · rintro ρ h' ⟨s, c, rfl, rfl⟩
      exact ⟨rfl, rfl, s, c, rfl, rfl⟩
  · rintro ρ' h' ⟨s, c, rfl, rfl⟩
    rw [Wp_seqS]
    simp only [retS, lstM, argsE, consM, nilM, unM, lcM, seqI, varM, cM, bind_ok, Wp_bind, List.getElem?_cons_zero, Wp_ok, wipeD, List.set_cons_zero, List.set_cons_succ, negD, List.getElem?_cons_succ]
    refine lcL_wp (fun i h' => h' = h ++ [.lst ((ns.take i).map fun c => .int (if c < 0 then -c else c))]) rfl ?_ ?_
    · rintro i h' x hx rfl
      rw [List.getElem?_map] at hx
      obtain ⟨z, hz, rfl⟩ := Option.map_eq_some_iff.mp hx
      have hi : i < ns.length := (List.getElem?_eq_some_iff.mp hz).1
      refine ⟨rfl, ?_⟩
      simp only [nameG, Wp_ok, yesT, if_true, callM, argsE, consM, nilM, tyD, bltD, varM, bind_ok, List.getElem?_cons_zero, List.getElem?_cons_succ, List.set_cons_zero, List.set_cons_succ]
      simp only [if_true, if_false, String.reduceEq, bind_ok, Wp_ok]
      refine ⟨_, getE0, ?_, ?_⟩
      · rw [List.length_map, List.length_take]
        have : (64 : Nat) < sizeLine := by rw [sizeLine_eq]; decide
        omega
      · rw [setE0, List.take_succ, hz]
        simp
    · rintro h' rfl
      refine ⟨rfl, ?_⟩
      have hz : 0 + 1 + 1 + 1 + 1 ≤ sizeLine := by rw [sizeLine_eq]; decide
      simp only [List.length_cons, List.length_nil, hz, if_true, Wp_ok, Wp_bind, bind_ok]
      refine ⟨_, rfl, h.length, ns.map (fun c => if c < 0 then -c else c), -1, 0, s, ?_, ?_, Int.le_refl _⟩
      · simp
      · simp [List.take_length]
end Mir
namespace Law
open PySem L2 Mir
def top (i : Nat) : Stmt := PySem.Challenge.pw_ownanswer_k31_states_of_a_stream.main.body.getD i (.Pass ⟨0, 0, 0, 0⟩)
def v_STATES : D := .tup [.str (PySem.Str.ofString "idle"), .str (PySem.Str.ofString "open"), .str (PySem.Str.ofString "sent"), .str (PySem.Str.ofString "heard"), .str (PySem.Str.ofString "closed")]
def v_DEEDS : D := .tup [.str (PySem.Str.ofString "head"), .str (PySem.Str.ofString "last"), .str (PySem.Str.ofString "data"), .str (PySem.Str.ofString "end"), .str (PySem.Str.ofString "reset"), .str (PySem.Str.ofString "window"), .str (PySem.Str.ofString "part")]
def glL : List (Str × GV) := [("STATES", .val v_STATES), ("DEEDS", .val v_DEEDS), ("ending", .fn 1), ("after", .fn 3), ("_law_draw", .fn 1), ("_law_take", .fn 2), ("_law_row", .fn 2), ("_law_after", .fn 3), ("law", .fn 1)]
def d_ending : Df := ⟨"ending", top 3, ["mine"], 1⟩
def d_after : Df := ⟨"after", top 4, ["state", "mine", "deed"], 3⟩
def d__law_draw : Df := ⟨"_law_draw", top 6, ["_law_script", "_law_seed", "_law_cell"], 1⟩
def d__law_take : Df := ⟨"_law_take", top 7, ["_law_draw_here", "_law_many", "_law_found"], 2⟩
def d__law_row : Df := ⟨"_law_row", top 8, ["_law_state", "_law_mine", "_law_rows"], 2⟩
def d__law_after : Df := ⟨"_law_after", top 9, ["_law_state", "_law_mine", "_law_deed", "_law_deeds", "_law_word"], 3⟩
def d_law : Df := ⟨"law", top 10, ["_law_script", "_law_draw_here", "_law_state", "_law_mine", "_law_deed", "_law_ended", "_law_turn", "_law_behind"], 1⟩
def defs : List Df := [d_ending, d_after, d__law_draw, d__law_take, d__law_row, d__law_after, d_law]
def R : Nat → Str → List D → MH → Res D := runsOf (glOf glL) defs
/- ending: 0 mine -/
def s_ending (R : Str → List D → MH → Res D) : MS :=
  (seqS (retS (ifM (truM (varM 0)) (cM (.str (PySem.Str.ofString "sent"))) (cM (.str (PySem.Str.ofString "heard")))))
  nxS)
theorem e_ending (R : Str → List D → MH → Res D) : bodyS ⟨glOf glL, R⟩ d_ending.N (defScope d_ending.st) (defBody d_ending.st) = s_ending R := by kernel_rfl
theorem sc_ending : scC d_ending.N d_ending.np (defScope d_ending.st) = true := by decide +kernel
theorem r_ending (n : Nat) (ds : List D) (h : MH) : R (n + 1) "ending" ds h = runB (s_ending (R n)) d_ending.N ds h := by
  rw [← e_ending]; kernel_rfl
/- after: 0 state, 1 mine, 2 deed -/
def s_after (R : Str → List D → MH → Res D) : MS :=
  (seqS (ifS (testM (binM (compD .Eq) (varM 2) (cM (.str (PySem.Str.ofString "part"))))) (seqS (retS (varM 0))
    nxS) nxS)
  (seqS (ifS (testM (binM (compD .Eq) (varM 0) (cM (.str (PySem.Str.ofString "idle"))))) (seqS (ifS (testM (binM (compD .Eq) (varM 2) (cM (.str (PySem.Str.ofString "head"))))) (seqS (retS (cM (.str (PySem.Str.ofString "open"))))
      nxS) nxS)
    (seqS (retS (ifM (testM (binM (compD .Eq) (varM 2) (cM (.str (PySem.Str.ofString "last"))))) (callN 1 (R "ending") (argsE [varM 1])) (tupM (argsE [cM (.str (PySem.Str.ofString "fault")), cM (.str (PySem.Str.ofString "order"))]))))
    nxS)) nxS)
  (seqS (ifS (testM (binM (compD .Eq) (varM 0) (cM (.str (PySem.Str.ofString "closed"))))) (seqS (ifS (andTs [notT (truM (varM 1)), testM (binM (compD .In) (varM 2) (tupM (argsE [cM (.str (PySem.Str.ofString "reset")), cM (.str (PySem.Str.ofString "window"))])))]) (seqS (retS (cM (.str (PySem.Str.ofString "closed"))))
      nxS) nxS)
    (seqS (retS (tupM (argsE [cM (.str (PySem.Str.ofString "fault")), cM (.str (PySem.Str.ofString "closed"))])))
    nxS)) nxS)
  (seqS (ifS (testM (binM (compD .Eq) (varM 2) (cM (.str (PySem.Str.ofString "reset"))))) (seqS (retS (cM (.str (PySem.Str.ofString "closed"))))
    nxS) nxS)
  (seqS (ifS (testM (binM (compD .Eq) (varM 2) (cM (.str (PySem.Str.ofString "window"))))) (seqS (retS (varM 0))
    nxS) nxS)
  (seqS (ifS (testM (binM (compD .Eq) (varM 0) (callN 1 (R "ending") (argsE [varM 1])))) (seqS (retS (tupM (argsE [cM (.str (PySem.Str.ofString "fault")), cM (.str (PySem.Str.ofString "closed"))])))
    nxS) nxS)
  (seqS (ifS (orTs [testM (binM (compD .Eq) (varM 2) (cM (.str (PySem.Str.ofString "head")))), testM (binM (compD .Eq) (varM 2) (cM (.str (PySem.Str.ofString "data"))))]) (seqS (retS (varM 0))
    nxS) nxS)
  (seqS (retS (ifM (testM (binM (compD .Eq) (varM 0) (cM (.str (PySem.Str.ofString "open"))))) (callN 1 (R "ending") (argsE [varM 1])) (cM (.str (PySem.Str.ofString "closed")))))
  nxS))))))))
theorem e_after (R : Str → List D → MH → Res D) : bodyS ⟨glOf glL, R⟩ d_after.N (defScope d_after.st) (defBody d_after.st) = s_after R := by kernel_rfl
theorem sc_after : scC d_after.N d_after.np (defScope d_after.st) = true := by decide +kernel
theorem r_after (n : Nat) (ds : List D) (h : MH) : R (n + 1) "after" ds h = runB (s_after (R n)) d_after.N ds h := by
  rw [← e_after]; kernel_rfl
/- _law_draw: 0 _law_script, 1 _law_seed, 2 _law_cell -/
def s__law_draw (R : Str → List D → MH → Res D) : MS :=
  (seqS (setS 1 (cM (.int 7)))
  (seqS (forS (seqI (varM 0)) (nameG 2) (seqS (setS 1 (binM (binD .Mod) (callM (tyD "int") (argsE [binM (binD .Add) (binM (binD .Add) (binM (binD .Mult) (varM 1) (cM (.int 48271))) (binM (binD .Mod) (callM (bltD "abs") (argsE [callM (tyD "int") (argsE [varM 2])])) (cM (.int 65521)))) (cM (.int 1))])) (cM (.int 2147483647))))
    nxS))
  (seqS (retS (lstM (argsE [lcM [2] (seqI (varM 0)) (nameG 2) (yesT) (callM (bltD "abs") (argsE [callM (tyD "int") (argsE [varM 2])])), unM negD (cM (.int 1)), cM (.int 0), varM 1])))
  nxS)))
theorem e__law_draw (R : Str → List D → MH → Res D) : bodyS ⟨glOf glL, R⟩ d__law_draw.N (defScope d__law_draw.st) (defBody d__law_draw.st) = s__law_draw R := by kernel_rfl
theorem sc__law_draw : scC d__law_draw.N d__law_draw.np (defScope d__law_draw.st) = true := by decide +kernel
theorem r__law_draw (n : Nat) (ds : List D) (h : MH) : R (n + 1) "_law_draw" ds h = runB (s__law_draw (R n)) d__law_draw.N ds h := by
  rw [← e__law_draw]; kernel_rfl
/- _law_take: 0 _law_draw_here, 1 _law_many, 2 _law_found -/
def s__law_take (R : Str → List D → MH → Res D) : MS :=
  (seqS (ifS (testM (binM (compD .Eq) (binM ixD (varM 0) (cM (.int 2))) (cM (.int 0)))) (seqS (asgS (binM (binD .Add) (binM ixD (varM 0) (cM (.int 1))) (cM (.int 1))) (subG (varM 0) (cM (.int 1))))
    (seqS (ifS (testM (binM (compD .Lt) (binM ixD (varM 0) (cM (.int 1))) (callM (bltD "len") (argsE [binM ixD (varM 0) (cM (.int 0))])))) (seqS (asgS (binM ixD (binM ixD (varM 0) (cM (.int 0))) (binM ixD (varM 0) (cM (.int 1)))) (subG (varM 0) (cM (.int 2))))
      nxS) nxS)
    (seqS (ifS (testM (binM (compD .Eq) (binM ixD (varM 0) (cM (.int 2))) (cM (.int 0)))) (seqS (asgS (binM (binD .Mod) (callM (tyD "int") (argsE [binM (binD .Add) (binM (binD .Mult) (binM ixD (varM 0) (cM (.int 3))) (cM (.int 48271))) (cM (.int 11))])) (cM (.int 2147483647))) (subG (varM 0) (cM (.int 3))))
      (seqS (asgS (binM ixD (varM 0) (cM (.int 3))) (subG (varM 0) (cM (.int 2))))
      nxS)) nxS)
    nxS))) nxS)
  (seqS (setS 2 (binM (binD .Mod) (callM (tyD "int") (argsE [binM ixD (varM 0) (cM (.int 2))])) (varM 1)))
  (seqS (asgS (binM (binD .FloorDiv) (binM ixD (varM 0) (cM (.int 2))) (varM 1)) (subG (varM 0) (cM (.int 2))))
  (seqS (retS (varM 2))
  nxS))))
theorem e__law_take (R : Str → List D → MH → Res D) : bodyS ⟨glOf glL, R⟩ d__law_take.N (defScope d__law_take.st) (defBody d__law_take.st) = s__law_take R := by kernel_rfl
theorem sc__law_take : scC d__law_take.N d__law_take.np (defScope d__law_take.st) = true := by decide +kernel
theorem r__law_take (n : Nat) (ds : List D) (h : MH) : R (n + 1) "_law_take" ds h = runB (s__law_take (R n)) d__law_take.N ds h := by
  rw [← e__law_take]; kernel_rfl
/- _law_row: 0 _law_state, 1 _law_mine, 2 _law_rows -/
def s__law_row (R : Str → List D → MH → Res D) : MS :=
  (seqS (setS 2 (dispM [(cM (.str (PySem.Str.ofString "idle")), cM (.str (PySem.Str.ofString "open * ? ? ? ? idle"))), (cM (.str (PySem.Str.ofString "open")), cM (.str (PySem.Str.ofString "open * open * closed open open")))]))
  (seqS (ifS (testM (binM (compD .Eq) (varM 0) (cM (.str (PySem.Str.ofString "sent"))))) (seqS (asgS (cM (.str (PySem.Str.ofString "sent closed sent closed closed sent sent"))) (subG (varM 2) (cM (.str (PySem.Str.ofString "sent")))))
    (seqS (ifS (truM (varM 1)) (seqS (asgS (cM (.str (PySem.Str.ofString "! ! ! ! closed sent sent"))) (subG (varM 2) (cM (.str (PySem.Str.ofString "sent")))))
      nxS) nxS)
    nxS)) nxS)
  (seqS (ifS (testM (binM (compD .Eq) (varM 0) (cM (.str (PySem.Str.ofString "heard"))))) (seqS (asgS (cM (.str (PySem.Str.ofString "! ! ! ! closed heard heard"))) (subG (varM 2) (cM (.str (PySem.Str.ofString "heard")))))
    (seqS (ifS (truM (varM 1)) (seqS (asgS (cM (.str (PySem.Str.ofString "heard closed heard closed closed heard heard"))) (subG (varM 2) (cM (.str (PySem.Str.ofString "heard")))))
      nxS) nxS)
    nxS)) nxS)
  (seqS (ifS (testM (binM (compD .Eq) (varM 0) (cM (.str (PySem.Str.ofString "closed"))))) (seqS (asgS (cM (.str (PySem.Str.ofString "! ! ! ! closed closed closed"))) (subG (varM 2) (cM (.str (PySem.Str.ofString "closed")))))
    (seqS (ifS (truM (varM 1)) (seqS (asgS (cM (.str (PySem.Str.ofString "! ! ! ! ! ! closed"))) (subG (varM 2) (cM (.str (PySem.Str.ofString "closed")))))
      nxS) nxS)
    nxS)) nxS)
  (seqS (retS (bmE "split" (binM ixD (varM 2) (varM 0)) (argsE [cM (.str (PySem.Str.ofString " "))])))
  nxS)))))
theorem e__law_row (R : Str → List D → MH → Res D) : bodyS ⟨glOf glL, R⟩ d__law_row.N (defScope d__law_row.st) (defBody d__law_row.st) = s__law_row R := by kernel_rfl
theorem sc__law_row : scC d__law_row.N d__law_row.np (defScope d__law_row.st) = true := by decide +kernel
theorem r__law_row (n : Nat) (ds : List D) (h : MH) : R (n + 1) "_law_row" ds h = runB (s__law_row (R n)) d__law_row.N ds h := by
  rw [← e__law_row]; kernel_rfl
/- _law_after: 0 _law_state, 1 _law_mine, 2 _law_deed, 3 _law_deeds, 4 _law_word -/
def s__law_after (R : Str → List D → MH → Res D) : MS :=
  (seqS (setS 3 (lstM (argsE [cM (.str (PySem.Str.ofString "head")), cM (.str (PySem.Str.ofString "last")), cM (.str (PySem.Str.ofString "data")), cM (.str (PySem.Str.ofString "end")), cM (.str (PySem.Str.ofString "reset")), cM (.str (PySem.Str.ofString "window")), cM (.str (PySem.Str.ofString "part"))])))
  (seqS (setS 4 (binM ixD (callN 2 (R "_law_row") (argsE [varM 0, varM 1])) (bmE "index" (varM 3) (argsE [varM 2]))))
  (seqS (ifS (testM (binM (compD .Eq) (varM 4) (cM (.str (PySem.Str.ofString "!"))))) (seqS (retS (tupM (argsE [cM (.str (PySem.Str.ofString "fault")), cM (.str (PySem.Str.ofString "closed"))])))
    nxS) nxS)
  (seqS (ifS (testM (binM (compD .Eq) (varM 4) (cM (.str (PySem.Str.ofString "?"))))) (seqS (retS (tupM (argsE [cM (.str (PySem.Str.ofString "fault")), cM (.str (PySem.Str.ofString "order"))])))
    nxS) nxS)
  (seqS (ifS (testM (binM (compD .Eq) (varM 4) (cM (.str (PySem.Str.ofString "*"))))) (seqS (retS (binM ixD (lstM (argsE [cM (.str (PySem.Str.ofString "heard")), cM (.str (PySem.Str.ofString "sent"))])) (callM (tyD "int") (argsE [varM 1]))))
    nxS) nxS)
  (seqS (retS (varM 4))
  nxS))))))
theorem e__law_after (R : Str → List D → MH → Res D) : bodyS ⟨glOf glL, R⟩ d__law_after.N (defScope d__law_after.st) (defBody d__law_after.st) = s__law_after R := by kernel_rfl
theorem sc__law_after : scC d__law_after.N d__law_after.np (defScope d__law_after.st) = true := by decide +kernel
theorem r__law_after (n : Nat) (ds : List D) (h : MH) : R (n + 1) "_law_after" ds h = runB (s__law_after (R n)) d__law_after.N ds h := by
  rw [← e__law_after]; kernel_rfl
/- law: 0 _law_script, 1 _law_draw_here, 2 _law_state, 3 _law_mine, 4 _law_deed, 5 _law_ended, 6 _law_turn, 7 _law_behind -/
def s_law (R : Str → List D → MH → Res D) : MS :=
  (seqS (setS 1 (callN 1 (R "_law_draw") (argsE [varM 0])))
  (seqS (ifS (testM (binM (compD .NotEq) (cM v_STATES) (tupM (argsE [cM (.str (PySem.Str.ofString "idle")), cM (.str (PySem.Str.ofString "open")), cM (.str (PySem.Str.ofString "sent")), cM (.str (PySem.Str.ofString "heard")), cM (.str (PySem.Str.ofString "closed"))])))) (seqS (retS (cM (.bl false)))
    nxS) nxS)
  (seqS (ifS (testM (binM (compD .NotEq) (cM v_DEEDS) (tupM (argsE [cM (.str (PySem.Str.ofString "head")), cM (.str (PySem.Str.ofString "last")), cM (.str (PySem.Str.ofString "data")), cM (.str (PySem.Str.ofString "end")), cM (.str (PySem.Str.ofString "reset")), cM (.str (PySem.Str.ofString "window")), cM (.str (PySem.Str.ofString "part"))])))) (seqS (retS (cM (.bl false)))
    nxS) nxS)
  (seqS (setS 2 (binM ixD (cM v_STATES) (callN 2 (R "_law_take") (argsE [varM 1, cM (.int 5)]))))
  (seqS (setS 3 (binM (compD .Eq) (callN 2 (R "_law_take") (argsE [varM 1, cM (.int 2)])) (cM (.int 1))))
  (seqS (setS 4 (binM ixD (cM v_DEEDS) (callN 2 (R "_law_take") (argsE [varM 1, cM (.int 7)]))))
  (seqS (ifS (testM (binM (compD .NotEq) (callN 3 (R "after") (argsE [varM 2, varM 3, varM 4])) (callN 3 (R "_law_after") (argsE [varM 2, varM 3, varM 4])))) (seqS (retS (cM (.bl false)))
    nxS) nxS)
  (seqS (setS 2 (cM (.str (PySem.Str.ofString "idle"))))
  (seqS (setS 5 (dispL [(cM (.bl true), cM (.bl false)), (cM (.bl false), cM (.bl false))]))
  (seqS (forS (rangeI1 (argsE [callN 2 (R "_law_take") (argsE [varM 1, cM (.int 13)])])) (nameG 6) (seqS (setS 3 (binM (compD .Eq) (callN 2 (R "_law_take") (argsE [varM 1, cM (.int 2)])) (cM (.int 1))))
    (seqS (setS 4 (binM ixD (cM v_DEEDS) (callN 2 (R "_law_take") (argsE [varM 1, cM (.int 7)]))))
    (seqS (setS 7 (callN 3 (R "after") (argsE [varM 2, varM 3, varM 4])))
    (seqS (ifS (testM (binM (compD .NotEq) (varM 7) (callN 3 (R "_law_after") (argsE [varM 2, varM 3, varM 4])))) (seqS (retS (cM (.bl false)))
      nxS) nxS)
    (seqS (ifS (notT (truM (callM (bltD "isinstance") (argsE [varM 7, cM (.ty "tuple")])))) (seqS (ifS (andTs [testM (binM (compD .Eq) (varM 2) (cM (.str (PySem.Str.ofString "closed")))), testM (binM (compD .NotEq) (varM 7) (cM (.str (PySem.Str.ofString "closed"))))]) (seqS (retS (cM (.bl false)))
        nxS) nxS)
      (seqS (ifS (andTs [truM (binM ixD (varM 5) (varM 3)), testM (binM (compD .In) (varM 4) (lstM (argsE [cM (.str (PySem.Str.ofString "head")), cM (.str (PySem.Str.ofString "last")), cM (.str (PySem.Str.ofString "data")), cM (.str (PySem.Str.ofString "end"))])))]) (seqS (retS (cM (.bl false)))
        nxS) nxS)
      (seqS (ifS (orTs [testM (binM (compD .Eq) (varM 4) (cM (.str (PySem.Str.ofString "last")))), testM (binM (compD .Eq) (varM 4) (cM (.str (PySem.Str.ofString "end"))))]) (seqS (asgS (cM (.bl true)) (subG (varM 5) (varM 3)))
        nxS) nxS)
      (seqS (setS 2 (varM 7))
      nxS)))) nxS)
    nxS))))))
  (seqS (retS (cM (.bl true)))
  nxS)))))))))))
theorem e_law (R : Str → List D → MH → Res D) : bodyS ⟨glOf glL, R⟩ d_law.N (defScope d_law.st) (defBody d_law.st) = s_law R := by kernel_rfl
theorem sc_law : scC d_law.N d_law.np (defScope d_law.st) = true := by decide +kernel
theorem r_law (n : Nat) (ds : List D) (h : MH) : R (n + 1) "law" ds h = runB (s_law (R n)) d_law.N ds h := by
  rw [← e_law]; kernel_rfl
end Law
namespace Law
open PySem L2 Mir

def sts : List Str := ["idle", "open", "sent", "heard", "closed"]
def dds : List Str := ["head", "last", "data", "end", "reset", "window", "part"]
def aftF (s : Str) (b : Bool) (d : Str) : D := match R 3 "after" [.str s, .bl b, .str d] [] with
  | .ok v _ => v
  | _ => .non
theorem after_ok (n : Nat) (h : MH) : ∀ s ∈ sts, ∀ b : Bool, ∀ d ∈ dds, R (n + 3) "after" [.str s, .bl b, .str d] h = .ok (aftF s b d) h := by
  simp only [sts, dds, List.forall_mem_cons, Bool.forall_bool]
  refine ⟨?_, ?_, ?_, ?_, ?_, List.forall_mem_nil _⟩
  all_goals constructor
  all_goals refine ⟨?_, ?_, ?_, ?_, ?_, ?_, ?_, List.forall_mem_nil _⟩
  all_goals kernel_rfl
theorem takeE (n : Nat) (ds : List D) (h : MH) : R (n + 1) "_law_take" ds h = runB takeS d__law_take.N ds h := r__law_take n ds h
theorem drawE (n : Nat) (ds : List D) (h : MH) : R (n + 1) "_law_draw" ds h = runB drawS d__law_draw.N ds h := r__law_draw n ds h
theorem Str_ne {a b : String} (h : decide ((Str.ofString a) = Str.ofString b) = false) : (Str.ofString a = Str.ofString b) = False := eq_false (of_decide_eq_false h)
def textF (s : Str) (b : Bool) : Str :=
  if s = "idle" then "open * ? ? ? ? idle" else if s = "open" then "open * open * closed open open"
  else if s = "sent" then (if b then "! ! ! ! closed sent sent" else "sent closed sent closed closed sent sent")
  else if s = "heard" then (if b then "heard closed heard closed closed heard heard" else "! ! ! ! closed heard heard")
  else (if b then "! ! ! ! ! ! closed" else "! ! ! ! closed closed closed")
def rowF (s : Str) (b : Bool) : List D := (Txt.split (textF s b) " ").map .str
theorem l0 {kvs : List (Key × D)} (h : decide (kvs.length ≤ 15) = true) : (kvs.length < sizeLine) = True := eq_true (by have := of_decide_eq_true h; rw [sizeLine_eq]; omega)
theorem sne {a b : Str} (h : decide (a = b) = false) : (a = b) = False := eq_false (of_decide_eq_false h)
theorem slen {a : String} (h : decide ((Str.ofString a).length + 2 ≤ 1000) = true) : ((Str.ofString a).length + 2 ≤ sizeLine) = True := eq_true (by have := of_decide_eq_true h; rw [sizeLine_eq]; omega)
theorem snz {a : String} (h : decide ((Str.ofString a).length = 0) = false) : ((Str.ofString a).length == 0) = false := by have := of_decide_eq_false h; simpa using this
section
variable {κ : Type} [DecidableEq κ]
theorem valD_hit {p : κ × D} {r : List (κ × D)} {j : κ} (h : p.1 = j) : valD (p :: r) j = some p.2 := by unfold valD; rw [List.find?_cons_of_pos (by simpa using h)]; rfl
theorem valD_skip {p : κ × D} {r : List (κ × D)} {j : κ} (h : ¬ p.1 = j) : valD (p :: r) j = valD r j := by unfold valD; rw [List.find?_cons_of_neg (by simpa using h)]
theorem valD_mp (k j : κ) (y : D) : ∀ kvs : List (κ × D), valD (kvs.map fun kv => if kv.1 = k then (kv.1, y) else kv) j = if j = k ∧ (kvs.any fun kv => decide (kv.1 = k)) = true then some y else valD kvs j
  | [] => by simp [valD]
  | p :: r => by
    rw [List.map_cons, List.any_cons]
    by_cases h1 : p.1 = k
    · rw [if_pos h1]
      by_cases h2 : p.1 = j
      · rw [valD_hit (show (p.1, y).1 = j from h2), if_pos ⟨h2.symm.trans h1, by rw [decide_eq_true h1]; rfl⟩]
      · rw [valD_skip (show ¬ (p.1, y).1 = j from h2), valD_mp k j y r, valD_skip h2, if_neg (fun z => h2 (h1.trans z.1.symm)), if_neg (fun z => h2 (h1.trans z.1.symm))]
    · rw [if_neg h1, decide_eq_false h1, Bool.false_or]
      by_cases h2 : p.1 = j
      · rw [valD_hit h2, valD_hit h2, if_neg fun z => h1 (h2.trans z.1)]
      · rw [valD_skip h2, valD_skip h2, valD_mp k j y r]
theorem valD_sn (k j : κ) (y : D) : ∀ kvs : List (κ × D), (kvs.any fun kv => decide (kv.1 = k)) = false → valD (kvs ++ [(k, y)]) j = if j = k then some y else valD kvs j
  | [], _ => by
    by_cases h : j = k
    · rw [if_pos h, List.nil_append, valD_hit h.symm]
    · rw [if_neg h, List.nil_append, valD_skip (Ne.symm h)]
  | p :: r, hn => by
    rw [List.any_cons, Bool.or_eq_false_iff] at hn
    have h1 : ¬ p.1 = k := of_decide_eq_false hn.1
    rw [List.cons_append]
    by_cases h2 : p.1 = j
    · rw [valD_hit h2, valD_hit h2, if_neg fun z => h1 (h2.trans z)]
    · rw [valD_skip h2, valD_skip h2, valD_sn k j y r hn.2]
theorem valD_put (kvs : List (κ × D)) (k j : κ) (y : D) : valD (putD kvs k y) j = if j = k then some y else valD kvs j := by
  unfold putD
  cases hb : (kvs.any fun kv => decide (kv.1 = k)) with
  | true => rw [if_pos rfl, valD_mp, hb]; simp
  | false => rw [if_neg Bool.false_ne_true, valD_sn k j y kvs hb]
end
theorem valD_nil {κ : Type} [DecidableEq κ] {j : κ} : valD ([] : List (κ × D)) j = none := rfl
theorem split_end {h : MH} {kvs : List (Key × D)} {s T : Str} {b : Option D} (hv : valD kvs (Sum.inr s) = some (.str T)) (hT : decide (T.length + 2 ≤ 1000) = true) :
    bmE "split" (binM ixD (varM 2) (varM 0)) (argsE [cM (.str (Str.ofString " "))]) [some (.str s), b, some (.ref h.length)] (h ++ [.dic kvs]) = .ok (.ref (h.length + 1)) (h ++ [.dic kvs, .lst ((Txt.split T " ").map .str)]) := by
  have h1 : T.length + 2 ≤ sizeLine := by have := of_decide_eq_true hT; rw [sizeLine_eq]; omega
  have h2 : ((Str.ofString " ").length == 0) = false := by decide +kernel
  have h3 : bmTab "str" (Str.ofString "split") = some splitD := by kernel_rfl
  have e1 : binM ixD (varM 2) (varM 0) [some (.str s), b, some (.ref h.length)] (h ++ [.dic kvs]) = .ok (.str T) (h ++ [.dic kvs]) := by
    simp only [binM, varM, bind_ok, List.getElem?_cons_zero, List.getElem?_cons_succ, ixD, ixO, getE0, keyD, hv]
  simp only [bmE, e1, isTy, beq_self_eq_true, if_true, h3, bmM, bind_ok, argsE, consM, nilM, cM, splitD, h2, h1, and_self, List.append_assoc, List.cons_append, List.nil_append, List.length_append, List.length_cons, List.length_nil, Nat.zero_add]
theorem row_ok (n : Nat) (h : MH) : ∀ s ∈ sts, ∀ b : Bool, ∃ o, R (n + 1) "_law_row" [.str s, .bl b] h = .ok (.ref (h.length + 1)) (h ++ [o, .lst (rowF s b)]) := by
  have hN : d__law_row.N = (["_law_state", "_law_mine", "_law_rows"] : List Str) := rfl
  simp only [sts, List.forall_mem_cons, Bool.forall_bool]
  refine ⟨?_, ?_, ?_, ?_, ?_, List.forall_mem_nil _⟩
  all_goals constructor
  all_goals
    rw [r__law_row]
    unfold s__law_row
    rw [hN]
    simp (maxSteps := 3000000) (disch := decide +kernel) only [runB, resF, startD, seqS, setS, dispM, pairsM, cM, varM, bind_ok, keysD, keyD, ifS, testM, binM, compD, eqD, eqO, scalD, nxS, asgS, subG, setK, truM, truD, retS, List.map_cons, List.map_nil, List.cons_append, List.nil_append, List.append_assoc, getE0, setE0, getE, setE, List.length_cons, List.length_nil, List.length_append, List.getElem?_cons_zero, List.getElem?_cons_succ, List.set_cons_zero, List.set_cons_succ, if_true, if_false, Bool.false_eq_true, decide_true, decide_false, eq_self, Nat.zero_add, List.replicate, Nat.reduceAdd, Nat.reduceSub, Nat.reduceLeDiff, Nat.add_assoc, l0, sne]
  · rw [split_end (T := textF "idle" false) (by kernel_rfl) (by decide +kernel)]; exact ⟨_, rfl⟩
  · rw [split_end (T := textF "idle" true) (by kernel_rfl) (by decide +kernel)]; exact ⟨_, rfl⟩
  · rw [split_end (T := textF "open" false) (by kernel_rfl) (by decide +kernel)]; exact ⟨_, rfl⟩
  · rw [split_end (T := textF "open" true) (by kernel_rfl) (by decide +kernel)]; exact ⟨_, rfl⟩
  · rw [split_end (T := textF "sent" false) (by kernel_rfl) (by decide +kernel)]; exact ⟨_, rfl⟩
  · rw [split_end (T := textF "sent" true) (by kernel_rfl) (by decide +kernel)]; exact ⟨_, rfl⟩
  · rw [split_end (T := textF "heard" false) (by kernel_rfl) (by decide +kernel)]; exact ⟨_, rfl⟩
  · rw [split_end (T := textF "heard" true) (by kernel_rfl) (by decide +kernel)]; exact ⟨_, rfl⟩
  · rw [split_end (T := textF "closed" false) (by kernel_rfl) (by decide +kernel)]; exact ⟨_, rfl⟩
  · rw [split_end (T := textF "closed" true) (by kernel_rfl) (by decide +kernel)]; exact ⟨_, rfl⟩
end Law
namespace Law
open PySem L2 Mir
def ixF (d : Str) : Nat := ((dds.map D.str).findIdx? fun x => eqF x (.str d)).getD 0
theorem ix_ok : ∀ d ∈ dds, ((dds.map D.str).findIdx? fun x => eqF x (.str d)) = some (ixF d) := by
  simp only [dds, List.forall_mem_cons]
  refine ⟨?_, ?_, ?_, ?_, ?_, ?_, ?_, List.forall_mem_nil _⟩
  all_goals kernel_rfl
def wordF (s : Str) (b : Bool) (d : Str) : Str := match (rowF s b)[ixF d]? with
  | some (.str w) => w
  | _ => ""
theorem word_ok : ∀ s ∈ sts, ∀ b : Bool, ∀ d ∈ dds, atI (rowF s b) (ixF d : Nat) = some (.str (wordF s b d)) := by
  simp only [sts, dds, List.forall_mem_cons, Bool.forall_bool]
  refine ⟨?_, ?_, ?_, ?_, ?_, List.forall_mem_nil _⟩
  all_goals constructor
  all_goals refine ⟨?_, ?_, ?_, ?_, ?_, ?_, ?_, List.forall_mem_nil _⟩
  all_goals kernel_rfl
def endF (w : Str) (b : Bool) : D :=
  if w = Str.ofString "!" then .tup [.str "fault", .str "closed"] else if w = Str.ofString "?" then .tup [.str "fault", .str "order"]
  else if w = Str.ofString "*" then .str (if b then "sent" else "heard") else .str w
theorem end_ok : ∀ s ∈ sts, ∀ b : Bool, ∀ d ∈ dds, endF (wordF s b d) b = aftF s b d := by
  simp only [sts, dds, List.forall_mem_cons, Bool.forall_bool]
  refine ⟨?_, ?_, ?_, ?_, ?_, List.forall_mem_nil _⟩
  all_goals constructor
  all_goals refine ⟨?_, ?_, ?_, ?_, ?_, ?_, ?_, List.forall_mem_nil _⟩
  all_goals kernel_rfl
theorem size_ok {n : Nat} (h : decide (n ≤ 1000) = true) : (n ≤ sizeLine) = True := eq_true (by have := of_decide_eq_true h; rw [sizeLine_eq]; omega)
theorem lafter_ok (n : Nat) (h : MH) (s : Str) (hs : s ∈ sts) (b : Bool) (d : Str) (hd : d ∈ dds) : ∃ g, R (n + 2) "_law_after" [.str s, .bl b, .str d] h = .ok (endF (wordF s b d) b) (h ++ g) := by
  have hN : d__law_after.N = (["_law_state", "_law_mine", "_law_deed", "_law_deeds", "_law_word"] : List Str) := rfl
  obtain ⟨o, hrow⟩ := row_ok n (h ++ [.lst (dds.map .str)]) s hs b
  have hix := ix_ok d hd
  have hw := word_ok s hs b d hd
  have hf : (dds.map D.str).all flatD = true := rfl
  rw [r__law_after]
  unfold s__law_after runB
  have e1 : setS 3 (lstM (argsE [cM (.str (PySem.Str.ofString "head")), cM (.str (PySem.Str.ofString "last")), cM (.str (PySem.Str.ofString "data")), cM (.str (PySem.Str.ofString "end")), cM (.str (PySem.Str.ofString "reset")), cM (.str (PySem.Str.ofString "window")), cM (.str (PySem.Str.ofString "part"))])) [some (.str s), some (.bl b), some (.str d), none, none] h
      = .ok (.nx, [some (.str s), some (.bl b), some (.str d), some (.ref h.length), none]) (h ++ [.lst (dds.map .str)]) := by
    simp only [setS, lstM, argsE, consM, nilM, cM, bind_ok, List.length_cons, List.length_nil, Nat.zero_add, Nat.reduceAdd, size_ok (n := 7) rfl, if_true, List.set_cons_zero, List.set_cons_succ]
    rfl
  have e2 : setS 4 (binM ixD (callN 2 (R (n + 1) "_law_row") (argsE [varM 0, varM 1])) (bmE "index" (varM 3) (argsE [varM 2]))) [some (.str s), some (.bl b), some (.str d), some (.ref h.length), none] (h ++ [.lst (dds.map .str)])
      = .ok (.nx, [some (.str s), some (.bl b), some (.str d), some (.ref h.length), some (.str (wordF s b d))]) (h ++ [.lst (dds.map .str)] ++ [o, .lst (rowF s b)]) := by
    have h3 : bmTab "list" (Str.ofString "index") = some indexD := by kernel_rfl
    have hl : (h ++ [Ob.lst (dds.map .str)]).length = h.length + 1 := by simp
    rw [hl] at hrow
    have g0 : (h ++ [Ob.lst (dds.map D.str)] ++ [o, .lst (rowF s b)])[h.length]? = some (.lst (dds.map .str)) := by
      rw [List.append_assoc, List.cons_append, getE0]; rfl
    have g2 : (h ++ [Ob.lst (dds.map D.str)] ++ [o, .lst (rowF s b)])[h.length + 1 + 1]? = some (.lst (rowF s b)) := by
      rw [List.append_assoc, List.cons_append, Nat.add_assoc, getE]; rfl
    have q1 : callN 2 (R (n + 1) "_law_row") (argsE [varM 0, varM 1]) [some (.str s), some (.bl b), some (.str d), some (.ref h.length), none] (h ++ [.lst (dds.map .str)]) = .ok (.ref (h.length + 1 + 1)) (h ++ [.lst (dds.map .str)] ++ [o, .lst (rowF s b)]) := by
      simp only [callN, argsE, consM, nilM, varM, bind_ok, List.getElem?_cons_zero, List.getElem?_cons_succ, List.length_cons, List.length_nil, Nat.zero_add, Nat.reduceAdd, if_true, hrow]
    have q2 : bmE "index" (varM 3) (argsE [varM 2]) [some (.str s), some (.bl b), some (.str d), some (.ref h.length), none] (h ++ [.lst (dds.map .str)] ++ [o, .lst (rowF s b)]) = .ok (.int (ixF d : Nat)) (h ++ [.lst (dds.map .str)] ++ [o, .lst (rowF s b)]) := by
      simp only [bmE, varM, List.getElem?_cons_zero, List.getElem?_cons_succ, isTy, g0, h3, bmM, bind_ok, argsE, consM, nilM, indexD, seqO, hf, hix, flatD, and_self, if_true, if_false, beq_self_eq_true, String.reduceBEq, Bool.false_eq_true]
    simp only [setS, binM, q1, q2, bind_ok, ixD, ixO, g2, hw, List.set_cons_zero, List.set_cons_succ]
  show ∃ g, resF (seqS _ _ [some (.str s), some (.bl b), some (.str d), none, none] h) = _
  rw [seq_ok e1, seq_ok e2]
  generalize wordF s b d = w
  generalize hH : h ++ [Ob.lst (dds.map D.str)] ++ [o, .lst (rowF s b)] = H
  have hext : ∀ g, ∃ g', H ++ g = h ++ g' := fun g => ⟨_, by rw [← hH, List.append_assoc, List.append_assoc]⟩
  have fin0 : ∃ g', H = h ++ g' := ⟨_, by rw [← hH, List.append_assoc]⟩
  unfold endF
  by_cases w1 : w = Str.ofString "!"
  · subst w1
    obtain ⟨g', e⟩ := fin0
    refine ⟨g', ?_⟩
    simp only [seqS, ifS, testM, binM, compD, eqD, eqO, scalD, varM, cM, bind_ok, List.getElem?_cons_zero, List.getElem?_cons_succ, decide_true, if_true, retS, tupM, argsE, consM, nilM, List.length_cons, List.length_nil, Nat.zero_add, Nat.reduceAdd, size_ok (n := 2) rfl, resF, e]
  · by_cases w2 : w = Str.ofString "?"
    · subst w2
      obtain ⟨g', e⟩ := fin0
      refine ⟨g', ?_⟩
      simp only [seqS, ifS, testM, binM, compD, eqD, eqO, scalD, varM, cM, bind_ok, List.getElem?_cons_zero, List.getElem?_cons_succ, decide_true, decide_false, w1, if_true, if_false, Bool.false_eq_true, nxS, retS, tupM, argsE, consM, nilM, List.length_cons, List.length_nil, Nat.zero_add, Nat.reduceAdd, size_ok (n := 2) rfl, resF, e]
    · by_cases w3 : w = Str.ofString "*"
      · subst w3
        obtain ⟨g', e⟩ := hext [.lst [.str "heard", .str "sent"]]
        refine ⟨g', ?_⟩
        have g0 : (H ++ [Ob.lst [D.str (Str.ofString "heard"), .str (Str.ofString "sent")]])[H.length]? = some (.lst [.str "heard", .str "sent"]) := by rw [getE0]; rfl
        cases b with
        | false =>
          have at0 : atI [D.str (Str.ofString "heard"), .str (Str.ofString "sent")] (0 : Int) = some (.str "heard") := rfl
          simp only [seqS, ifS, testM, binM, compD, eqD, eqO, scalD, varM, cM, bind_ok, List.getElem?_cons_zero, List.getElem?_cons_succ, decide_true, decide_false, w1, w2, if_true, if_false, Bool.false_eq_true, nxS, retS, lstM, argsE, consM, nilM, List.length_cons, List.length_nil, Nat.zero_add, Nat.reduceAdd, size_ok (n := 2) rfl, resF, callM, tyD, ixD, ixO, g0, at0]
          rw [e]
        | true =>
          have at0 : atI [D.str (Str.ofString "heard"), .str (Str.ofString "sent")] (1 : Int) = some (.str "sent") := rfl
          simp only [seqS, ifS, testM, binM, compD, eqD, eqO, scalD, varM, cM, bind_ok, List.getElem?_cons_zero, List.getElem?_cons_succ, decide_true, decide_false, w1, w2, if_true, if_false, Bool.false_eq_true, nxS, retS, lstM, argsE, consM, nilM, List.length_cons, List.length_nil, Nat.zero_add, Nat.reduceAdd, size_ok (n := 2) rfl, resF, callM, tyD, ixD, ixO, g0, at0]
          rw [e]
      · obtain ⟨g', e⟩ := fin0
        refine ⟨g', ?_⟩
        simp only [seqS, ifS, testM, binM, compD, eqD, eqO, scalD, varM, cM, bind_ok, List.getElem?_cons_zero, List.getElem?_cons_succ, decide_false, w1, w2, w3, if_true, if_false, Bool.false_eq_true, nxS, retS, resF, e]
end Law
namespace Law
open PySem L2 Mir
theorem _root_.Mir.DrawAt.app {h g : MH} {n : Nat} (d : DrawAt h n) : DrawAt (h ++ g) n := by
  obtain ⟨m, cs, i, c, s, e1, e2, e3⟩ := d
  exact ⟨m, cs, i, c, s, getP e1, getP e2, e3⟩
theorem _root_.Mir.DrawAt.put {h : MH} {n q : Nat} {o o' : Ob} (d : DrawAt h n) (e : h[q]? = some o) (hq : ∀ ds, o ≠ .lst ds) : DrawAt (h.set q o') n := by
  obtain ⟨m, cs, i, c, s, e1, e2, e3⟩ := d
  have n1 : n ≠ q := by rintro rfl; rw [e1] at e; exact hq _ (Option.some.inj e).symm
  have n2 : m ≠ q := by rintro rfl; rw [e2] at e; exact hq _ (Option.some.inj e).symm
  exact ⟨m, cs, i, c, s, by rw [get_set_ne n1]; exact e1, by rw [get_set_ne n2]; exact e2, e3⟩
theorem _root_.Mir.DrawAt.not {h : MH} {n q : Nat} {o : Ob} (d : DrawAt h n) (e : h[q]? = some o) (hq : ∀ ds, o ≠ .lst ds) : q ≠ n := by
  obtain ⟨m, cs, i, c, s, e1, e2, e3⟩ := d
  rintro rfl; rw [e1] at e; exact hq _ (Option.some.inj e).symm
theorem tk (m : Nat) {a : Option D} {r : Ro} {h : MH} {n : Nat} {k : Int} (hd : DrawAt h n) (h0 : 0 < k) (h1 : k < 2 ^ 64) :
    Wp (callN 2 (R (m + 1) "_law_take") (argsE [varM 1, cM (.int k)]) (a :: some (.ref n) :: r) h) fun v h' => ∃ i, v = .int i ∧ 0 ≤ i ∧ i < k ∧ Drawn1 h h' n := by
  simp only [callN, argsE, consM, nilM, varM, cM, bind_ok, List.getElem?_cons_zero, List.getElem?_cons_succ, List.length_cons, List.length_nil, Nat.zero_add, Nat.reduceAdd, if_true, takeE]
  exact take_ok rfl hd h0 h1
theorem mine_ok (m : Nat) {a a2 a3 : Option D} {r : Ro} {h : MH} {n : Nat} (hd : DrawAt h n) :
    Wp (setS 3 (binM (compD .Eq) (callN 2 (R (m + 1) "_law_take") (argsE [varM 1, cM (.int 2)])) (cM (.int 1))) (a :: some (.ref n) :: a2 :: a3 :: r) h) fun x h' => x.1 = .nx ∧ ((∃ b : Bool, x.2 = a :: some (.ref n) :: a2 :: some (.bl b) :: r) ∧ Drawn1 h h' n) := by
  unfold setS binM
  rw [Wp_bind, Wp_bind]
  refine (tk m hd (by decide) (by decide)).mono fun v h' ⟨i, e, _, _, d⟩ => ?_
  subst e
  simp only [cM, bind_ok, compD, eqD, eqO, scalD, Wp_ok, List.set_cons_zero, List.set_cons_succ]
  exact ⟨trivial, ⟨_, rfl⟩, d⟩
theorem pick_ok (m : Nat) {l : List Str} {j : Nat} {a : Option D} {r : Ro} {h : MH} {n : Nat} {k : Int} (hk : k = l.length) (hd : DrawAt h n) (h0 : 0 < k) (h1 : k < 2 ^ 64) :
    Wp (setS j (binM ixD (cM (.tup (l.map .str))) (callN 2 (R (m + 1) "_law_take") (argsE [varM 1, cM (.int k)]))) (a :: some (.ref n) :: r) h) fun x h' => x.1 = .nx ∧ ((∃ s ∈ l, x.2 = (a :: some (.ref n) :: r).set j (some (.str s))) ∧ Drawn1 h h' n) := by
  unfold setS binM
  rw [Wp_bind, Wp_bind]
  change Wp (Res.bind (callN _ _ _ _ _) _) _
  rw [Wp_bind]
  refine (tk m hd h0 h1).mono fun v h' ⟨i, e, i0, i1, d⟩ => ?_
  subst e
  have hi : i.toNat < l.length := by omega
  have : atI (l.map D.str) i = some (.str l[i.toNat]) := by
    unfold atI ixN
    rw [List.length_map, if_pos i0, if_pos (by omega)]
    simp [hi]
  simp only [ixD, ixO, this, bind_ok, Wp_ok]
  exact ⟨trivial, ⟨_, List.getElem_mem hi, rfl⟩, d⟩
theorem mine_seq (m : Nat) {a a2 a3 : Option D} {r : Ro} {h : MH} {n : Nat} {B : MS} {Q : Fl × Ro → MH → Prop} (hd : DrawAt h n) (q : ∀ (b : Bool) h', Drawn1 h h' n → Wp (B (a :: some (.ref n) :: a2 :: some (.bl b) :: r) h') Q) :
    Wp (seqS (setS 3 (binM (compD .Eq) (callN 2 (R (m + 1) "_law_take") (argsE [varM 1, cM (.int 2)])) (cM (.int 1)))) B (a :: some (.ref n) :: a2 :: a3 :: r) h) Q :=
  Wp_seq (fun ρ h' => (∃ b : Bool, ρ = a :: some (.ref n) :: a2 :: some (.bl b) :: r) ∧ Drawn1 h h' n) (mine_ok m hd) fun ρ h' ⟨⟨b, e⟩, d⟩ => by subst e; exact q b h' d
theorem pick_seq (m : Nat) (l : List Str) {j : Nat} {a : Option D} {r : Ro} {h : MH} {n : Nat} {k : Int} {B : MS} {Q : Fl × Ro → MH → Prop} (hk : k = l.length) (hd : DrawAt h n) (h0 : 0 < k) (h1 : k < 2 ^ 64)
    (q : ∀ s ∈ l, ∀ h', Drawn1 h h' n → Wp (B ((a :: some (.ref n) :: r).set j (some (.str s))) h') Q) :
    Wp (seqS (setS j (binM ixD (cM (.tup (l.map .str))) (callN 2 (R (m + 1) "_law_take") (argsE [varM 1, cM (.int k)])))) B (a :: some (.ref n) :: r) h) Q :=
  Wp_seq (fun ρ h' => (∃ s ∈ l, ρ = (a :: some (.ref n) :: r).set j (some (.str s))) ∧ Drawn1 h h' n) (pick_ok m hk hd h0 h1) fun ρ h' ⟨⟨s, hs, e⟩, d⟩ => by subst e; exact q s hs h' d
theorem self_ok (h : MH) : ∀ s ∈ sts, ∀ b : Bool, ∀ d ∈ dds, eqO (aftF s b d) (aftF s b d) h = some true := by
  simp only [sts, dds, List.forall_mem_cons, Bool.forall_bool]
  refine ⟨?_, ?_, ?_, ?_, ?_, List.forall_mem_nil _⟩
  all_goals constructor
  all_goals refine ⟨?_, ?_, ?_, ?_, ?_, ?_, ?_, List.forall_mem_nil _⟩
  all_goals kernel_rfl
theorem same_ok (n : Nat) (h : MH) {s : Str} (hs : s ∈ sts) (b : Bool) {d : Str} (hd : d ∈ dds) : ∃ g, R (n + 3) "_law_after" [.str s, .bl b, .str d] h = .ok (aftF s b d) (h ++ g) := by
  obtain ⟨g, e⟩ := lafter_ok (n + 1) h s hs b d hd
  exact ⟨g, by rw [e, end_ok s hs b d hd]⟩
def inv (s : Str) (e1 e0 : Bool) : Bool := (!e1 || s == Str.ofString "sent" || s == Str.ofString "closed") && (!e0 || s == Str.ofString "heard" || s == Str.ofString "closed")
def ends (d : Str) : Bool := d == Str.ofString "last" || d == Str.ofString "end"
def stepB (s : Str) (b : Bool) (d : Str) (e1 e0 : Bool) : Bool := match aftF s b d with
  | .str s' => sts.contains s' && !(s == Str.ofString "closed" && !(s' == Str.ofString "closed")) && !((if b then e1 else e0) && (["head", "last", "data", "end"] : List Str).contains d) && inv s' (e1 || (b && ends d)) (e0 || (!b && ends d))
  | .tup _ => true
  | _ => false
theorem step_all : (sts.all fun s => dds.all fun d => [true, false].all fun b => [true, false].all fun e1 => [true, false].all fun e0 => !(inv s e1 e0) || stepB s b d e1 e0) = true := by kernel_rfl
theorem step_ok {s d : Str} {b e1 e0 : Bool} (hs : s ∈ sts) (hd : d ∈ dds) (hi : inv s e1 e0 = true) : stepB s b d e1 e0 = true := by
  have hb : ∀ b : Bool, b ∈ [true, false] := by decide
  have := List.all_eq_true.mp (List.all_eq_true.mp (List.all_eq_true.mp (List.all_eq_true.mp (List.all_eq_true.mp step_all s hs) d hd) b (hb b)) e1 (hb e1)) e0 (hb e0)
  rw [hi] at this
  simpa using this
/-- the loop's state -/
def Inv (w : D) (n q : Nat) (ρ : Ro) (h : MH) : Prop := ∃ s ∈ sts, ∃ e1 e0 : Bool, ∃ a3 a4 a6 a7, ρ = [some w, some (.ref n), some (.str s), a3, a4, some (.ref q), a6, a7] ∧ DrawAt h n ∧ h[q]? = some (.dil [(.num 1, .bl e1), (.num 0, .bl e0)]) ∧ inv s e1 e0 = true

def t1W : MS := ifS (andTs [testM (binM (compD .Eq) (varM 2) (cM (.str (PySem.Str.ofString "closed")))), testM (binM (compD .NotEq) (varM 7) (cM (.str (PySem.Str.ofString "closed"))))]) (seqS (retS (cM (.bl false)))
        nxS) nxS
def t2W : MS := ifS (andTs [truM (binM ixD (varM 5) (varM 3)), testM (binM (compD .In) (varM 4) (lstM (argsE [cM (.str (PySem.Str.ofString "head")), cM (.str (PySem.Str.ofString "last")), cM (.str (PySem.Str.ofString "data")), cM (.str (PySem.Str.ofString "end"))])))]) (seqS (retS (cM (.bl false)))
        nxS) nxS
def t3W : MS := ifS (orTs [testM (binM (compD .Eq) (varM 4) (cM (.str (PySem.Str.ofString "last")))), testM (binM (compD .Eq) (varM 4) (cM (.str (PySem.Str.ofString "end"))))]) (seqS (asgS (cM (.bl true)) (subG (varM 5) (varM 3)))
        nxS) nxS
def tailW : MS := (seqS (ifS (notT (truM (callM (bltD "isinstance") (argsE [varM 7, cM (.ty "tuple")])))) (seqS t1W (seqS t2W (seqS t3W (seqS (setS 2 (varM 7)) nxS)))) nxS)
    nxS)
def bodyW (R : Str → List D → MH → Res D) : MS :=
  (seqS (setS 3 (binM (compD .Eq) (callN 2 (R "_law_take") (argsE [varM 1, cM (.int 2)])) (cM (.int 1))))
    (seqS (setS 4 (binM ixD (cM v_DEEDS) (callN 2 (R "_law_take") (argsE [varM 1, cM (.int 7)]))))
    (seqS (setS 7 (callN 3 (R "after") (argsE [varM 2, varM 3, varM 4])))
    (seqS (ifS (testM (binM (compD .NotEq) (varM 7) (callN 3 (R "_law_after") (argsE [varM 2, varM 3, varM 4])))) (seqS (retS (cM (.bl false)))
      nxS) nxS)
    tailW))))
section
variable {a0 a1 a6 : Option D} {s s' d : Str} {b e1 e0 : Bool} {q : Nat} {h : MH}
theorem t1_ok (p : (!(s == Str.ofString "closed" && !(s' == Str.ofString "closed"))) = true) : t1W [a0, a1, some (.str s), some (.bl b), some (.str d), some (.ref q), a6, some (.str s')] h = .ok (.nx, [a0, a1, some (.str s), some (.bl b), some (.str d), some (.ref q), a6, some (.str s')]) h := by
  unfold t1W
  by_cases c1 : s = Str.ofString "closed"
  · have c2 : s' = Str.ofString "closed" := by simpa [c1] using p
    simp only [ifS, andTs, andT, testM, binM, varM, cM, bind_ok, List.getElem?_cons_zero, List.getElem?_cons_succ, compD, eqD, neD, eqO, scalD, c1, c2, decide_true, Bool.not_true, if_true, Bool.false_eq_true, if_false, nxS]
  · simp only [ifS, andTs, andT, testM, binM, varM, cM, bind_ok, List.getElem?_cons_zero, List.getElem?_cons_succ, compD, eqD, neD, eqO, scalD, c1, decide_false, Bool.false_eq_true, if_false, nxS]
theorem t2_ok (hd : d ∈ dds) (hq : h[q]? = some (.dil [(.num 1, .bl e1), (.num 0, .bl e0)])) (p : (!((if b then e1 else e0) && (["head", "last", "data", "end"] : List Str).contains d)) = true) : ∃ g, t2W [a0, a1, some (.str s), some (.bl b), some (.str d), some (.ref q), a6, some (.str s')] h = .ok (.nx, [a0, a1, some (.str s), some (.bl b), some (.str d), some (.ref q), a6, some (.str s')]) (h ++ g) := by
  unfold t2W
  have v1 : binM ixD (varM 5) (varM 3) [a0, a1, some (.str s), some (.bl b), some (.str d), some (.ref q), a6, some (.str s')] h = .ok (.bl (if b then e1 else e0)) h := by
    cases b <;> simp [binM, varM, bind_ok, ixD, ixO, hq, leafD, valD]
  generalize hx : (if b then e1 else e0) = x at v1 p
  cases x with
  | false =>
    refine ⟨[], ?_⟩
    simp only [ifS, andTs, andT, truM, v1, bind_ok, truD, Bool.false_eq_true, if_false, nxS, List.append_nil]
  | true =>
    have p' : (["head", "last", "data", "end"] : List Str).contains d = false := by simpa using p
    have p2 : ([.str (Str.ofString "head"), .str (Str.ofString "last"), .str (Str.ofString "data"), .str (Str.ofString "end")] : List D).any (fun x => eqF x (.str d)) = false := by
      revert p'
      simp only [dds, List.mem_cons, List.not_mem_nil, or_false] at hd
      rcases hd with rfl | rfl | rfl | rfl | rfl | rfl | rfl <;> first | (intro z; exact absurd z (by decide +kernel)) | (intro _; kernel_rfl)
    refine ⟨[.lst [.str "head", .str "last", .str "data", .str "end"]], ?_⟩
    have g0 : (h ++ [Ob.lst [D.str (Str.ofString "head"), .str (Str.ofString "last"), .str (Str.ofString "data"), .str (Str.ofString "end")]])[h.length]? = some (.lst [.str (Str.ofString "head"), .str (Str.ofString "last"), .str (Str.ofString "data"), .str (Str.ofString "end")]) := by rw [getE0]; rfl
    have hf : ([.str (Str.ofString "head"), .str (Str.ofString "last"), .str (Str.ofString "data"), .str (Str.ofString "end")] : List D).all flatD = true := rfl
    have hf2 : flatD (.str d) = true := rfl
    have t1 : truM (binM ixD (varM 5) (varM 3)) [a0, a1, some (.str s), some (.bl b), some (.str d), some (.ref q), a6, some (.str s')] h = .ok true h := by unfold truM; rw [v1, bind_ok]; rfl
    have t2 : testM (binM (compD .In) (varM 4) (lstM (argsE [cM (.str (PySem.Str.ofString "head")), cM (.str (PySem.Str.ofString "last")), cM (.str (PySem.Str.ofString "data")), cM (.str (PySem.Str.ofString "end"))]))) [a0, a1, some (.str s), some (.bl b), some (.str d), some (.ref q), a6, some (.str s')] h = .ok false (h ++ [.lst [.str "head", .str "last", .str "data", .str "end"]]) := by
      simp only [testM, binM, varM, cM, bind_ok, List.getElem?_cons_zero, List.getElem?_cons_succ, lstM, argsE, consM, nilM, List.length_cons, List.length_nil, Nat.zero_add, Nat.reduceAdd, size_ok (n := 4) rfl, if_true, compD, inD, inO, seqO, g0, p2, hf, hf2, and_self]
    simp only [ifS, andTs, andT, t1, t2, bind_ok, if_true, Bool.false_eq_true, if_false, nxS]
theorem t3_ok (hq : h[q]? = some (.dil [(.num 1, .bl e1), (.num 0, .bl e0)])) : t3W [a0, a1, some (.str s), some (.bl b), some (.str d), some (.ref q), a6, some (.str s')] h = .ok (.nx, [a0, a1, some (.str s), some (.bl b), some (.str d), some (.ref q), a6, some (.str s')]) (if ends d = true then h.set q (.dil [(.num 1, .bl (e1 || b)), (.num 0, .bl (e0 || !b))]) else h) := by
  have hz : 1 + 1 < sizeLine := by rw [sizeLine_eq]; decide
  have go : asgS (cM (.bl true)) (subG (varM 5) (varM 3)) [a0, a1, some (.str s), some (.bl b), some (.str d), some (.ref q), a6, some (.str s')] h = .ok (.nx, [a0, a1, some (.str s), some (.bl b), some (.str d), some (.ref q), a6, some (.str s')]) (h.set q (.dil [(.num 1, .bl (e1 || b)), (.num 0, .bl (e0 || !b))])) := by
    cases b <;> simp [asgS, subG, setK, cM, varM, bind_ok, hq, leafD, hz, putD]
  unfold t3W ends
  by_cases c1 : d = Str.ofString "last"
  · simp only [ifS, orTs, orT, testM, binM, varM, cM, bind_ok, List.getElem?_cons_zero, List.getElem?_cons_succ, compD, eqD, eqO, scalD, c1, decide_true, if_true, seqS, beq_self_eq_true, Bool.true_or]
    rw [← c1, go]; rfl
  · by_cases c2 : d = Str.ofString "end"
    · simp only [ifS, orTs, orT, testM, binM, varM, cM, bind_ok, List.getElem?_cons_zero, List.getElem?_cons_succ, compD, eqD, eqO, scalD, c1, c2, decide_true, decide_false, if_true, if_false, Bool.false_eq_true, seqS, beq_self_eq_true, Bool.or_true]
      rw [← c2, decide_eq_false c1]
      simp only [bind_ok, Bool.false_eq_true, if_false, if_true, go]; rfl
    · have n1 : (d == Str.ofString "last") = false := by simpa using c1
      have n2 : (d == Str.ofString "end") = false := by simpa using c2
      simp only [ifS, orTs, orT, testM, binM, varM, cM, bind_ok, List.getElem?_cons_zero, List.getElem?_cons_succ, compD, eqD, eqO, scalD, c1, c2, decide_false, if_false, Bool.false_eq_true, nxS, n1, n2, Bool.or_false]
end
theorem tail_ok {w : D} {n q : Nat} {s d : Str} {b e1 e0 : Bool} {a6 : Option D} {h : MH} (hs : s ∈ sts) (hd : d ∈ dds) (hD : DrawAt h n) (hq : h[q]? = some (.dil [(.num 1, .bl e1), (.num 0, .bl e0)])) (hi : inv s e1 e0 = true) :
    Wp (tailW [some w, some (.ref n), some (.str s), some (.bl b), some (.str d), some (.ref q), a6, some (aftF s b d)] h) fun x h' => x.1 = .nx ∧ Inv w n q x.2 h' := by
  have hst := step_ok (b := b) hs hd hi
  unfold stepB at hst
  unfold tailW
  cases hv : aftF s b d with
  | tup ds =>
    have k1 : kitB "tuple" "tuple" = some true := by kernel_rfl
    simp [seqS, ifS, notT, truM, callM, argsE, consM, nilM, varM, cM, bind_ok, bltD, tyN, k1, Wp_ok, nxS, truD]
    exact ⟨s, hs, e1, e0, _, _, _, _, rfl, hD, hq, hi⟩
  | str s' =>
    rw [hv] at hst
    simp only [Bool.and_eq_true] at hst
    obtain ⟨⟨⟨p1, p2⟩, p3⟩, p4⟩ := hst
    have k1 : kitB "str" "tuple" = some false := by kernel_rfl
    have c : notT (truM (callM (bltD "isinstance") (argsE [varM 7, cM (.ty "tuple")]))) [some w, some (.ref n), some (.str s), some (.bl b), some (.str d), some (.ref q), a6, some (.str s')] h = .ok true h := by
      simp [notT, truM, callM, argsE, consM, nilM, varM, cM, bind_ok, bltD, tyN, k1, truD]
    obtain ⟨g, e2⟩ := t2_ok (a0 := some w) (a1 := some (.ref n)) (a6 := a6) (s := s) (s' := s') hd hq p3
    have e3 := t3_ok (a0 := some w) (a1 := some (.ref n)) (a6 := a6) (s := s) (s' := s') (d := d) (b := b) (getP (l := g) hq)
    have k : ifS (notT (truM (callM (bltD "isinstance") (argsE [varM 7, cM (.ty "tuple")])))) (seqS t1W (seqS t2W (seqS t3W (seqS (setS 2 (varM 7)) nxS)))) nxS [some w, some (.ref n), some (.str s), some (.bl b), some (.str d), some (.ref q), a6, some (.str s')] h
       = .ok (.nx, [some w, some (.ref n), some (.str s'), some (.bl b), some (.str d), some (.ref q), a6, some (.str s')]) (if ends d = true then (h ++ g).set q (.dil [(.num 1, .bl (e1 || b)), (.num 0, .bl (e0 || !b))]) else h ++ g) := by
      unfold ifS
      rw [c, bind_ok, if_pos rfl, seq_ok (t1_ok p2), seq_ok e2, seq_ok e3]
      rfl
    rw [seq_ok k]
    refine ⟨rfl, s', by simpa using p1, (e1 || (b && ends d)), (e0 || (!b && ends d)), _, _, _, _, rfl, ?_, ?_, p4⟩
    · split
      · exact (hD.app).put (getP hq) (fun _ z => by cases z)
      · exact hD.app
    · split
      · rename_i z
        rw [get_set (getP hq), z, Bool.and_true, Bool.and_true]
      · rename_i z
        rw [Bool.eq_false_iff.mpr z, Bool.and_false, Bool.or_false, Bool.and_false, Bool.or_false]
        exact getP hq
  | _ => rw [hv] at hst; cases hst
theorem same_if (n : Nat) {w : D} {k q : Nat} {s d : Str} {b : Bool} {a6 : Option D} {h : MH} (hs : s ∈ sts) (hd : d ∈ dds) :
    ∃ g, ifS (testM (binM (compD .NotEq) (varM 7) (callN 3 (R (n + 3) "_law_after") (argsE [varM 2, varM 3, varM 4])))) (seqS (retS (cM (.bl false))) nxS) nxS [some w, some (.ref k), some (.str s), some (.bl b), some (.str d), some (.ref q), a6, some (aftF s b d)] h
      = .ok (.nx, [some w, some (.ref k), some (.str s), some (.bl b), some (.str d), some (.ref q), a6, some (aftF s b d)]) (h ++ g) := by
  obtain ⟨g, e⟩ := same_ok n h hs b hd
  refine ⟨g, ?_⟩
  simp only [ifS, testM, binM, varM, bind_ok, List.getElem?_cons_zero, List.getElem?_cons_succ, callN, argsE, consM, nilM, List.length_cons, List.length_nil, Nat.zero_add, Nat.reduceAdd, if_true, e, compD, neD, self_ok (h ++ g) s hs b d hd, Bool.not_true, Bool.false_eq_true, if_false, nxS]
theorem body_ok (n : Nat) {w : D} {k q : Nat} {i : Int} {ρ : Ro} {h : MH} (hI : Inv w k q ρ h) : Wp (bodyW (R (n + 3)) (ρ.set 6 (some (.int i))) h) fun x h' => x.1 = .nx ∧ Inv w k q x.2 h' := by
  obtain ⟨s, hs, e1, e0, a3, a4, a6, a7, rfl, hD, hq, hi⟩ := hI
  unfold bodyW
  simp only [List.set_cons_zero, List.set_cons_succ]
  refine mine_seq (n + 2) hD ?_
  intro b h1 d1
  have hq1 : h1[q]? = _ := (d1.rest q (hD.not hq fun _ z => by cases z)).trans hq
  refine pick_seq (n + 2) dds (j := 4) rfl d1.at_ (by decide) (by decide) ?_
  intro d hd h2 d2
  have hq2 : h2[q]? = _ := (d2.rest q (hD.not hq fun _ z => by cases z)).trans hq1
  simp only [List.set_cons_zero, List.set_cons_succ]
  have hD2 := d2.at_
  have e : setS 7 (callN 3 (R (n + 3) "after") (argsE [varM 2, varM 3, varM 4])) [some w, some (.ref k), some (.str s), some (.bl b), some (.str d), some (.ref q), some (.int i), a7] h2
      = .ok (.nx, [some w, some (.ref k), some (.str s), some (.bl b), some (.str d), some (.ref q), some (.int i), some (aftF s b d)]) h2 := by
    simp only [setS, varM, bind_ok, List.getElem?_cons_zero, List.getElem?_cons_succ, callN, argsE, consM, nilM, List.length_cons, List.length_nil, Nat.zero_add, Nat.reduceAdd, if_true, after_ok n h2 s hs b d hd, List.set_cons_zero, List.set_cons_succ]
  rw [seq_ok e]
  obtain ⟨g, e⟩ := same_if n (w := w) (k := k) (q := q) (a6 := some (.int i)) (h := h2) (b := b) hs hd
  rw [seq_ok e]
  exact tail_ok hs hd hD2.app (getP hq2) hi
theorem law_ok (n : Nat) (ns : List Int) (hl : ns.length ≤ 63) : Wp (R (n + 4) "law" [.wl (ns.map .int)] []) fun v _ => v = .bl true := by
  rw [r_law]
  unfold runB s_law
  rw [Wp_resF]
  simp only [startD, show d_law.N = (["_law_script", "_law_draw_here", "_law_state", "_law_mine", "_law_deed", "_law_ended", "_law_turn", "_law_behind"] : List Str) from rfl, List.map_cons, List.map_nil, List.length_cons, List.length_nil, List.replicate, List.cons_append, List.nil_append, Nat.zero_add, Nat.reduceAdd, Nat.reduceSub]
  refine Wp_seq (fun ρ h => ∃ k, ρ = [some (.wl (ns.map .int)), some (.ref k), none, none, none, none, none, none] ∧ DrawAt h k) ?_ ?_
  · simp only [setS, callN, argsE, consM, nilM, varM, bind_ok, List.getElem?_cons_zero, List.length_cons, List.length_nil, Nat.zero_add, if_true, drawE, Wp_bind]
    refine (draw_ok rfl hl).mono fun v h' ⟨k, e, d⟩ => ?_
    subst e
    exact ⟨rfl, k, rfl, d⟩
  rintro ρ h ⟨k, rfl, hD⟩
  have n1 : ∀ ρ, ifS (testM (binM (compD .NotEq) (cM v_STATES) (tupM (argsE [cM (.str (PySem.Str.ofString "idle")), cM (.str (PySem.Str.ofString "open")), cM (.str (PySem.Str.ofString "sent")), cM (.str (PySem.Str.ofString "heard")), cM (.str (PySem.Str.ofString "closed"))])))) (seqS (retS (cM (.bl false)))
    nxS) nxS ρ h = .ok (.nx, ρ) h := fun ρ => by
    have q : eqO v_STATES (.tup [.str (PySem.Str.ofString "idle"), .str (PySem.Str.ofString "open"), .str (PySem.Str.ofString "sent"), .str (PySem.Str.ofString "heard"), .str (PySem.Str.ofString "closed")]) h = some true := by kernel_rfl
    simp only [ifS, testM, binM, cM, bind_ok, tupM, argsE, consM, nilM, List.length_cons, List.length_nil, Nat.zero_add, Nat.reduceAdd, size_ok (n := 5) rfl, if_true, compD, neD, q, Bool.not_true, Bool.false_eq_true, if_false, nxS]
  have n2 : ∀ ρ, ifS (testM (binM (compD .NotEq) (cM v_DEEDS) (tupM (argsE [cM (.str (PySem.Str.ofString "head")), cM (.str (PySem.Str.ofString "last")), cM (.str (PySem.Str.ofString "data")), cM (.str (PySem.Str.ofString "end")), cM (.str (PySem.Str.ofString "reset")), cM (.str (PySem.Str.ofString "window")), cM (.str (PySem.Str.ofString "part"))])))) (seqS (retS (cM (.bl false)))
    nxS) nxS ρ h = .ok (.nx, ρ) h := fun ρ => by
    have q : eqO v_DEEDS (.tup [.str (PySem.Str.ofString "head"), .str (PySem.Str.ofString "last"), .str (PySem.Str.ofString "data"), .str (PySem.Str.ofString "end"), .str (PySem.Str.ofString "reset"), .str (PySem.Str.ofString "window"), .str (PySem.Str.ofString "part")]) h = some true := by kernel_rfl
    simp only [ifS, testM, binM, cM, bind_ok, tupM, argsE, consM, nilM, List.length_cons, List.length_nil, Nat.zero_add, Nat.reduceAdd, size_ok (n := 7) rfl, if_true, compD, neD, q, Bool.not_true, Bool.false_eq_true, if_false, nxS]
  rw [seq_ok (n1 _), seq_ok (n2 _)]
  refine pick_seq (n + 2) sts (j := 2) rfl hD (by decide) (by decide) ?_
  intro s hs h1 d1
  simp only [List.set_cons_zero, List.set_cons_succ]
  refine mine_seq (n + 2) d1.at_ ?_
  intro b h2 d2
  refine pick_seq (n + 2) dds (j := 4) rfl d2.at_ (by decide) (by decide) ?_
  intro d hd h3 d3
  simp only [List.set_cons_zero, List.set_cons_succ]
  have hD3 := d3.at_
  obtain ⟨g, e⟩ := same_ok n h3 hs b hd
  have n3 : ∀ a0 a1 r, ifS (testM (binM (compD .NotEq) (callN 3 (R (n + 3) "after") (argsE [varM 2, varM 3, varM 4])) (callN 3 (R (n + 3) "_law_after") (argsE [varM 2, varM 3, varM 4])))) (seqS (retS (cM (.bl false))) nxS) nxS (a0 :: a1 :: some (.str s) :: some (.bl b) :: some (.str d) :: r) h3
      = .ok (.nx, (a0 :: a1 :: some (.str s) :: some (.bl b) :: some (.str d) :: r)) (h3 ++ g) := fun a0 a1 r => by
    simp only [ifS, testM, binM, varM, bind_ok, List.getElem?_cons_zero, List.getElem?_cons_succ, callN, argsE, consM, nilM, List.length_cons, List.length_nil, Nat.zero_add, Nat.reduceAdd, if_true, e, after_ok n h3 s hs b d hd, compD, neD, self_ok (h3 ++ g) s hs b d hd, Bool.not_true, Bool.false_eq_true, if_false, nxS]
  rw [seq_ok (n3 _ _ _)]
  rw [seq_ok (show setS 2 (cM (.str (PySem.Str.ofString "idle"))) _ _ = .ok _ _ from rfl)]
  simp only [List.set_cons_zero, List.set_cons_succ]
  have n4 : ∀ a0 a1 a2 a3 a4 a5 r, setS 5 (dispL [(cM (.bl true), cM (.bl false)), (cM (.bl false), cM (.bl false))]) (a0 :: a1 :: a2 :: a3 :: a4 :: a5 :: r) (h3 ++ g) = .ok (.nx, a0 :: a1 :: a2 :: a3 :: a4 :: some (.ref (h3 ++ g).length) :: r) (h3 ++ g ++ [.dil [(.num 1, .bl false), (.num 0, .bl false)]]) := fun a0 a1 a2 a3 a4 a5 r => by
    generalize h3 ++ g = H
    have k : keysD leafD [(D.bl true, D.bl false), (.bl false, .bl false)] = some [(.num 1, .bl false), (.num 0, .bl false)] := rfl
    have m : mergeD [] [(Leaf.num 1, D.bl false), (.num 0, .bl false)] = [(.num 1, .bl false), (.num 0, .bl false)] := by kernel_rfl
    simp only [setS, dispL, pairsM, cM, bind_ok, k, List.length_cons, List.length_nil, Nat.zero_add, Nat.reduceAdd, Nat.reduceLeDiff, if_true, getE0, List.getElem?_cons_zero, m, setE0, List.set_cons_zero, List.set_cons_succ]
  rw [seq_ok (n4 _ _ _ _ _ _ _)]
  generalize hH : h3 ++ g = H
  have hDH : DrawAt H k := by rw [← hH]; exact hD3.app
  have hDH' : DrawAt (H ++ [.dil [(.num 1, .bl false), (.num 0, .bl false)]]) k := hDH.app
  refine Wp_seq (fun _ _ => True) ?_ ?_
  · unfold forS rangeI1
    rw [Wp_bind, Wp_bind]
    simp only [argsE, consM, nilM, Wp_bind]
    refine (tk (n + 2) hDH' (by decide) (by decide)).mono fun v h' ⟨i, e, i0, i1, d⟩ => ?_
    subst e
    simp only [bind_ok, Wp_ok]
    have hb : bnd62 i = true := by unfold bnd62; rw [decide_eq_true (by omega), decide_eq_true (by omega)]; rfl
    rw [if_pos hb]
    simp only [Wp_ok]
    have hq0 : (H ++ [Ob.dil [(.num 1, .bl false), (.num 0, .bl false)]])[H.length]? = some (.dil [(.num 1, .bl false), (.num 0, .bl false)]) := by rw [getE0]; rfl
    refine forL_wp (fun _ ρ h => Inv (.wl (ns.map .int)) k H.length ρ h) ?_ ?_ ?_
    · exact ⟨"idle", List.mem_cons_self, false, false, _, _, _, _, rfl, d.at_, (d.rest _ (hDH'.not hq0 fun _ z => by cases z)).trans hq0, rfl⟩
    · intro j ρ h x hx hI
      refine ⟨rfl, ?_⟩
      unfold Mir.intsFrom at hx
      rw [List.getElem?_map] at hx
      obtain ⟨z, hz, rfl⟩ := Option.map_eq_some_iff.mp hx
      simp only [nameG, Wp_ok]
      refine (body_ok n hI).mono fun x h' ⟨e1, e2⟩ => ?_
      obtain ⟨f, ρ'⟩ := x
      simp only at e1
      subst e1
      exact e2
    · intro ρ h _
      exact ⟨rfl, rfl, trivial⟩
  · intro ρ' h' _
    simp only [seqS, retS, cM, bind_ok, Wp_ok]
end Law
namespace Law
open PySem L2 Mir
theorem main : ∀ ns : List Int, ns.length ≤ 63 → ∃ h', runsOf (glOf glL) defs 4 "law" [.wl (ns.map .int)] [] = .ok (.bl true) h' := fun ns hl => by
  obtain ⟨v, h', e, q⟩ := (law_ok 0 ns hl).ex
  exact ⟨h', e.trans (by rw [q])⟩
end Law
theorem PySem.Challenge.cw_ownanswer_k31_states_of_a_stream_holds : PySem.Challenge.rw_ownanswer_k31_states_of_a_stream.Holds := by
  w_on; o_law; k_head; (case hw => w_witness2)
  k_fill
  refine Mir.walk_m (l := PySem.Challenge.rw_ownanswer_k31_states_of_a_stream) 4 rfl rfl ⟨rfl, by decide, by decide⟩ Law.glL Law.defs Law.d_law rfl (List.mem_of_getElem? (i := 6) rfl) (by kernel_rfl) rfl "_law_script" rfl (fun w h Y => PySem.W.kIn_of Y) ?F Law.main
  case F =>
    intro w mg h KX G
    refine Mir.tab_mk ?D ?V ?B
    case D =>
      refine List.forall_mem_cons.mpr ⟨?_, ?_⟩
      · refine' Mir.df_mk KX G Law.d_ending ?a ?l ?c ?k Law.sc_ending (fun _ _ _ _ _ _ us hl => match us, hl with | [_], _ => rfl)
        (case a => k_is); (case l => k_is); (case c => k_is); (case k => k_is)
      refine List.forall_mem_cons.mpr ⟨?_, ?_⟩
      · refine' Mir.df_mk KX G Law.d_after ?a ?l ?c ?k Law.sc_after (fun _ _ _ _ _ _ us hl => match us, hl with | [_, _, _], _ => rfl)
        (case a => k_is); (case l => k_is); (case c => k_is); (case k => k_is)
      refine List.forall_mem_cons.mpr ⟨?_, ?_⟩
      · refine' Mir.df_mk KX G Law.d__law_draw ?a ?l ?c ?k Law.sc__law_draw (fun _ _ _ _ _ _ us hl => match us, hl with | [_], _ => rfl)
        (case a => k_is); (case l => k_is); (case c => k_is); (case k => k_is)
      refine List.forall_mem_cons.mpr ⟨?_, ?_⟩
      · refine' Mir.df_mk KX G Law.d__law_take ?a ?l ?c ?k Law.sc__law_take (fun _ _ _ _ _ _ us hl => match us, hl with | [_, _], _ => rfl)
        (case a => k_is); (case l => k_is); (case c => k_is); (case k => k_is)
      refine List.forall_mem_cons.mpr ⟨?_, ?_⟩
      · refine' Mir.df_mk KX G Law.d__law_row ?a ?l ?c ?k Law.sc__law_row (fun _ _ _ _ _ _ us hl => match us, hl with | [_, _], _ => rfl)
        (case a => k_is); (case l => k_is); (case c => k_is); (case k => k_is)
      refine List.forall_mem_cons.mpr ⟨?_, ?_⟩
      · refine' Mir.df_mk KX G Law.d__law_after ?a ?l ?c ?k Law.sc__law_after (fun _ _ _ _ _ _ us hl => match us, hl with | [_, _, _], _ => rfl)
        (case a => k_is); (case l => k_is); (case c => k_is); (case k => k_is)
      refine List.forall_mem_cons.mpr ⟨?_, ?_⟩
      · refine' Mir.df_mk KX G Law.d_law ?a ?l ?c ?k Law.sc_law (fun _ _ _ _ _ _ us hl => match us, hl with | [_], _ => rfl)
        (case a => k_is); (case l => k_is); (case c => k_is); (case k => k_is)
      exact List.forall_mem_nil _
    case V =>
      refine List.forall_mem_cons.mpr ⟨?_, ?_⟩
      · refine' Mir.v_w KX G ?va_STATES ?vq_STATES
        (case va_STATES => k_is)
        refine' Mir.WV.tup ?wl1 ?wz1 ?ww1
        (case wl1 => k_is)
        (case wz1 => rw [PySem.sizeLine_eq]; decide)
        (case ww1 => exact (.cons (.str _ _) (.cons (.str _ _) (.cons (.str _ _) (.cons (.str _ _) (.cons (.str _ _) .nil))))))
      refine List.forall_mem_cons.mpr ⟨?_, ?_⟩
      · refine' Mir.v_w KX G ?va_DEEDS ?vq_DEEDS
        (case va_DEEDS => k_is)
        refine' Mir.WV.tup ?wl2 ?wz2 ?ww2
        (case wl2 => k_is)
        (case wz2 => rw [PySem.sizeLine_eq]; decide)
        (case ww2 => exact (.cons (.str _ _) (.cons (.str _ _) (.cons (.str _ _) (.cons (.str _ _) (.cons (.str _ _) (.cons (.str _ _) (.cons (.str _ _) .nil))))))))
      refine List.forall_mem_cons.mpr ⟨by kernel_rfl, ?_⟩
      refine List.forall_mem_cons.mpr ⟨by kernel_rfl, ?_⟩
      refine List.forall_mem_cons.mpr ⟨by kernel_rfl, ?_⟩
      refine List.forall_mem_cons.mpr ⟨by kernel_rfl, ?_⟩
      refine List.forall_mem_cons.mpr ⟨by kernel_rfl, ?_⟩
      refine List.forall_mem_cons.mpr ⟨by kernel_rfl, ?_⟩
      refine List.forall_mem_cons.mpr ⟨by kernel_rfl, ?_⟩
      exact List.forall_mem_nil _
    case B =>
      refine fun x hx _ => ?_
      simp only [Mir.bltAll, Mir.bltNames, Mir.tyNames, List.map_cons, List.map_nil, List.cons_append, List.nil_append, List.mem_cons, List.not_mem_nil, or_false] at hx
      rcases hx with rfl | rfl | rfl | rfl | rfl | rfl | rfl | rfl | rfl | rfl | rfl | rfl
      all_goals exact PySem.W.mg_none_of KX G (by k_is)
