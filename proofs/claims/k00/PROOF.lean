import PyProof.Rows.All
import Wide.All
import OpenK.AllK
import Wide.FinOn
import HandS.ForMost
import KE.KDictCopyH
import HandS.TupAny
import HandS.WideBits
import HandS.IsInst
import HandS.StrMore
import PyProof.ReprRoads
import PyProof.P3Eq
import PyProof.StrLawsIn
import HandS.Codes
import PySem.Challenge.RW_ownanswer_k00_octets_and_texts
set_option Elab.async false
set_option linter.all false
set_option maxRecDepth 100000
set_option maxHeartbeats 4000000
namespace Mir
open PySem PySem.Spec L2

/-! ### values, objects, results -/
inductive D where
  | non | bl (b : Bool) | int (i : Int) | str (x : Str) | tup (ds : List D) | ref (n : Nat) | ty (n : String) | wl (ds : List D)
instance : Inhabited D := ⟨.non⟩
inductive Ob where
  | lst (ds : List D)
  | dic (kvs : List (Key × D))
  | dit (kvs : List (List Key × D))
  | dil (kvs : List (Leaf × D))
  | ins (C : Str) (fs : List (Str × D))
instance : Inhabited Ob := ⟨.lst []⟩
abbrev MH := List Ob
inductive Res (α : Type) where
  | ok (a : α) (h : MH)
  | ex (c : Str) (fs : List (Str × D)) (h : MH)
  | no
def Res.bind {α β : Type} (r : Res α) (f : α → MH → Res β) : Res β := match r with
  | .ok a h => f a h
  | .ex c fs h => .ex c fs h
  | .no => .no
abbrev Ro := List (Option D)
abbrev ME := Ro → MH → Res D
abbrev MT := Ro → MH → Res Bool
abbrev MA := Ro → MH → Res (List D)
inductive Fl where
  | nx | bk | ct | rt (d : D)
abbrev MS := Ro → MH → Res (Fl × Ro)

/-! ### how they lie in the heap -/
/-- a list that is read, never written: the script, a list of the module -/
def RoL (K : PySem.W.Frag) (H : Hp) (a : Addr) (xs : List V) : Prop :=
  (∃ o, H a = some (.frz o (.lst xs))) ∨
    ∃ (o : Obj) (its : Array Value) (n : Nat), K.lookup a = some o ∧ o.cls = .type "list" ∧ o.dict = none ∧ o.data = .seq its n ∧ its.size ≤ sizeLine ∧ Vals xs its.toList
theorem RoL.sq {K : PySem.W.Frag} {H : Hp} {a : Addr} {xs : List V} (h : RoL K H a xs) : SqL K H a xs := h.elim (fun ⟨o, e⟩ => .inl (.inr ⟨o, e⟩)) .inr
mutual
inductive Rep (K : PySem.W.Frag) (H : Hp) (ι : List Addr) : D → V → Prop
  | non : Rep K H ι .non .non
  | bl (b : Bool) : Rep K H ι (.bl b) (.bl b)
  | int (i : Int) : Rep K H ι (.int i) (.int i)
  | str (x : Str) : Rep K H ι (.str x) (.str x)
  | tup {a : Addr} {xs : List V} {ds : List D} : SqT K H a xs → Reps K H ι ds xs → Rep K H ι (.tup ds) (.ref a)
  | ref {n : Nat} {a : Addr} : ι[n]? = some a → Rep K H ι (.ref n) (.ref a)
  | ty (n : String) : Rep K H ι (.ty n) (.ty n)
  | wl {a : Addr} {xs : List V} {ds : List D} : RoL K H a xs → Reps K H ι ds xs → Rep K H ι (.wl ds) (.ref a)
inductive Reps (K : PySem.W.Frag) (H : Hp) (ι : List Addr) : List D → List V → Prop
  | nil : Reps K H ι [] []
  | cons {d : D} {v : V} {ds : List D} {vs : List V} : Rep K H ι d v → Reps K H ι ds vs → Reps K H ι (d :: ds) (v :: vs)
end
structure Ext (ι : List Addr) (H : Hp) (ι' : List Addr) (H' : Hp) : Prop where
  pre : ∃ l, ι' = ι ++ l
  tup : ∀ a xs, H a = some (.tup xs) → H' a = some (.tup xs)
  frz : ∀ a o u, H a = some (.frz o u) → H' a = some (.frz o u)
section
variable {K : PySem.W.Frag} {H H' H'' : Hp} {ι ι' ι'' : List Addr}
theorem Ext.refl : Ext ι H ι H := ⟨⟨[], by simp⟩, fun _ _ h => h, fun _ _ _ h => h⟩
theorem Ext.trans (a : Ext ι H ι' H') (b : Ext ι' H' ι'' H'') : Ext ι H ι'' H'' := by
  obtain ⟨l, rfl⟩ := a.pre
  obtain ⟨m, rfl⟩ := b.pre
  exact ⟨⟨l ++ m, by simp⟩, fun x xs h => b.tup x xs (a.tup x xs h), fun x o u h => b.frz x o u (a.frz x o u h)⟩
theorem Ext.get (e : Ext ι H ι' H') {n : Nat} {a : Addr} (h : ι[n]? = some a) : ι'[n]? = some a := by
  obtain ⟨l, rfl⟩ := e.pre
  rw [List.getElem?_append_left (List.getElem?_eq_some_iff.mp h).1]; exact h
theorem Ext.sqt (e : Ext ι H ι' H') {a : Addr} {xs : List V} (h : SqT K H a xs) : SqT K H' a xs := by
  rcases h with (h | ⟨o, h⟩) | h
  · exact .inl (.inl (e.tup _ _ h))
  · exact .inl (.inr ⟨o, e.frz _ _ _ h⟩)
  · exact .inr h
theorem Ext.rol (e : Ext ι H ι' H') {a : Addr} {xs : List V} (h : RoL K H a xs) : RoL K H' a xs := h.elim (fun ⟨o, q⟩ => .inl ⟨o, e.frz _ _ _ q⟩) .inr
mutual
theorem Rep.mono (e : Ext ι H ι' H') : ∀ {d : D} {v : V}, Rep K H ι d v → Rep K H' ι' d v
  | _, _, .non => .non
  | _, _, .bl b => .bl b
  | _, _, .int b => .int b
  | _, _, .str b => .str b
  | _, _, .tup s r => .tup (e.sqt s) (Reps.mono e r)
  | _, _, .ref h => .ref (e.get h)
  | _, _, .ty n => .ty n
  | _, _, .wl s r => .wl (e.rol s) (Reps.mono e r)
theorem Reps.mono (e : Ext ι H ι' H') : ∀ {d : List D} {v : List V}, Reps K H ι d v → Reps K H' ι' d v
  | _, _, .nil => .nil
  | _, _, .cons r t => .cons (Rep.mono e r) (Reps.mono e t)
end
theorem Reps.length : ∀ {ds : List D} {vs : List V}, Reps K H ι ds vs → ds.length = vs.length
  | _, _, .nil => rfl
  | _, _, .cons _ t => congrArg (· + 1) (Reps.length t)
theorem Reps.get : ∀ {ds : List D} {vs : List V} {i : Nat} {d : D}, Reps K H ι ds vs → ds[i]? = some d → ∃ v, vs[i]? = some v ∧ Rep K H ι d v
  | _, _, _, _, .nil, e => by simp at e
  | _, _, 0, _, .cons r _, e => by simp at e; subst e; exact ⟨_, rfl, r⟩
  | _, _, i + 1, x, .cons _ t, e => by
    obtain ⟨u, h1, h2⟩ := Reps.get (i := i) t (by simpa using e)
    exact ⟨u, by simpa using h1, h2⟩
theorem Reps.getV : ∀ {ds : List D} {vs : List V} {i : Nat} {v : V}, Reps K H ι ds vs → vs[i]? = some v → ∃ d, ds[i]? = some d ∧ Rep K H ι d v
  | _, _, _, _, .nil, e => by simp at e
  | _, _, 0, _, .cons r _, e => by simp at e; subst e; exact ⟨_, rfl, r⟩
  | _, _, i + 1, x, .cons _ t, e => by
    obtain ⟨u, h1, h2⟩ := Reps.getV (i := i) t (by simpa using e)
    exact ⟨u, by simpa using h1, h2⟩
theorem Reps.append : ∀ {ds es : List D} {vs us : List V}, Reps K H ι ds vs → Reps K H ι es us → Reps K H ι (ds ++ es) (vs ++ us)
  | _, _, _, _, .nil, s => s
  | _, _, _, _, .cons r t, s => .cons r (Reps.append t s)
theorem Reps.set {d : D} {v : V} (r : Rep K H ι d v) : ∀ {ds : List D} {vs : List V} (i : Nat), Reps K H ι ds vs → Reps K H ι (ds.set i d) (vs.set i v)
  | _, _, _, .nil => .nil
  | _, _, 0, .cons _ t => .cons r t
  | _, _, i + 1, .cons q t => .cons q (Reps.set r i t)
theorem Reps.take : ∀ {ds : List D} {vs : List V} (n : Nat), Reps K H ι ds vs → Reps K H ι (ds.take n) (vs.take n)
  | _, _, 0, _ => .nil
  | _, _, _ + 1, .nil => .nil
  | _, _, n + 1, .cons r t => .cons r (Reps.take n t)
theorem Reps.drop : ∀ {ds : List D} {vs : List V} (n : Nat), Reps K H ι ds vs → Reps K H ι (ds.drop n) (vs.drop n)
  | _, _, 0, r => r
  | _, _, _ + 1, .nil => .nil
  | _, _, n + 1, .cons _ t => Reps.drop n t
end

structure Clm where
  c : Str → Option Addr
  P : Program
  w : World
/-- a dict with keys of any flat sort -/
def BD (P : Program) (w : World) (a : Addr) (vs : List (Leaf × V)) (h : Heap) : Prop :=
  vs.length ≤ sizeLine ∧ (a == sysModules) = false ∧ ∃ us, KV vs us ∧ h.DictOf (leafKind P w) a us
def bO (P : Program) (w : World) (a : Addr) (vs : List (Leaf × V)) : HO := .ext (BD P w a vs)
abbrev Prs (K : PySem.W.Frag) (H : Hp) (ι : List Addr) {κ : Type} : List (κ × D) → List (κ × V) → Prop := Paired fun p q => p.1 = q.1 ∧ Rep K H ι p.2 q.2
theorem Prs.mono {K : PySem.W.Frag} {H H' : Hp} {ι ι' : List Addr} (e : Ext ι H ι' H') {κ : Type} : ∀ {xs : List (κ × D)} {ys : List (κ × V)}, Prs K H ι xs ys → Prs K H' ι' xs ys
  | _, _, .nil => .nil
  | _, _, .cons r t => .cons ⟨r.1, r.2.mono e⟩ (Prs.mono e t)
section
variable (K : PySem.W.Frag) (cl : Clm)
def ObR (H : Hp) (ι : List Addr) (a : Addr) : Ob → Prop
  | .lst ds => ∃ xs, H a = some (.lst xs) ∧ Reps K H ι ds xs
  | .dic kvs => ∃ vs, H a = some (.dK vs) ∧ Prs K H ι kvs vs
  | .dit kvs => ∃ vs, H a = some (.dT vs) ∧ Prs K H ι kvs vs
  | .dil kvs => ∃ vs, H a = some (bO cl.P cl.w a vs) ∧ Prs K H ι kvs vs
  | .ins C fs => ∃ Ca dx vs, cl.c C = some Ca ∧ H a = some (.ins Ca dx vs) ∧ Prs K H ι fs vs
structure HR (H : Hp) (ι : List Addr) (mh : MH) : Prop where
  len : ι.length = mh.length
  nd : ι.Nodup
  ob : ∀ (n : Nat) (a : Addr) (o : Ob), ι[n]? = some a → mh[n]? = some o → ObR K cl H ι a o
def SR (H : Hp) (ι : List Addr) (ρ : Ro) (σ : St) : Prop := ρ.length = σ.length ∧ ∀ (i : Nat) (d : D), ρ[i]? = some (some d) → ∃ v, σ[i]? = some (some v) ∧ Rep K H ι d v
end
section
variable {K : PySem.W.Frag} {cl : Clm} {H H' : Hp} {ι ι' : List Addr} {mh mh' : MH} {a p : Addr} {o : Ob} {ρ : Ro} {σ : St}
theorem SR.mono (e : Ext ι H ι' H') (h : SR K H ι ρ σ) : SR K H' ι' ρ σ := ⟨h.1, fun i d hd => let ⟨v, q, r⟩ := h.2 i d hd; ⟨v, q, r.mono e⟩⟩
theorem SR.set {d : D} {v : V} (r : Rep K H ι d v) (h : SR K H ι ρ σ) (i : Nat) : SR K H ι (ρ.set i (some d)) (σ.set i (some v)) := by
  refine ⟨by simp [h.1], fun j e he => ?_⟩
  rw [List.getElem?_set] at he ⊢
  by_cases hj : i = j
  · subst hj
    rw [if_pos rfl] at he ⊢
    by_cases hl : i < ρ.length
    · rw [if_pos hl] at he; rw [if_pos (h.1 ▸ hl)]; cases he; exact ⟨v, rfl, r⟩
    · rw [if_neg hl] at he; cases he
  · rw [if_neg hj] at he ⊢; exact h.2 j e he
theorem ObR.mono (e : Ext ι H ι' H') (hk : ∀ u, H a = some u → H' a = some u) (h : ObR K cl H ι a o) : ObR K cl H' ι' a o := by
  cases o with
  | lst ds => obtain ⟨xs, h1, h2⟩ := h; exact ⟨xs, hk _ h1, h2.mono e⟩
  | dic ds => obtain ⟨xs, h1, h2⟩ := h; exact ⟨xs, hk _ h1, h2.mono e⟩
  | dit ds => obtain ⟨xs, h1, h2⟩ := h; exact ⟨xs, hk _ h1, h2.mono e⟩
  | dil ds => obtain ⟨xs, h1, h2⟩ := h; exact ⟨xs, hk _ h1, h2.mono e⟩
  | ins C fs => obtain ⟨Ca, dx, xs, h0, h1, h2⟩ := h; exact ⟨Ca, dx, xs, h0, hk _ h1, h2.mono e⟩
theorem ObR.live (h : ObR K cl H ι a o) : ∃ u, H a = some u ∧ ∀ xs, u ≠ .tup xs := by
  cases o with
  | lst ds => obtain ⟨xs, h1, h2⟩ := h; exact ⟨_, h1, fun _ z => nomatch z⟩
  | dic ds => obtain ⟨xs, h1, h2⟩ := h; exact ⟨_, h1, fun _ z => nomatch z⟩
  | dit ds => obtain ⟨xs, h1, h2⟩ := h; exact ⟨_, h1, fun _ z => nomatch z⟩
  | dil ds => obtain ⟨xs, h1, h2⟩ := h; exact ⟨_, h1, fun _ z => nomatch z⟩
  | ins C fs => obtain ⟨Ca, dx, xs, h0, h1, h2⟩ := h; exact ⟨_, h1, fun _ z => nomatch z⟩
theorem HR.at (h : HR K cl H ι mh) {n : Nat} (e : mh[n]? = some o) : ∃ a, ι[n]? = some a ∧ ObR K cl H ι a o := by
  have hl : n < ι.length := by rw [h.len]; exact (List.getElem?_eq_some_iff.mp e).1
  exact ⟨ι[n], List.getElem?_eq_getElem hl, h.ob n _ o (List.getElem?_eq_getElem hl) e⟩
theorem HR.live (h : HR K cl H ι mh) {n : Nat} (e : ι[n]? = some a) : ∃ u, H a = some u ∧ ∀ xs, u ≠ .tup xs := by
  have hl : n < mh.length := by rw [← h.len]; exact (List.getElem?_eq_some_iff.mp e).1
  exact (h.ob n a _ e (List.getElem?_eq_getElem hl)).live
theorem HR.fresh (h : HR K cl H ι mh) (hp : H p = none) : p ∉ ι := fun hm => by
  obtain ⟨n, hn⟩ := List.getElem?_of_mem hm
  obtain ⟨u, hu, _⟩ := h.live hn
  rw [hp] at hu; cases hu
theorem Ext.new {u : HO} (hp : H p = none) (l : List Addr) : Ext ι H (ι ++ l) (upd H p u) :=
  ⟨⟨l, rfl⟩, fun b xs h => by rw [upd_ne (ne_of_none h hp)]; exact h, fun b ob xs h => by rw [upd_ne (ne_of_none h hp)]; exact h⟩
theorem Ext.new0 {u : HO} (hp : H p = none) : Ext ι H ι (upd H p u) := by
  have := Ext.new (ι := ι) (u := u) hp []
  rwa [List.append_nil] at this
/-- a new object that the mirror's heap does not hold -/
theorem HR.side {u : HO} (h : HR K cl H ι mh) (hp : H p = none) : HR K cl (upd H p u) ι mh :=
  ⟨h.len, h.nd, fun n a o h1 h2 => (h.ob n a o h1 h2).mono (Ext.new0 hp) fun w hw => by rw [upd_ne (ne_of_none hw hp)]; exact hw⟩
/-- a new object that it holds -/
theorem HR.new {u : HO} (h : HR K cl H ι mh) (hp : H p = none) (ho : ObR K cl (upd H p u) (ι ++ [p]) p o) : HR K cl (upd H p u) (ι ++ [p]) (mh ++ [o]) := by
  refine ⟨by simp [h.len], ?_, fun n a ob h1 h2 => ?_⟩
  · rw [List.nodup_append]
    exact ⟨h.nd, by simp, fun x hx y hy z => by rw [List.mem_singleton] at hy; subst z; subst hy; exact h.fresh hp hx⟩
  · by_cases hn : n < ι.length
    · rw [List.getElem?_append_left hn] at h1
      rw [List.getElem?_append_left (by rw [← h.len]; exact hn)] at h2
      exact (h.ob n a ob h1 h2).mono (Ext.new hp [p]) fun w hw => by rw [upd_ne (ne_of_none hw hp)]; exact hw
    · have e : n = ι.length := by
        have := (List.getElem?_eq_some_iff.mp h1).1
        simp only [List.length_append, List.length_cons, List.length_nil] at this
        omega
      subst e
      simp at h1
      rw [h.len] at h2
      simp at h2
      subst h1; subst h2
      exact ho
theorem Ext.set {u w : HO} (hu : H a = some w) (h1 : ∀ xs, w ≠ .tup xs) (h2 : ∀ ob xs, w ≠ .frz ob xs) : Ext ι H ι (upd H a u) :=
  ⟨⟨[], by simp⟩, fun b xs h => by
    by_cases hb : b = a
    · subst hb; rw [hu] at h; cases h; exact absurd rfl (h1 xs)
    · rw [upd_ne hb]; exact h, fun b ob xs h => by
    by_cases hb : b = a
    · subst hb; rw [hu] at h; cases h; exact absurd rfl (h2 ob xs)
    · rw [upd_ne hb]; exact h⟩
/-- an object that it holds is changed -/
theorem HR.set {u : HO} {n : Nat} (h : HR K cl H ι mh) (hn : ι[n]? = some a) (e : Ext ι H ι (upd H a u)) (ho : ObR K cl (upd H a u) ι a o) : HR K cl (upd H a u) ι (mh.set n o) := by
  refine ⟨by simp [h.len], h.nd, fun m b ob h1 h2 => ?_⟩
  rw [List.getElem?_set] at h2
  by_cases hm : n = m
  · subst hm
    rw [if_pos rfl] at h2
    rw [hn] at h1; cases h1
    split at h2
    · cases h2; exact ho
    · cases h2
  · rw [if_neg hm] at h2
    have hb : b ≠ a := fun z => by
      subst z
      have l1 := (List.getElem?_eq_some_iff.mp h1)
      have l2 := (List.getElem?_eq_some_iff.mp hn)
      exact hm ((List.getElem_inj (h₀ := l2.1) (h₁ := l1.1) h.nd).mp (l2.2.trans l1.2.symm))
    exact (h.ob m b ob h1 h2).mono e fun w hw => by rw [upd_ne hb]; exact hw
end

/-! ### results against the heap -/
section
variable (K : PySem.W.Frag) (cl : Clm) (E : XK)
/-- an exception as it lies: its class, its own dict -/
def ExR (H : Hp) (ι : List Addr) (c : Str) (fs : List (Str × D)) (cv : Value) (od : Option Addr) : Prop :=
  ∃ Ca, cl.c c = some Ca ∧ cv = .ref Ca ∧ ((fs = [] ∧ od = none) ∨ ∃ d vs, od = some d ∧ H d = some (.xd vs) ∧ Prs K H ι fs vs)
def okR {α : Type} (ι : List Addr) (H : Hp) (r : Res α) (P : α → Hp → List Addr → Prop) : Prop := match r with
  | .ok a mh' => ∀ H' ι', HR K cl H' ι' mh' → Ext ι H ι' H' → P a H' ι'
  | .ex c fs mh' => ∀ H' ι' cv od, HR K cl H' ι' mh' → Ext ι H ι' H' → ExR K cl H' ι' c fs cv od → E cv od H'
  | .no => False
def pE (Q : VK) (d : D) (H' : Hp) (ι' : List Addr) : Prop := ∀ v, Rep K H' ι' d v → Q v H'
def pT (Q : Bool → Hp → Prop) (b : Bool) (H' : Hp) (_ : List Addr) : Prop := Q b H'
def pA (Q : List V → Hp → Prop) (ds : List D) (H' : Hp) (ι' : List Addr) : Prop := ∀ vs, Reps K H' ι' ds vs → Q vs H'
def pFl (Dn : Ends) (ι' : List Addr) (σ' : St) (H' : Hp) : Fl → Prop
  | .nx => Dn.nx σ' H'
  | .bk => Dn.bk σ' H'
  | .ct => Dn.ct σ' H'
  | .rt d => ∀ v, Rep K H' ι' d v → Dn.rt v H'
def pS (Dn : Ends) (r : Fl × Ro) (H' : Hp) (ι' : List Addr) : Prop := ∀ σ', SR K H' ι' r.2 σ' → pFl K Dn ι' σ' H' r.1
/-- the mirror's reading -/
def tM (m : ME) : TE := fun σ H Q => ∃ ρ mh ι, SR K H ι ρ σ ∧ HR K cl H ι mh ∧ okR K cl E ι H (m ρ mh) (pE K Q)
def tMT (m : MT) : TT := fun σ H Q => ∃ ρ mh ι, SR K H ι ρ σ ∧ HR K cl H ι mh ∧ okR K cl E ι H (m ρ mh) (pT Q)
def tMA (m : MA) : TA := fun σ H Q => ∃ ρ mh ι, SR K H ι ρ σ ∧ HR K cl H ι mh ∧ okR K cl E ι H (m ρ mh) (pA K Q)
def tMS (m : MS) : TS := fun Dn σ H => ∃ ρ mh ι, SR K H ι ρ σ ∧ HR K cl H ι mh ∧ okR K cl E ι H (m ρ mh) (pS K Dn)
end
section
variable {K : PySem.W.Frag} {cl : Clm} {E : XK} {H H' : Hp} {ι ι' : List Addr} {α β : Type}
theorem okR.weak {r : Res α} {P : α → Hp → List Addr → Prop} (h : okR K cl E ι H r P) (e : Ext ι H ι' H') : okR K cl E ι' H' r P := by
  cases r with
  | ok a mh => exact fun H2 ι2 h2 e2 => h H2 ι2 h2 (e.trans e2)
  | ex c fs mh => exact fun H2 ι2 cv od h2 e2 x => h H2 ι2 cv od h2 (e.trans e2) x
  | no => exact h
theorem okR.imp {r : Res α} {P P' : α → Hp → List Addr → Prop} (h : okR K cl E ι H r P) (hp : ∀ a H' ι', Ext ι H ι' H' → P a H' ι' → P' a H' ι') : okR K cl E ι H r P' := by
  cases r with
  | ok a mh => exact fun H2 ι2 h2 e2 => hp _ _ _ e2 (h H2 ι2 h2 e2)
  | ex c fs mh => exact h
  | no => exact h
theorem okR.bnd {r : Res α} {f : α → MH → Res β} {P : β → Hp → List Addr → Prop} (h : okR K cl E ι H (r.bind f) P) :
    okR K cl E ι H r fun a H' ι' => ∃ mh', HR K cl H' ι' mh' ∧ okR K cl E ι' H' (f a mh') P := by
  cases r with
  | ok a mh => exact fun H2 ι2 h2 e2 => ⟨mh, h2, okR.weak h e2⟩
  | ex c fs mh => exact h
  | no => exact h
/-- the end of a rule: a value at hand -/
theorem okR.use {a : α} {mh : MH} {P : α → Hp → List Addr → Prop} (h : okR K cl E ι H (.ok a mh) P) (hr : HR K cl H' ι' mh) (e : Ext ι H ι' H') : P a H' ι' := h H' ι' hr e
end
section
variable {X : Cx}
theorem _root_.L2.PE.imp {e : Expr} {t t' : TE} (h : PE X e t) (i : ∀ σ H Q, t' σ H Q → t σ H Q) : PE X e t' := ⟨fun pins s σ H Q I q => h.run pins s σ H Q I (i _ _ _ q)⟩
theorem _root_.L2.PT.imp {e : Expr} {t t' : TT} (h : PT X e t) (i : ∀ σ H Q, t' σ H Q → t σ H Q) : PT X e t' := ⟨fun pins s σ H Q I q => h.run pins s σ H Q I (i _ _ _ q)⟩
theorem _root_.L2.PA.imp {e : List Expr} {t t' : TA} (h : PA X e t) (i : ∀ σ H Q, t' σ H Q → t σ H Q) : PA X e t' := ⟨fun pos pins s σ H Q I q => h.run pos pins s σ H Q I (i _ _ _ q)⟩
theorem _root_.L2.PS.imp {e : Stmt} {t t' : TS} (h : PS X e t) (i : ∀ D σ H, t' D σ H → t D σ H) : PS X e t' := ⟨fun pins s σ H D I q => h.run pins s σ H D I (i _ _ _ q)⟩
theorem _root_.L2.PSs.imp {e : List Stmt} {t t' : TS} (h : PSs X e t) (i : ∀ D σ H, t' D σ H → t D σ H) : PSs X e t' := ⟨fun pins s σ H D I q => h.run pins s σ H D I (i _ _ _ q)⟩
end
end Mir
namespace Mir
open PySem PySem.Spec L2

/-! ### the mirror's words for expressions -/
def varM (i : Nat) : ME := fun ρ h => match ρ[i]? with | some (some d) => .ok d h | _ => .no
def cM (d : D) : ME := fun _ h => .ok d h
def noM : ME := fun _ _ => .no
def noT : MT := fun _ _ => .no
def binM (g : D → D → MH → Res D) (a b : ME) : ME := fun ρ h => (a ρ h).bind fun x h => (b ρ h).bind fun y h => g x y h
def unM (g : D → MH → Res D) (a : ME) : ME := fun ρ h => (a ρ h).bind fun x h => g x h
def testM (a : ME) : MT := fun ρ h => (a ρ h).bind fun x h => match x with | .bl b => .ok b h | _ => .no
def boolM (t : MT) : ME := fun ρ h => (t ρ h).bind fun b h => .ok (.bl b) h
def andT (a b : MT) : MT := fun ρ h => (a ρ h).bind fun c h => if c = true then b ρ h else .ok false h
def orT (a b : MT) : MT := fun ρ h => (a ρ h).bind fun c h => if c = true then .ok true h else b ρ h
def notT (a : MT) : MT := fun ρ h => (a ρ h).bind fun c h => .ok (!c) h
def andM (a b : ME) : ME := fun ρ h => (a ρ h).bind fun x h => match x with | .bl true => b ρ h | .bl false => .ok (.bl false) h | _ => .no
def orM (a b : ME) : ME := fun ρ h => (a ρ h).bind fun x h => match x with | .bl true => .ok (.bl true) h | .bl false => b ρ h | _ => .no
def notM (a : ME) : ME := fun ρ h => (a ρ h).bind fun x h => match x with | .bl b => .ok (.bl (!b)) h | _ => .no
def ifM (t : MT) (a b : ME) : ME := fun ρ h => (t ρ h).bind fun c h => if c = true then a ρ h else b ρ h
def chainM (g g' : D → D → MH → Res D) (a b c : ME) : ME := fun ρ h => (a ρ h).bind fun x h => (b ρ h).bind fun y h => (g x y h).bind fun z h =>
  match z with | .bl true => (c ρ h).bind fun w h => g' y w h | .bl false => .ok (.bl false) h | _ => .no
def nilM : MA := fun _ h => .ok [] h
def consM (a : ME) (r : MA) : MA := fun ρ h => (a ρ h).bind fun x h => (r ρ h).bind fun xs h => .ok (x :: xs) h
def tupM (a : MA) : ME := fun ρ h => (a ρ h).bind fun xs h => if xs.length ≤ sizeLine then .ok (.tup xs) h else .no
def lstM (a : MA) : ME := fun ρ h => (a ρ h).bind fun xs h => if xs.length ≤ sizeLine then .ok (.ref h.length) (h ++ [.lst xs]) else .no
def callM (g : List D → MH → Res D) (a : MA) : ME := fun ρ h => (a ρ h).bind fun xs h => g xs h

section
variable {K : PySem.W.Frag} {cl : Clm} {E : XK} {H : Hp} {ι : List Addr} {ρ : Ro} {σ : L2.St} {mh : MH} {α : Type}
theorem step {m : ME} {f : D → MH → Res α} {P : α → Hp → List Addr → Prop} (sr : SR K H ι ρ σ) (hr : HR K cl H ι mh) (ok : okR K cl E ι H ((m ρ mh).bind f) P) :
    tM K cl E m σ H fun v H1 => ∃ d mh1 ι1, Ext ι H ι1 H1 ∧ SR K H1 ι1 ρ σ ∧ HR K cl H1 ι1 mh1 ∧ Rep K H1 ι1 d v ∧ okR K cl E ι1 H1 (f d mh1) P :=
  ⟨ρ, mh, ι, sr, hr, okR.imp ok.bnd fun d H1 ι1 e ⟨mh1, hr1, q⟩ v r => ⟨d, mh1, ι1, e, sr.mono e, hr1, r, q⟩⟩
theorem stepT {m : MT} {f : Bool → MH → Res α} {P : α → Hp → List Addr → Prop} (sr : SR K H ι ρ σ) (hr : HR K cl H ι mh) (ok : okR K cl E ι H ((m ρ mh).bind f) P) :
    tMT K cl E m σ H fun b H1 => ∃ mh1 ι1, Ext ι H ι1 H1 ∧ SR K H1 ι1 ρ σ ∧ HR K cl H1 ι1 mh1 ∧ okR K cl E ι1 H1 (f b mh1) P :=
  ⟨ρ, mh, ι, sr, hr, okR.imp ok.bnd fun d H1 ι1 e ⟨mh1, hr1, q⟩ => ⟨mh1, ι1, e, sr.mono e, hr1, q⟩⟩
theorem stepA {m : MA} {f : List D → MH → Res α} {P : α → Hp → List Addr → Prop} (sr : SR K H ι ρ σ) (hr : HR K cl H ι mh) (ok : okR K cl E ι H ((m ρ mh).bind f) P) :
    tMA K cl E m σ H fun vs H1 => ∃ ds mh1 ι1, Ext ι H ι1 H1 ∧ SR K H1 ι1 ρ σ ∧ HR K cl H1 ι1 mh1 ∧ Reps K H1 ι1 ds vs ∧ okR K cl E ι1 H1 (f ds mh1) P :=
  ⟨ρ, mh, ι, sr, hr, okR.imp ok.bnd fun d H1 ι1 e ⟨mh1, hr1, q⟩ v r => ⟨d, mh1, ι1, e, sr.mono e, hr1, r, q⟩⟩
/-- a value at hand meets what is wanted -/
theorem fin {d : D} {v : V} {Q : VK} (hr : HR K cl H ι mh) (r : Rep K H ι d v) (ok : okR K cl E ι H (.ok d mh) (pE K Q)) : Q v H := ok H ι hr .refl v r
theorem finT {b : Bool} {Q : Bool → Hp → Prop} (hr : HR K cl H ι mh) (ok : okR K cl E ι H (.ok b mh) (pT Q)) : Q b H := ok H ι hr .refl
theorem finA {ds : List D} {vs : List V} {Q : List V → Hp → Prop} (hr : HR K cl H ι mh) (r : Reps K H ι ds vs) (ok : okR K cl E ι H (.ok ds mh) (pA K Q)) : Q vs H := ok H ι hr .refl vs r
theorem cont {m : ME} {Q : VK} (sr : SR K H ι ρ σ) (hr : HR K cl H ι mh) (ok : okR K cl E ι H (m ρ mh) (pE K Q)) : tM K cl E m σ H Q := ⟨ρ, mh, ι, sr, hr, ok⟩
theorem contT {m : MT} {Q : Bool → Hp → Prop} (sr : SR K H ι ρ σ) (hr : HR K cl H ι mh) (ok : okR K cl E ι H (m ρ mh) (pT Q)) : tMT K cl E m σ H Q := ⟨ρ, mh, ι, sr, hr, ok⟩
theorem contA {m : MA} {Q : List V → Hp → Prop} (sr : SR K H ι ρ σ) (hr : HR K cl H ι mh) (ok : okR K cl E ι H (m ρ mh) (pA K Q)) : tMA K cl E m σ H Q := ⟨ρ, mh, ι, sr, hr, ok⟩
end

/-! ### the rules -/
/-- operations by values -/
def rM (K : PySem.W.Frag) (cl : Clm) (E : XK) (g : D → D → MH → Res D) : R2 := fun x y H Q => ∃ dx dy mh ι, Rep K H ι dx x ∧ Rep K H ι dy y ∧ HR K cl H ι mh ∧ okR K cl E ι H (g dx dy mh) (pE K Q)
def rM1 (K : PySem.W.Frag) (cl : Clm) (E : XK) (g : D → MH → Res D) : V → Hp → VK → Prop := fun x H Q => ∃ dx mh ι, Rep K H ι dx x ∧ HR K cl H ι mh ∧ okR K cl E ι H (g dx mh) (pE K Q)
def rMA (K : PySem.W.Frag) (cl : Clm) (E : XK) (g : List D → MH → Res D) : List V → Hp → VK → Prop := fun xs H Q => ∃ ds mh ι, Reps K H ι ds xs ∧ HR K cl H ι mh ∧ okR K cl E ι H (g ds mh) (pE K Q)
section
variable {X : Cx} {cl : Clm} {E : XK} {a b c e : Expr} {es : List Expr} {pos : Pos} {m ma mb mc : ME} {mt mu : MT} {g g' : D → D → MH → Res D}
theorem m_var {i : Nat} {x : Str} (h : PE X e (tVar i)) : PE X e (tM X.K cl E (varM i)) := h.imp fun σ H Q ⟨ρ, mh, ι, sr, hr, ok⟩ => by
  unfold varM at ok
  cases hd : ρ[i]? with
  | none => rw [hd] at ok; exact ok.elim
  | some o =>
    rw [hd] at ok
    cases o with
    | none => exact ok.elim
    | some d =>
      obtain ⟨v, hv, r⟩ := sr.2 i d hd
      exact ⟨v, hv, fin hr r ok⟩
theorem m_c {v : V} {d : D} (hd : ∀ H ι, Rep X.K H ι d v) (h : PE X e (tC v)) : PE X e (tM X.K cl E (cM d)) := h.imp fun σ H Q ⟨ρ, mh, ι, sr, hr, ok⟩ => fin hr (hd _ _) ok
theorem m_no : PE X e (tM X.K cl E noM) := ⟨fun _ _ _ _ _ _ ⟨_, _, _, _, _, ok⟩ => ok.elim⟩
theorem m_noT : PT X e (tMT X.K cl E noT) := ⟨fun _ _ _ _ _ _ ⟨_, _, _, _, _, ok⟩ => ok.elim⟩
theorem binI (r : R2) : r = rM X.K cl E g → ∀ σ H Q, tM X.K cl E (binM g ma mb) σ H Q → tOp r (tM X.K cl E ma) (tM X.K cl E mb) σ H Q := by
  rintro rfl σ H Q ⟨ρ, mh, ι, sr, hr, ok⟩
  obtain ⟨ρ, mh, ι, a1, a2, a3⟩ := step sr hr ok
  refine ⟨ρ, mh, ι, a1, a2, okR.imp a3 fun d H1 ι1 e1 q v rv => ?_⟩
  obtain ⟨d1, mh1, ι1', e1', sr1, hr1, r1, q1⟩ := q v rv
  obtain ⟨ρ2, mh2, ι2, b1, b2, b3⟩ := step sr1 hr1 q1
  refine ⟨ρ2, mh2, ι2, b1, b2, okR.imp b3 fun d2 H2 ι2 e2 q2 v2 rv2 => ?_⟩
  obtain ⟨d3, mh3, ι3, e3, sr3, hr3, r3, q3⟩ := q2 v2 rv2
  exact ⟨d1, d3, mh3, ι3, r1.mono e3, r3, hr3, q3⟩
theorem m_bin {op : Operator} (ho : OpR X (binaryOp op) (rM X.K cl E g)) (ha : PE X a (tM X.K cl E ma)) (hb : PE X b (tM X.K cl E mb)) : PE X (.BinOp a op b pos) (tM X.K cl E (binM g ma mb)) :=
  (pe_op ho ha hb).imp (binI _ rfl)
theorem m_cmp {op : CmpOp} (ho : OpR X (compareOp op) (rM X.K cl E g)) (ha : PE X a (tM X.K cl E ma)) (hb : PE X b (tM X.K cl E mb)) (hm : behindInMarks op b = false) : PE X (.Compare a [op] [b] pos) (tM X.K cl E (binM g ma mb)) :=
  (pe_cmpR ho ha hb hm).imp (binI _ rfl)
theorem m_ix (ho : IxR X (rM X.K cl E g)) (ha : PE X a (tM X.K cl E ma)) (hb : PE X b (tM X.K cl E mb)) (hs : PlainIx b) : PE X (.Subscript a b pos) (tM X.K cl E (binM g ma mb)) :=
  (pe_ix ho ha hb hs).imp (binI _ rfl)
theorem m_un {op : UnaryOp} {g : D → MH → Res D} (ho : UnR X (unaryOp op) (rM1 X.K cl E g)) (ha : PE X a (tM X.K cl E ma)) : PE X (.UnaryOp op a pos) (tM X.K cl E (unM g ma)) :=
  (pe_un ho ha).imp fun σ H Q ⟨ρ, mh, ι, sr, hr, ok⟩ => by
    obtain ⟨ρ, mh, ι, a1, a2, a3⟩ := step sr hr ok
    refine ⟨ρ, mh, ι, a1, a2, okR.imp a3 fun d H1 ι1 e1 q v rv => ?_⟩
    obtain ⟨d1, mh1, ι1', e1', sr1, hr1, r1, q1⟩ := q v rv
    exact ⟨d1, mh1, ι1', r1, hr1, q1⟩
theorem tM.mono {σ : L2.St} {H : Hp} {Q Q' : VK} (h : tM X.K cl E m σ H Q) (i : ∀ v H', Q v H' → Q' v H') : tM X.K cl E m σ H Q' := by
  obtain ⟨ρ, mh, ι, a1, a2, a3⟩ := h
  exact ⟨ρ, mh, ι, a1, a2, okR.imp a3 fun d H1 ι1 e1 q v rv => i _ _ (q v rv)⟩
theorem tMT.mono {σ : L2.St} {H : Hp} {Q Q' : Bool → Hp → Prop} (h : tMT X.K cl E mt σ H Q) (i : ∀ v H', Q v H' → Q' v H') : tMT X.K cl E mt σ H Q' := by
  obtain ⟨ρ, mh, ι, a1, a2, a3⟩ := h
  exact ⟨ρ, mh, ι, a1, a2, okR.imp a3 fun d H1 ι1 e1 q => i _ _ q⟩
theorem tMA.mono {m : MA} {σ : L2.St} {H : Hp} {Q Q' : List V → Hp → Prop} (h : tMA X.K cl E m σ H Q) (i : ∀ v H', Q v H' → Q' v H') : tMA X.K cl E m σ H Q' := by
  obtain ⟨ρ, mh, ι, a1, a2, a3⟩ := h
  exact ⟨ρ, mh, ι, a1, a2, okR.imp a3 fun d H1 ι1 e1 q v rv => i _ _ (q v rv)⟩
/-- a comparison as a test: its value -/
theorem m_cmpT {op : CmpOp} (ho : OpR X (compareOp op) (rM X.K cl E g)) (ha : PE X a (tM X.K cl E ma)) (hb : PE X b (tM X.K cl E mb)) (hm : behindInMarks op b = false) : PT X (.Compare a [op] [b] pos) (tMT X.K cl E (testM (binM g ma mb))) :=
  (pt_cmpR ho ha hb hm).imp fun σ H Q ⟨ρ, mh, ι, sr, hr, ok⟩ => by
    unfold tTest
    refine binI _ rfl _ _ _ (tM.mono (step sr hr ok) fun v H1 ⟨d, mh1, ι1, e1, sr1, hr1, r1, q1⟩ => ?_)
    cases r1 with
    | bl b => exact ⟨b, rfl, finT hr1 q1⟩
    | _ => exact q1.elim
theorem chI : ∀ σ H Q, tM X.K cl E (chainM g g' ma mb mc) σ H Q → tChain (rM X.K cl E g) (rM X.K cl E g') (tM X.K cl E ma) (tM X.K cl E mb) (tM X.K cl E mc) σ H Q := by
  rintro σ H Q ⟨ρ, mh, ι, sr, hr, ok⟩
  refine tM.mono (step sr hr ok) fun v H1 ⟨d1, mh1, ι1, e1, sr1, hr1, r1, q1⟩ => ?_
  refine tM.mono (step sr1 hr1 q1) fun v2 H2 ⟨d2, mh2, ι2, e2, sr2, hr2, r2, q2⟩ => ?_
  refine ⟨d1, d2, mh2, ι2, r1.mono e2, r2, hr2, okR.imp q2.bnd fun d3 H3 ι3 e3 ⟨mh3, hr3, q3⟩ v3 rv3 => ?_⟩
  cases rv3 with
  | bl k =>
    refine ⟨k, rfl, ?_⟩
    cases k with
    | false => exact iteF (fin hr3 (.bl _) q3)
    | true =>
      refine iteT (tM.mono (step (sr2.mono e3) hr3 q3) fun v4 H4 ⟨d4, mh4, ι4, e4, sr4, hr4, r4, q4⟩ => ?_)
      exact ⟨d2, d4, mh4, ι4, (r2.mono e3).mono e4, r4, hr4, q4⟩
  | _ => exact q3.elim
theorem m_chain {op op' : CmpOp} (ho : OpR X (compareOp op) (rM X.K cl E g)) (ho' : OpR X (compareOp op') (rM X.K cl E g')) (ha : PE X a (tM X.K cl E ma)) (hb : PE X b (tM X.K cl E mb)) (hc : PE X c (tM X.K cl E mc))
    (hm : lastMarks [op, op'] [b, c] = false) : PE X (.Compare a [op, op'] [b, c] pos) (tM X.K cl E (chainM g g' ma mb mc)) := (pe_chain ho ho' ha hb hc hm).imp chI
theorem m_chainT {op op' : CmpOp} (ho : OpR X (compareOp op) (rM X.K cl E g)) (ho' : OpR X (compareOp op') (rM X.K cl E g')) (ha : PE X a (tM X.K cl E ma)) (hb : PE X b (tM X.K cl E mb)) (hc : PE X c (tM X.K cl E mc))
    (hm : lastMarks [op, op'] [b, c] = false) : PT X (.Compare a [op, op'] [b, c] pos) (tMT X.K cl E (testM (chainM g g' ma mb mc))) :=
  (pt_chain ho ho' ha hb hc hm).imp fun σ H Q ⟨ρ, mh, ι, sr, hr, ok⟩ => by
    unfold tTest
    refine chI _ _ _ (tM.mono (step sr hr ok) fun v H1 ⟨d, mh1, ι1, e1, sr1, hr1, r1, q1⟩ => ?_)
    cases r1 with
    | bl b => exact ⟨b, rfl, finT hr1 q1⟩
    | _ => exact q1.elim
/-! and, or, not -/
theorem m_and1 {t : MT} (ha : PT X a (tMT X.K cl E t)) : PW X (.BoolOp .And [a] pos) (tMT X.K cl E t) := pw_and1 ha
theorem m_or1 {t : MT} (ha : PT X a (tMT X.K cl E t)) : PW X (.BoolOp .Or [a] pos) (tMT X.K cl E t) := pw_or1 ha
theorem _root_.L2.PW.imp {e : Expr} {t t' : TT} (h : PW X e t) (i : ∀ σ H Q, t' σ H Q → t σ H Q) : PW X e t' := ⟨fun wh pins s σ H Q I q => h.run wh pins s σ H Q I (i _ _ _ q)⟩
theorem m_and {rest : List Expr} (ha : PT X a (tMT X.K cl E mt)) (hb : PW X (.BoolOp .And (b :: rest) pos) (tMT X.K cl E mu)) : PW X (.BoolOp .And (a :: b :: rest) pos) (tMT X.K cl E (andT mt mu)) :=
  L2.PW.imp (pw_and ha hb) fun σ H Q ⟨ρ, mh, ι, sr, hr, ok⟩ => by
    refine tMT.mono (stepT sr hr ok) fun k H1 ⟨mh1, ι1, e1, sr1, hr1, q1⟩ => ?_
    cases k with
    | true => exact iteT (contT sr1 hr1 q1)
    | false => exact iteF (finT hr1 q1)
theorem m_or {rest : List Expr} (ha : PT X a (tMT X.K cl E mt)) (hb : PW X (.BoolOp .Or (b :: rest) pos) (tMT X.K cl E mu)) : PW X (.BoolOp .Or (a :: b :: rest) pos) (tMT X.K cl E (orT mt mu)) :=
  L2.PW.imp (pw_or ha hb) fun σ H Q ⟨ρ, mh, ι, sr, hr, ok⟩ => by
    refine tMT.mono (stepT sr hr ok) fun k H1 ⟨mh1, ι1, e1, sr1, hr1, q1⟩ => ?_
    cases k with
    | true => exact iteT (finT hr1 q1)
    | false => exact iteF (contT sr1 hr1 q1)
theorem m_notT (ha : PT X a (tMT X.K cl E mt)) : PT X (.UnaryOp .Not a pos) (tMT X.K cl E (notT mt)) := (pt_not ha).imp fun σ H Q ⟨ρ, mh, ι, sr, hr, ok⟩ =>
  tMT.mono (stepT sr hr ok) fun k H1 ⟨mh1, ι1, e1, sr1, hr1, q1⟩ => finT hr1 q1
theorem m_andV {rest : List Expr} (ha : PE X a (tM X.K cl E ma)) (hb : PE X (.BoolOp .And (b :: rest) pos) (tM X.K cl E mb)) : PE X (.BoolOp .And (a :: b :: rest) pos) (tM X.K cl E (andM ma mb)) :=
  (pe_and ha hb).imp fun σ H Q ⟨ρ, mh, ι, sr, hr, ok⟩ => by
    refine tM.mono (step sr hr ok) fun v H1 ⟨d1, mh1, ι1, e1, sr1, hr1, r1, q1⟩ => ?_
    cases r1 with
    | bl k => cases k with
      | true => exact ⟨_, rfl, iteT (cont sr1 hr1 q1)⟩
      | false => exact ⟨_, rfl, iteF (fin hr1 (.bl _) q1)⟩
    | _ => exact q1.elim
theorem m_orV {rest : List Expr} (ha : PE X a (tM X.K cl E ma)) (hb : PE X (.BoolOp .Or (b :: rest) pos) (tM X.K cl E mb)) : PE X (.BoolOp .Or (a :: b :: rest) pos) (tM X.K cl E (orM ma mb)) :=
  (pe_or ha hb).imp fun σ H Q ⟨ρ, mh, ι, sr, hr, ok⟩ => by
    refine tM.mono (step sr hr ok) fun v H1 ⟨d1, mh1, ι1, e1, sr1, hr1, r1, q1⟩ => ?_
    cases r1 with
    | bl k => cases k with
      | true => exact ⟨_, rfl, iteT (fin hr1 (.bl _) q1)⟩
      | false => exact ⟨_, rfl, iteF (cont sr1 hr1 q1)⟩
    | _ => exact q1.elim
theorem m_notV (ha : PE X a (tM X.K cl E ma)) : PE X (.UnaryOp .Not a pos) (tM X.K cl E (notM ma)) := (pe_not ha).imp fun σ H Q ⟨ρ, mh, ι, sr, hr, ok⟩ => by
    refine tM.mono (step sr hr ok) fun v H1 ⟨d1, mh1, ι1, e1, sr1, hr1, r1, q1⟩ => ?_
    cases r1 with
    | bl k => exact ⟨_, rfl, fin hr1 (.bl _) q1⟩
    | _ => exact q1.elim
theorem m_if (hc : PT X c (tMT X.K cl E mt)) (ha : PE X a (tM X.K cl E ma)) (hb : PE X b (tM X.K cl E mb)) : PE X (.IfExp c a b pos) (tM X.K cl E (ifM mt ma mb)) :=
  (pe_ifExp hc ha hb).imp fun σ H Q ⟨ρ, mh, ι, sr, hr, ok⟩ => by
    refine tMT.mono (stepT sr hr ok) fun k H1 ⟨mh1, ι1, e1, sr1, hr1, q1⟩ => ?_
    cases k with
    | true => exact iteT (cont sr1 hr1 q1)
    | false => exact iteF (cont sr1 hr1 q1)
/-- a value's truth -/
def truD (x : D) (mh : MH) : Option Bool := match x with
  | .non => some false
  | .bl b => some b
  | .int i => some (i != 0)
  | .str y => if y.length ≤ sizeLine then some ((y.length : Int) != 0) else none
  | .tup ds => some (!ds.isEmpty)
  | .ref n => match mh[n]? with
    | some (.lst ds) => some (!ds.isEmpty)
    | some (.dic kvs) => some (!kvs.isEmpty)
    | _ => none
  | .ty _ => none
  | .wl ds => some (!ds.isEmpty)
def truM (a : ME) : MT := fun ρ h => (a ρ h).bind fun x h => match truD x h with | some b => .ok b h | none => .no
theorem Reps.emp {K : PySem.W.Frag} {H : Hp} {ι : List Addr} {ds : List D} {vs : List V} (r : Reps K H ι ds vs) : (!ds.isEmpty) = !vs.isEmpty := by cases r <;> rfl
theorem Prs.emp {K : PySem.W.Frag} {H : Hp} {ι : List Addr} {κ : Type} {ds : List (κ × D)} {vs : List (κ × V)} (r : Prs K H ι ds vs) : (!ds.isEmpty) = !vs.isEmpty := by cases r <;> rfl
theorem tru_of {K : PySem.W.Frag} {H : Hp} {ι : List Addr} {mh : MH} {x : D} {v : V} {b : Bool} (hr : HR K cl H ι mh) (r : Rep K H ι x v) (h : truD x mh = some b) : TruV K v H b := by
  cases r with
  | non => cases h; rfl
  | bl _ => cases h; rfl
  | int _ => cases h; rfl
  | str y =>
    simp only [truD] at h
    split at h
    · rename_i hl; cases h; exact ⟨hl, rfl⟩
    · cases h
  | tup s q => cases h; exact .inr (.inl ⟨_, s, q.emp⟩)
  | @ref n a hn =>
    simp only [truD] at h
    cases hm : mh[n]? with
    | none => rw [hm] at h; cases h
    | some o =>
      rw [hm] at h
      have q := hr.ob n a o hn hm
      cases o with
      | lst ds => cases h; obtain ⟨xs, h1, h2⟩ := q; exact .inl ⟨xs, SqL.of h1, h2.emp⟩
      | dic kvs => cases h; obtain ⟨xs, h1, h2⟩ := q; exact .inr (.inr ⟨xs, h1, h2.emp⟩)
      | _ => cases h
  | ty _ => cases h
  | wl s q => cases h; exact .inl ⟨_, s.sq, q.emp⟩
theorem m_tru (ha : PE X a (tM X.K cl E ma)) (he : ∀ whole, isTrue a X.env whole = (do let v ← whole; standAt a.pos; holding [v] (truthy v))) : PT X a (tMT X.K cl E (truM ma)) :=
  (pt_truth ha he).imp fun σ H Q ⟨ρ, mh, ι, sr, hr, ok⟩ => tM.mono (step sr hr ok) fun v H1 ⟨d1, mh1, ι1, e1, sr1, hr1, r1, q1⟩ => by
    cases hb : truD d1 mh1 with
    | none => rw [hb] at q1; exact q1.elim
    | some b => rw [hb] at q1; exact ⟨b, tru_of hr1 r1 hb, finT hr1 q1⟩
/-! argument lists, displays -/
theorem m_nil : PA X [] (tMA X.K cl E nilM) := pa_nil.imp fun σ H Q ⟨ρ, mh, ι, sr, hr, ok⟩ => finA hr .nil ok
theorem m_cons {m : MA} (ha : PE X e (tM X.K cl E ma)) (hr : PA X es (tMA X.K cl E m)) (hs : starEach (e :: es) X.env = (false, eval e X.env) :: starEach es X.env) : PA X (e :: es) (tMA X.K cl E (consM ma m)) :=
  (pa_cons ha hr hs).imp fun σ H Q ⟨ρ, mh, ι, sr, hr, ok⟩ => tM.mono (step sr hr ok) fun v H1 ⟨d1, mh1, ι1, e1, sr1, hr1, r1, q1⟩ =>
    tMA.mono (stepA sr1 hr1 q1) fun vs H2 ⟨ds, mh2, ι2, e2, sr2, hr2, r2, q2⟩ => finA hr2 (.cons (r1.mono e2) r2) q2
theorem m_tup {m : MA} {k : Nat} (ha : PA X es (tMA X.K cl E m)) : PE X (.Tuple es k pos) (tM X.K cl E (tupM m)) :=
  (pe_tup ha).imp fun σ H Q ⟨ρ, mh, ι, sr, hr, ok⟩ => tMA.mono (stepA sr hr ok) fun vs H1 ⟨ds, mh1, ι1, e1, sr1, hr1, r1, q1⟩ => by
    split at q1
    · rename_i hl
      exact ⟨r1.length ▸ hl, fun p hp => q1 _ ι1 (hr1.side hp) (.new0 hp) _ (.tup (SqT.of upd_same) (r1.mono (.new0 hp)))⟩
    · exact q1.elim
theorem m_lst {m : MA} (ha : PA X es (tMA X.K cl E m)) : PE X (.List es pos) (tM X.K cl E (lstM m)) :=
  (pe_lst ha).imp fun σ H Q ⟨ρ, mh, ι, sr, hr, ok⟩ => tMA.mono (stepA sr hr ok) fun vs H1 ⟨ds, mh1, ι1, e1, sr1, hr1, r1, q1⟩ => by
    split at q1
    · rename_i hl
      refine ⟨r1.length ▸ hl, fun p hp => q1 _ (ι1 ++ [p]) (hr1.new hp ⟨_, upd_same, r1.mono (.new hp _)⟩) (.new hp _) _ (.ref ?_)⟩
      rw [← hr1.len]; simp
    · exact q1.elim
/-! calls by values -/
theorem m_callB {x : Str} {p : Pos} {id : String} {g : List D → MH → Res D} {m : MA} (hc : CallR X (.builtin id) (rMA X.K cl E g)) (hg : Gl X x) (hm : X.mg x = none) (hv : bootBuiltins x = some (.builtin id)) (ha : PA X (e :: es) (tMA X.K cl E m))
    (hn : x ≠ "__name__") (hdb : (x == ("__debug__" : Str)) = false) (he : starEach (e :: es) X.env = (false, eval e X.env) :: starEach es X.env) (hpl : (backTo pos (starEach es X.env)).any (·.1) = false) : PE X (.Call (.Name x p) (e :: es) [] pos) (tM X.K cl E (callM g m)) :=
  (pe_callB hc hg hm hv ha hn hdb he hpl).imp fun σ H Q ⟨ρ, mh, ι, sr, hr, ok⟩ => tMA.mono (stepA sr hr ok) fun vs H1 ⟨ds, mh1, ι1, e1, sr1, hr1, r1, q1⟩ => ⟨ds, mh1, ι1, r1, hr1, q1⟩
theorem m_callTy {x : Str} {p : Pos} {T : String} {g : List D → MH → Res D} {m : MA} (hc : CallR X (.type T) (rMA X.K cl E g)) (hg : Gl X x) (hm : X.mg x = none) (hv : bootBuiltins x = some (.type T)) (ha : PA X (e :: es) (tMA X.K cl E m))
    (hn : x ≠ "__name__") (hdb : (x == ("__debug__" : Str)) = false) (he : starEach (e :: es) X.env = (false, eval e X.env) :: starEach es X.env) (hpl : (backTo pos (starEach es X.env)).any (·.1) = false) : PE X (.Call (.Name x p) (e :: es) [] pos) (tM X.K cl E (callM g m)) :=
  (pe_callTy hc hg hm hv ha hn hdb he hpl).imp fun σ H Q ⟨ρ, mh, ι, sr, hr, ok⟩ => tMA.mono (stepA sr hr ok) fun vs H1 ⟨ds, mh1, ι1, e1, sr1, hr1, r1, q1⟩ => ⟨ds, mh1, ι1, r1, hr1, q1⟩
end
/-- what a def of the mirror promises -/
def spM (K : PySem.W.Frag) (cl : Clm) (np : Nat) (g : List D → MH → Res D) : Sp := fun vs H Q E => vs.length = np ∧ ∃ ds mh ι, Reps K H ι ds vs ∧ HR K cl H ι mh ∧ okR K cl E ι H (g ds mh) (pE K Q)
section
variable {X : Cx} {cl : Clm} {E : XK} {e o : Expr} {es : List Expr} {pos p apos : Pos} {CX : CXT} {k np : Nat} {f : Addr} {fd : FuncData} {ps : List Str} {g : List D → MH → Res D} {x : Str} {m : MA}
/-- as many arguments as parameters, else stuck -/
def callN (np : Nat) (g : List D → MH → Res D) (a : MA) : ME := fun ρ h => (a ρ h).bind fun xs h => if xs.length = np then g xs h else .no
theorem m_call (F : FnOk X.prog X.w X.K X.mg X.base CX k f fd ps (spM X.K cl np g)) (hr : Room k X.A) (hg : Gl X x) (hm : X.mg x = some (.ref f)) (hk : PySem.W.keepIn X.K (.ref f) = true) (hb : Binds X.K fd ps []) (hx : Passes CX X E)
    (ha : PA X (e :: es) (tMA X.K cl E m)) (hdb : (x == ("__debug__" : Str)) = false) (he : starEach (e :: es) X.env = (false, eval e X.env) :: starEach es X.env) (hpl : (backTo pos (starEach es X.env)).any (·.1) = false) :
    PE X (.Call (.Name x p) (e :: es) [] pos) (tM X.K cl E (callN np g m)) :=
  (pe_call F hr hg hm hk hb .nil hx ha hdb he hpl).imp fun σ H Q ⟨ρ, mh, ι, sr, hr, ok⟩ => tMA.mono (stepA sr hr ok) fun vs H1 ⟨ds, mh1, ι1, e1, sr1, hr1, r1, q1⟩ => by
    rw [List.append_nil]
    split at q1
    · rename_i hl; exact ⟨r1.length ▸ hl, ds, mh1, ι1, r1, hr1, q1⟩
    · exact q1.elim
theorem m_call0 (F : FnOk X.prog X.w X.K X.mg X.base CX k f fd ps (spM X.K cl 0 g)) (hr : Room k X.A) (hg : Gl X x) (hm : X.mg x = some (.ref f)) (hk : PySem.W.keepIn X.K (.ref f) = true) (hb : Binds X.K fd ps []) (hx : Passes CX X E)
    (hdb : (x == ("__debug__" : Str)) = false) : PE X (.Call (.Name x p) [] [] pos) (tM X.K cl E (callN 0 g nilM)) :=
  (pe_call0 F hr hg hm hk hb .nil hx hdb).imp fun σ H Q ⟨ρ, mh, ι, sr, hr, ok⟩ => ⟨rfl, [], mh, ι, .nil, hr, ok⟩
end
end Mir
namespace Mir
open PySem PySem.Spec L2

/-! ### operators by values -/
def addD (x y : D) (mh : MH) : Res D := match x, y with
  | .int i, .int j => .ok (.int (i + j)) mh
  | .str a, .str b => if a.length + b.length ≤ sizeLine then .ok (.str (a ++ b)) mh else .no
  | .tup xs, .tup ys => if xs.length + ys.length ≤ sizeLine then .ok (.tup (xs ++ ys)) mh else .no
  | .ref n, .ref m => match mh[n]?, mh[m]? with
    | some (.lst xs), some (.lst ys) => if xs.length + ys.length ≤ sizeLine then .ok (.ref mh.length) (mh ++ [.lst (xs ++ ys)]) else .no
    | _, _ => .no
  | _, _ => .no
def intD (c : Int → Int → Bool) (f : Int → Int → Int) (x y : D) (mh : MH) : Res D := match x, y with
  | .int i, .int j => if c i j = true then .ok (.int (f i j)) mh else .no
  | _, _ => .no
def cmpD (f : Int → Int → Bool) (x y : D) (mh : MH) : Res D := match x, y with
  | .int i, .int j => .ok (.bl (f i j)) mh
  | _, _ => .no
def subD : D → D → MH → Res D := intD (fun _ _ => true) fun i j => i - j
def mulC (i j : Int) : Bool := (decide (-(2 ^ 64) < i) && decide (i < 2 ^ 64)) || (decide (-(2 ^ 64) < j) && decide (j < 2 ^ 64))
def mulD (x y : D) (mh : MH) : Res D := match x, y with
  | .int i, .int j => if mulC i j = true then .ok (.int (i * j)) mh else .no
  | .ref n, .int k => match mh[n]? with
    | some (.lst xs) => if -(2 ^ 63) ≤ k ∧ k < 2 ^ 63 ∧ xs.length * k.toNat ≤ sizeLine then .ok (.ref mh.length) (mh ++ [.lst (List.replicate k.toNat xs).flatten]) else .no
    | _ => .no
  | _, _ => .no
def modD : D → D → MH → Res D := intD (fun _ j => decide (0 < j)) fun i j => i % j
def divD : D → D → MH → Res D := intD (fun _ j => decide (0 < j) && decide (j < 2 ^ 64)) fun i j => i / j
def bandD : D → D → MH → Res D := intD (fun _ _ => true) Builtin.bitAnd
def borD : D → D → MH → Res D := intD (fun _ _ => true) Builtin.bitOr
def bxorD : D → D → MH → Res D := intD (fun _ _ => true) Builtin.bitXor
def shlC (i j : Int) : Bool := decide (0 ≤ j) && decide ((Builtin.Int.intBits i : Int) + j ≤ 2 ^ 27)
def shlD : D → D → MH → Res D := intD shlC fun i j => i * 2 ^ j.toNat
def shrD : D → D → MH → Res D := intD (fun _ j => decide (0 ≤ j)) fun i j => i / 2 ^ j.toNat
def powC (i j : Int) : Bool := decide (0 ≤ j) && decide (j ≤ 1000000) && decide (i.natAbs < 2 ^ 64)
def powD : D → D → MH → Res D := intD powC fun i j => i ^ j.toNat
def binD : Operator → D → D → MH → Res D
  | .Add => addD | .Sub => subD | .Mult => mulD | .Mod => modD | .FloorDiv => divD | .BitAnd => bandD | .BitOr => borD | .BitXor => bxorD
  | .LShift => shlD | .RShift => shrD | .Pow => powD
  | _ => fun _ _ _ => .no
def ltD (x y : D) (mh : MH) : Res D := match x, y with
  | .int i, .int j => .ok (.bl (decide (i < j))) mh
  | .str a, .str b => .ok (.bl (decide (a.cps.toList < b.cps.toList))) mh
  | _, _ => .no
def leD (x y : D) (mh : MH) : Res D := match x, y with
  | .int i, .int j => .ok (.bl (decide (i ≤ j))) mh
  | .str a, .str b => .ok (.bl (!decide (b.cps.toList < a.cps.toList))) mh
  | _, _ => .no
def gtD : D → D → MH → Res D := cmpD fun i j => decide (j < i)
def geD : D → D → MH → Res D := cmpD fun i j => decide (j ≤ i)
def isD (x y : D) (mh : MH) : Res D := match y with
  | .non => .ok (.bl (match x with | .non => true | _ => false)) mh
  | _ => .no
def isNotD (x y : D) (mh : MH) : Res D := match y with
  | .non => .ok (.bl (match x with | .non => false | _ => true)) mh
  | _ => .no
/-- data as a whole -/
def toPy : Nat → MH → D → Option PyData
  | 0, _, _ => none
  | k + 1, mh, d => match d with
    | .non => some .none
    | .bl b => some (.bool b)
    | .int i => some (.int i)
    | .str x => some (.str x)
    | .tup ds => (ds.mapM (toPy k mh)).map .tuple
    | .ref n => match mh[n]? with
      | some (.lst ds) => (ds.mapM (toPy k mh)).map .list
      | _ => none
    | .ty _ => none
    | .wl ds => (ds.mapM (toPy k mh)).map .list
def pyDepth : Nat := 12
def scalD : D → D → Option Bool
  | .non, .non => some true | .non, .int _ => some false | .int _, .non => some false | .non, .bl _ => some false | .bl _, .non => some false | .non, .str _ => some false | .str _, .non => some false
  | .int i, .int j => some (decide (i = j)) | .bl i, .bl j => some (decide (i = j)) | .str i, .str j => some (decide (i = j))
  | .int _, .str _ => some false | .str _, .int _ => some false | .bl _, .str _ => some false | .str _, .bl _ => some false
  | _, _ => none
def eqO (x y : D) (mh : MH) : Option Bool := match scalD x y with
  | some b => some b
  | none => match toPy pyDepth mh x, toPy pyDepth mh y with
    | some p, some q => if SeqAt.shaped p = true ∧ SeqAt.shaped q = true then some (PyData.eqv p q) else none
    | _, _ => none
def eqD (x y : D) (mh : MH) : Res D := match eqO x y mh with | some b => .ok (.bl b) mh | none => .no
def neD (x y : D) (mh : MH) : Res D := match eqO x y mh with | some b => .ok (.bl (!b)) mh | none => .no
def flatD : D → Bool
  | .non => true | .bl _ => true | .int _ => true | .str _ => true
  | _ => false
def eqF : D → D → Bool
  | .non, .non => true
  | .bl a, .bl b => a == b
  | .bl a, .int b => (if a then 1 else 0) == b
  | .int a, .bl b => a == (if b then 1 else 0)
  | .int a, .int b => a == b
  | .str a, .str b => a == b
  | _, _ => false
def seqO (y : D) (mh : MH) : Option (List D) := match y with
  | .tup ds => some ds
  | .wl ds => some ds
  | .ref n => match mh[n]? with
    | some (.lst ds) => some ds
    | _ => none
  | _ => none
def valD {κ : Type} [DecidableEq κ] (kvs : List (κ × D)) (k : κ) : Option D := (kvs.find? fun kv => decide (kv.1 = k)).map (·.2)
def keyD : D → Option Key
  | .int i => some (.inl i)
  | .str x => some (.inr x)
  | _ => none
def inO (x y : D) (mh : MH) : Option Bool := match y with
  | .str b => match x with
    | .str a => some (!(Builtin.Str.occurrences b a 0 b.length 1).isEmpty)
    | _ => none
  | _ => match seqO y mh with
    | some ds => if flatD x = true ∧ ds.all flatD = true then some (ds.any fun d => eqF d x) else none
    | none => match y with
      | .ref n => match mh[n]? with
        | some (.dic kvs) => match keyD x with | some k => some (valD kvs k).isSome | none => none
        | _ => none
      | _ => none
def inD (x y : D) (mh : MH) : Res D := match inO x y mh with | some b => .ok (.bl b) mh | none => .no
def ninD (x y : D) (mh : MH) : Res D := match inO x y mh with | some b => .ok (.bl (!b)) mh | none => .no
def compD : CmpOp → D → D → MH → Res D
  | .Eq => eqD | .NotEq => neD | .Lt => ltD | .LtE => leD | .Gt => gtD | .GtE => geD | .Is => isD | .IsNot => isNotD | .In => inD | .NotIn => ninD
def negD (x : D) (mh : MH) : Res D := match x with | .int i => .ok (.int (-i)) mh | _ => .no

section
variable {X : Cx} {cl : Clm} {E : XK}
theorem int_ok {f : Value → Value → Sem Value} {C : Int → Int → Prop} {c : Int → Int → Bool} {g : Int → Int → Int} (h : OpR X f (rI C fun i j => .int (g i j))) (hc : ∀ i j, c i j = true → C i j) : OpR X f (rM X.K cl E (intD c g)) := by
  rintro pins s σ H x y v u Q I rx ry ⟨dx, dy, mh, ι, r1, r2, hr, ok⟩
  cases r1 <;> cases r2 <;> try exact ok.elim
  rename_i i j
  simp only [intD] at ok
  split at ok
  · rename_i k; exact h pins s σ H _ _ v u Q I rx ry ⟨i, j, rfl, rfl, hc i j k, fin hr (.int _) ok⟩
  · exact ok.elim
theorem int_ok0 {f : Value → Value → Sem Value} {g : Int → Int → Int} (h : OpR X f (rI0 fun i j => .int (g i j))) : OpR X f (rM X.K cl E (intD (fun _ _ => true) g)) := by
  rintro pins s σ H x y v u Q I rx ry ⟨dx, dy, mh, ι, r1, r2, hr, ok⟩
  cases r1 <;> cases r2 <;> try exact ok.elim
  rename_i i j
  exact h pins s σ H _ _ v u Q I rx ry ⟨i, j, rfl, rfl, fin hr (.int _) ok⟩
theorem cmp_ok {f : Value → Value → Sem Value} {g : Int → Int → Bool} (h : OpR X f (rI0 fun i j => .bl (g i j))) : OpR X f (rM X.K cl E (cmpD g)) := by
  rintro pins s σ H x y v u Q I rx ry ⟨dx, dy, mh, ι, r1, r2, hr, ok⟩
  cases r1 <;> cases r2 <;> try exact ok.elim
  rename_i i j
  exact h pins s σ H _ _ v u Q I rx ry ⟨i, j, rfl, rfl, fin hr (.bl _) ok⟩
/-- a new list -/
theorem new_lst {H : Hp} {ι : List Addr} {mh : MH} {ds : List D} {vs : List V} {p : Addr} {Q : VK} (hr : HR X.K cl H ι mh) (r : Reps X.K H ι ds vs) (ok : okR X.K cl E ι H (.ok (.ref mh.length) (mh ++ [.lst ds])) (pE X.K Q)) (hp : H p = none) : Q (.ref p) (upd H p (.lst vs)) := by
  refine ok _ (ι ++ [p]) (hr.new hp ⟨_, upd_same, r.mono (.new hp _)⟩) (.new hp _) _ (.ref ?_)
  rw [← hr.len]; simp
theorem new_tup {H : Hp} {ι : List Addr} {mh : MH} {ds : List D} {vs : List V} {p : Addr} {Q : VK} (hr : HR X.K cl H ι mh) (r : Reps X.K H ι ds vs) (ok : okR X.K cl E ι H (.ok (.tup ds) mh) (pE X.K Q)) (hp : H p = none) : Q (.ref p) (upd H p (.tup vs)) :=
  ok _ ι (hr.side hp) (.new0 hp) _ (.tup (SqT.of upd_same) (r.mono (.new0 hp)))
theorem add_ok : OpR X (binaryOp .Add) (rM X.K cl E addD) := by
  rintro pins s σ H x y v u Q I rx ry ⟨dx, dy, mh, ι, r1, r2, hr, ok⟩
  cases r1 <;> cases r2 <;> try exact ok.elim
  · rename_i i j; exact op_add pins s σ H _ _ v u Q I rx ry ⟨i, j, rfl, rfl, fin hr (.int _) ok⟩
  · rename_i i j
    simp only [addD] at ok
    split at ok
    · rename_i hl; exact op_add_str pins s σ H _ _ v u Q I rx ry ⟨i, j, rfl, rfl, hl, fin hr (.str _) ok⟩
    · exact ok.elim
  · rename_i a xs ds s1 q1 b ys es s2 q2
    simp only [addD] at ok
    split at ok
    · rename_i hl
      refine op_catA pins s σ H _ _ v u Q I rx ry ⟨a, b, xs, ys, rfl, rfl, s1, s2, by rw [← q1.length, ← q2.length]; exact hl, fun z => ?_, fun _ z => ?_, fun _ _ p hp => ?_⟩
      · subst z; cases q1; exact fin hr (.tup s2 q2) ok
      · subst z; cases q2; rw [List.append_nil] at ok; exact fin hr (.tup s1 q1) ok
      · exact new_tup hr (q1.append q2) ok hp
    · exact ok.elim
  · rename_i n a hn m b hm
    simp only [addD] at ok
    cases e1 : mh[n]? with
    | none => rw [e1] at ok; exact ok.elim
    | some o1 =>
      cases e2 : mh[m]? with
      | none => rw [e1, e2] at ok; cases o1 <;> exact ok.elim
      | some o2 =>
        rw [e1, e2] at ok
        cases o1 <;> cases o2 <;> try exact ok.elim
        rename_i ds es
        obtain ⟨xs, h1, q1⟩ := hr.ob n a _ hn e1
        obtain ⟨ys, h2, q2⟩ := hr.ob m b _ hm e2
        simp only at ok
        split at ok
        · rename_i hl
          exact op_cat pins s σ H _ _ v u Q I rx ry ⟨a, b, xs, ys, rfl, rfl, h1, h2, by rw [← q1.length, ← q2.length]; exact hl, fun p hp => new_lst hr (q1.append q2) ok hp⟩
        · exact ok.elim
theorem Reps.rep {K : PySem.W.Frag} {H : Hp} {ι : List Addr} {ds : List D} {vs : List V} (r : Reps K H ι ds vs) : ∀ n, Reps K H ι (List.replicate n ds).flatten (List.replicate n vs).flatten
  | 0 => .nil
  | n + 1 => by rw [List.replicate_succ, List.flatten_cons, List.replicate_succ, List.flatten_cons]; exact r.append (Reps.rep r n)
theorem mul_ok : OpR X (binaryOp .Mult) (rM X.K cl E mulD) := by
  rintro pins s σ H x y v u Q I rx ry ⟨dx, dy, mh, ι, r1, r2, hr, ok⟩
  cases r1 <;> cases r2 <;> try exact ok.elim
  · rename_i i j
    simp only [mulD] at ok
    split at ok
    · rename_i k
      refine op_mul pins s σ H _ _ v u Q I rx ry ⟨i, j, rfl, rfl, ?_, fin hr (.int _) ok⟩
      simp only [mulC, Bool.or_eq_true, Bool.and_eq_true, decide_eq_true_eq] at k
      exact k
    · exact ok.elim
  · rename_i n a hn k
    simp only [mulD] at ok
    cases e1 : mh[n]? with
    | none => rw [e1] at ok; exact ok.elim
    | some o1 =>
      rw [e1] at ok
      cases o1 <;> try exact ok.elim
      rename_i ds
      obtain ⟨xs, h1, q1⟩ := hr.ob n a _ hn e1
      simp only at ok
      split at ok
      · rename_i hl
        exact op_rep pins s σ H _ _ v u Q I rx ry ⟨a, k, xs, rfl, rfl, h1, hl.1, hl.2.1, by rw [← q1.length]; exact hl.2.2, fun p hp => new_lst hr (Reps.rep q1 _) ok hp⟩
      · exact ok.elim
theorem bin_ok : ∀ op : Operator, OpR X (binaryOp op) (rM X.K cl E (binD op))
  | .Add => add_ok
  | .Sub => int_ok0 op_sub
  | .Mult => mul_ok
  | .Mod => int_ok op_mod fun i j h => of_decide_eq_true h
  | .FloorDiv => int_ok op_fdivW fun i j h => by
      simp only [Bool.and_eq_true, decide_eq_true_eq] at h
      exact wide_div (b := 64) h.1 (by omega) (by decide) (by decide)
  | .BitAnd => int_ok0 op_and
  | .BitOr => int_ok0 op_or
  | .BitXor => int_ok0 op_xor
  | .LShift => int_ok op_shlW fun i j h => by
      simp only [shlC, Bool.and_eq_true, decide_eq_true_eq] at h
      exact h
  | .RShift => int_ok op_shr fun i j h => of_decide_eq_true h
  | .Pow => int_ok op_pow fun i j h => by
      simp only [powC, Bool.and_eq_true, decide_eq_true_eq] at h
      exact ⟨h.1.1, h.1.2, h.2⟩
  | .Div => fun _ _ _ _ _ _ _ _ _ _ _ _ ⟨_, _, _, _, _, _, _, ok⟩ => ok.elim
  | .MatMult => fun _ _ _ _ _ _ _ _ _ _ _ _ ⟨_, _, _, _, _, _, _, ok⟩ => ok.elim
theorem neg_ok : UnR X (unaryOp .USub) (rM1 X.K cl E negD) := by
  rintro pins s σ H x v Q I rx ⟨dx, mh, ι, r1, hr, ok⟩
  cases r1 <;> try exact ok.elim
  rename_i i
  exact un_neg pins s σ H _ v Q I rx ⟨i, rfl, fin hr (.int _) ok⟩
/-! comparisons -/
theorem lt_ok : OpR X (compareOp .Lt) (rM X.K cl E ltD) := by
  rintro pins s σ H x y v u Q I rx ry ⟨dx, dy, mh, ι, r1, r2, hr, ok⟩
  cases r1 <;> cases r2 <;> try exact ok.elim
  · rename_i i j; exact op_lt pins s σ H _ _ v u Q I rx ry ⟨i, j, rfl, rfl, fin hr (.bl _) ok⟩
  · rename_i i j; exact op_lt_str pins s σ H _ _ v u Q I rx ry ⟨i, j, rfl, rfl, fin hr (.bl _) ok⟩
theorem le_ok : OpR X (compareOp .LtE) (rM X.K cl E leD) := by
  rintro pins s σ H x y v u Q I rx ry ⟨dx, dy, mh, ι, r1, r2, hr, ok⟩
  cases r1 <;> cases r2 <;> try exact ok.elim
  · rename_i i j; exact op_le pins s σ H _ _ v u Q I rx ry ⟨i, j, rfl, rfl, fin hr (.bl _) ok⟩
  · rename_i i j; exact op_le_str pins s σ H _ _ v u Q I rx ry ⟨i, j, rfl, rfl, fin hr (.bl _) ok⟩
theorem is_ok : OpR X (compareOp .Is) (rM X.K cl E isD) := by
  rintro pins s σ H x y v u Q I rx ry ⟨dx, dy, mh, ι, r1, r2, hr, ok⟩
  cases r2 <;> try exact ok.elim
  refine op_isN pins s σ H _ _ v u Q I rx ry ⟨rfl, ?_⟩
  cases r1 <;> exact fin hr (.bl _) ok
theorem isNot_ok : OpR X (compareOp .IsNot) (rM X.K cl E isNotD) := by
  rintro pins s σ H x y v u Q I rx ry ⟨dx, dy, mh, ι, r1, r2, hr, ok⟩
  cases r2 <;> try exact ok.elim
  refine op_notN pins s σ H _ _ v u Q I rx ry ⟨rfl, ?_⟩
  cases r1 <;> exact fin hr (.bl _) ok
section
variable {K : PySem.W.Frag} {H : Hp} {ι : List Addr} {mh : MH}
theorem mapM_nil' {α β : Type} {f : α → Option β} : ([] : List α).mapM f = some [] := rfl
theorem mapM_cons' {α β : Type} {f : α → Option β} {a : α} {l : List α} {r : List β} (h : (a :: l).mapM f = some r) : ∃ b bs, f a = some b ∧ l.mapM f = some bs ∧ r = b :: bs := by
  rw [List.mapM_cons] at h
  cases e : f a with
  | none => rw [e] at h; cases h
  | some b =>
    cases e2 : l.mapM f with
    | none => rw [e, e2] at h; cases h
    | some bs => rw [e, e2] at h; exact ⟨b, bs, rfl, rfl, (Option.some.inj h).symm⟩
theorem dpAll {f : D → Option PyData} (hf : ∀ d v p, Rep K H ι d v → f d = some p → Dp K H v p) : ∀ {ds : List D} {vs : List V} {ps : List PyData}, Reps K H ι ds vs → ds.mapM f = some ps → DpAll K H vs ps
  | _, _, _, .nil, h => by rw [mapM_nil'] at h; cases h; exact .nil
  | _, _, _, .cons r t, h => by
    obtain ⟨b, bs, h1, h2, rfl⟩ := mapM_cons' h
    exact .cons (hf _ _ _ r h1) (dpAll hf t h2)
theorem dp_of (hr : HR K cl H ι mh) : ∀ (k : Nat) (d : D) (v : V) (p : PyData), Rep K H ι d v → toPy k mh d = some p → Dp K H v p
  | 0, _, _, _, _, h => nomatch h
  | k + 1, d, v, p, r, h => by
    cases r with
    | non => cases h; exact .non
    | bl b => cases h; exact .bl b
    | int b => cases h; exact .int b
    | str b => cases h; exact .str b
    | tup s q =>
      obtain ⟨ps, h1, rfl⟩ := Option.map_eq_some_iff.mp h
      exact .tup s (dpAll (fun d v p r e => dp_of hr k d v p r e) q h1)
    | @ref n a hn =>
      simp only [toPy] at h
      cases e1 : mh[n]? with
      | none => rw [e1] at h; cases h
      | some o =>
        rw [e1] at h
        have ho := hr.ob n a o hn e1
        cases o with
        | lst ds =>
          obtain ⟨xs, h1, q⟩ := ho
          obtain ⟨ps, h2, rfl⟩ := Option.map_eq_some_iff.mp h
          exact .lst (SqL.of h1) (dpAll (fun d v p r e => dp_of hr k d v p r e) q h2)
        | _ => cases h
    | ty _ => cases h
    | wl s q =>
      obtain ⟨ps, h1, rfl⟩ := Option.map_eq_some_iff.mp h
      exact .lst s.sq (dpAll (fun d v p r e => dp_of hr k d v p r e) q h1)
theorem scal_of {x y : D} {v u : V} {b : Bool} (r1 : Rep K H ι x v) (r2 : Rep K H ι y u) (h : scalD x y = some b) : scal v u = true ∧ decide (v = u) = b := by
  cases r1 <;> cases r2 <;> simp only [scalD] at h <;> first | cases h | skip
  all_goals first | exact ⟨rfl, by simp⟩ | exact ⟨rfl, by simp_all⟩
end
theorem eq_ok (hu : X.A.units + 64 < cLine) : OpR X (compareOp .Eq) (rM X.K cl E eqD) := by
  rintro pins s σ H x y v u Q I rx ry ⟨dx, dy, mh, ι, r1, r2, hr, ok⟩
  unfold eqD eqO at ok
  cases hs : scalD dx dy with
  | some b =>
    rw [hs] at ok
    obtain ⟨h1, h2⟩ := scal_of r1 r2 hs
    exact op_eq pins s σ H _ _ v u Q I rx ry ⟨h1, by rw [h2]; exact fin hr (.bl _) ok⟩
  | none =>
    rw [hs] at ok
    cases e1 : toPy pyDepth mh dx with
    | none => rw [e1] at ok; exact ok.elim
    | some p =>
      cases e2 : toPy pyDepth mh dy with
      | none => rw [e1, e2] at ok; exact ok.elim
      | some q =>
        rw [e1, e2] at ok
        simp only at ok
        split at ok
        · rename_i b hb
          split at hb
          · rename_i hl; cases hb
            exact op_eqD hu pins s σ H _ _ v u Q I rx ry ⟨p, q, dp_of hr _ _ _ _ r1 e1, dp_of hr _ _ _ _ r2 e2, hl.1, hl.2, fin hr (.bl _) ok⟩
          · cases hb
        · exact ok.elim
theorem ne_ok (hu : X.A.units + 64 < cLine) : OpR X (compareOp .NotEq) (rM X.K cl E neD) := by
  rintro pins s σ H x y v u Q I rx ry ⟨dx, dy, mh, ι, r1, r2, hr, ok⟩
  unfold neD eqO at ok
  cases hs : scalD dx dy with
  | some b =>
    rw [hs] at ok
    obtain ⟨h1, h2⟩ := scal_of r1 r2 hs
    exact op_ne pins s σ H _ _ v u Q I rx ry ⟨h1, by rw [h2]; exact fin hr (.bl _) ok⟩
  | none =>
    rw [hs] at ok
    cases e1 : toPy pyDepth mh dx with
    | none => rw [e1] at ok; exact ok.elim
    | some p =>
      cases e2 : toPy pyDepth mh dy with
      | none => rw [e1, e2] at ok; exact ok.elim
      | some q =>
        rw [e1, e2] at ok
        simp only at ok
        split at ok
        · rename_i b hb
          split at hb
          · rename_i hl; cases hb
            exact op_neD hu pins s σ H _ _ v u Q I rx ry ⟨p, q, dp_of hr _ _ _ _ r1 e1, dp_of hr _ _ _ _ r2 e2, hl.1, hl.2, fin hr (.bl _) ok⟩
          · cases hb
        · exact ok.elim
section
variable {K : PySem.W.Frag} {H : Hp} {ι : List Addr} {mh : MH}
theorem flat_of {d : D} {v : V} (r : Rep K H ι d v) : flatD d = flatV v := by cases r <;> rfl
theorem eqF_of {d e : D} {v u : V} (r1 : Rep K H ι d v) (r2 : Rep K H ι e u) : eqF d e = eqV v u := by cases r1 <;> cases r2 <;> rfl
theorem flats_of : ∀ {ds : List D} {vs : List V}, Reps K H ι ds vs → ds.all flatD = vs.all flatV
  | _, _, .nil => rfl
  | _, _, .cons r t => by rw [List.all_cons, List.all_cons, flat_of r, flats_of t]
theorem anyF_of {x : D} {u : V} (r : Rep K H ι x u) : ∀ {ds : List D} {vs : List V}, Reps K H ι ds vs → (ds.any fun d => eqF d x) = inV u vs
  | _, _, .nil => rfl
  | _, _, .cons q t => by
    have e := anyF_of r t
    unfold inV at e ⊢
    rw [List.any_cons, List.any_cons, eqF_of q r, e]
theorem seq_of {y : D} {v : V} {ds : List D} (hr : HR K cl H ι mh) (r : Rep K H ι y v) (h : seqO y mh = some ds) : ∃ p xs, v = .ref p ∧ (SqL K H p xs ∨ SqT K H p xs) ∧ Reps K H ι ds xs := by
  cases r <;> try cases h
  · rename_i s q; exact ⟨_, _, rfl, .inr s, q⟩
  · rename_i n a hn
    simp only [seqO] at h
    cases e1 : mh[n]? with
    | none => rw [e1] at h; cases h
    | some o =>
      rw [e1] at h
      have ho := hr.ob n a o hn e1
      cases o <;> try cases h
      · obtain ⟨xs, h1, q⟩ := ho; exact ⟨_, xs, rfl, .inl (SqL.of h1), q⟩
  · rename_i s q; exact ⟨_, _, rfl, .inl s.sq, q⟩
theorem key_at {x : D} {v : V} {k : Key} (r : Rep K H ι x v) (h : keyD x = some k) : v = kV k := by
  cases r <;> cases h <;> rfl
theorem val_of {κ : Type} [DecidableEq κ] {k : κ} : ∀ {ds : List (κ × D)} {vs : List (κ × V)}, Prs K H ι ds vs → match valD ds k, valV vs k with | some d, some v => Rep K H ι d v | none, none => True | _, _ => False
  | _, _, .nil => True.intro
  | _, _, .cons (a := p) (b := q) r t => by
    by_cases h : p.1 = k
    · have h' : q.1 = k := r.1 ▸ h
      simp only [valD, valV, List.find?_cons, h, h', decide_true, Option.map_some]
      exact r.2
    · have h' : ¬ q.1 = k := r.1 ▸ h
      have e := val_of (k := k) t
      simp only [valD, valV, List.find?_cons, h, h', decide_false] at e ⊢
      exact e
theorem vals_some {κ : Type} [DecidableEq κ] {k : κ} {ds : List (κ × D)} {vs : List (κ × V)} (r : Prs K H ι ds vs) : (valD ds k).isSome = (valV vs k).isSome := by
  have := val_of (k := k) r
  cases e1 : valD ds k <;> cases e2 : valV vs k <;> rw [e1, e2] at this <;> first | rfl | exact this.elim
theorem val_get {κ : Type} [DecidableEq κ] {k : κ} {ds : List (κ × D)} {vs : List (κ × V)} {d : D} (r : Prs K H ι ds vs) (h : valD ds k = some d) : ∃ v, valV vs k = some v ∧ Rep K H ι d v := by
  have := val_of (k := k) r
  rw [h] at this
  cases e2 : valV vs k with
  | none => rw [e2] at this; exact this.elim
  | some v => rw [e2] at this; exact ⟨v, rfl, this⟩
end
/-- what «in» asks -/
theorem in_core {neg : Bool} {op : CmpOp} (hs : OpR X (compareOp op) (rIn X.K neg)) (ht : OpR X (compareOp op) (fun x y H Q => ∃ i j, x = .str i ∧ y = .str j ∧ Q (.bl (neg ^^ !(Builtin.Str.occurrences j i 0 j.length 1).isEmpty)) H))
    (hd : OpR X (compareOp op) (fun y x H Q => ∃ a o, x = .ref a ∧ DGet H a y o ∧ Q (.bl (neg ^^ o.isSome)) H)) :
    OpR X (compareOp op) (rM X.K cl E fun x y mh => match inO x y mh with | some b => .ok (.bl (neg ^^ b)) mh | none => .no) := by
  rintro pins s σ H x y v u Q I rx ry ⟨dx, dy, mh, ι, r1, r2, hr, ok⟩
  simp only at ok
  have seqc : ∀ ds, seqO dy mh = some ds → inO dx dy mh = (if flatD dx = true ∧ ds.all flatD = true then some (ds.any fun d => eqF d dx) else none) → wpAny (model X.prog X.w) X.A (compareOp op v u) (EP X pins σ Q) X.xe s := fun ds e1 e2 => by
    rw [e2] at ok
    obtain ⟨p, xs, rfl, sq, q⟩ := seq_of hr r2 e1
    split at ok
    · rename_i b hb
      split at hb
      · rename_i hf
        cases hb
        refine hs pins s σ H _ _ v u Q I rx ry ⟨p, xs, rfl, sq, flat_of r1 ▸ hf.1, flats_of q ▸ hf.2, ?_⟩
        have ok' := fin hr (.bl _) ok
        rw [anyF_of r1 q] at ok'
        cases neg <;> simpa using ok'
      · cases hb
    · exact ok.elim
  cases r2 with
  | non => simp only [inO, seqO] at ok; exact ok.elim
  | bl b => simp only [inO, seqO] at ok; exact ok.elim
  | int b => simp only [inO, seqO] at ok; exact ok.elim
  | str b =>
    cases r1 <;> simp only [inO] at ok <;> try exact ok.elim
    rename_i a
    exact ht pins s σ H _ _ v u Q I rx ry ⟨a, b, rfl, rfl, fin hr (.bl _) ok⟩
  | tup sq q => exact seqc _ rfl (by simp only [inO, seqO])
  | ty b => simp only [inO, seqO] at ok; exact ok.elim
  | wl sq q => exact seqc _ rfl (by simp only [inO, seqO])
  | @ref n a hn =>
    cases e1 : mh[n]? with
    | none => simp only [inO, seqO, e1] at ok; exact ok.elim
    | some o =>
      have ho := hr.ob n a o hn e1
      cases o with
      | lst ds => exact seqc ds (by simp only [seqO, e1]) (by simp only [inO, seqO, e1])
      | dic kvs =>
        simp only [inO, seqO, e1] at ok
        cases hk : keyD dx with
        | none => rw [hk] at ok; exact ok.elim
        | some k =>
          rw [hk] at ok
          have ex := key_at r1 hk
          subst ex
          obtain ⟨vs, h1, q⟩ := ho
          refine hd pins s σ H _ _ v u Q I rx ry ⟨a, _, rfl, DGet.k h1, ?_⟩
          rw [← vals_some q]
          exact fin hr (.bl _) ok
      | dit kvs => simp only [inO, seqO, e1] at ok; exact ok.elim
      | dil kvs => simp only [inO, seqO, e1] at ok; exact ok.elim
      | ins C fs => simp only [inO, seqO, e1] at ok; exact ok.elim
theorem in_ok (hu : X.A.units + 1 < cLine) : OpR X (compareOp .In) (rM X.K cl E inD) := by
  have h := in_core (X := X) (cl := cl) (E := E) (neg := false) op_in_seq (by simpa using op_in_str) (by
    rintro pins s σ H x y v u Q I rx ry ⟨a, o, rfl, g, q⟩
    cases ry
    exact d_in hu I g rx fun s' I' => ⟨.bl _, H, I', rfl, by simpa using q⟩)
  have e : (fun x y mh => match inO x y mh with | some b => Res.ok (D.bl (false ^^ b)) mh | none => .no) = inD := by
    funext x y mh; unfold inD; cases inO x y mh <;> simp
  exact e ▸ h
theorem nin_ok (hu : X.A.units + 1 < cLine) : OpR X (compareOp .NotIn) (rM X.K cl E ninD) := by
  have h := in_core (X := X) (cl := cl) (E := E) (neg := true) op_notIn_seq (by simpa using op_notIn_str) (by
    rintro pins s σ H x y v u Q I rx ry ⟨a, o, rfl, g, q⟩
    cases ry
    exact d_notIn hu I g rx fun s' I' => ⟨.bl _, H, I', rfl, by simpa using q⟩)
  have e : (fun x y mh => match inO x y mh with | some b => Res.ok (D.bl (true ^^ b)) mh | none => .no) = ninD := by
    funext x y mh; unfold ninD; cases inO x y mh <;> simp
  exact e ▸ h
theorem comp_ok (hu : X.A.units + 64 < cLine) : ∀ op : CmpOp, OpR X (compareOp op) (rM X.K cl E (compD op))
  | .Eq => eq_ok hu
  | .NotEq => ne_ok hu
  | .Lt => lt_ok
  | .LtE => le_ok
  | .Gt => cmp_ok op_gt
  | .GtE => cmp_ok op_ge
  | .Is => is_ok
  | .IsNot => isNot_ok
  | .In => in_ok (by omega)
  | .NotIn => nin_ok (by omega)
end
end Mir
namespace Mir
open PySem PySem.Spec L2

/-! ### subscripts, slices -/
def leafD : D → Option Leaf
  | .non => some .none
  | .bl b => some (.num (if b then 1 else 0))
  | .int i => some (.num i)
  | .str x => some (.text x)
  | _ => none
def ixO (x y : D) (mh : MH) : Option D := match x, y with
  | .tup ds, .int i => atI ds i
  | .wl ds, .int i => atI ds i
  | .str z, .int i => if z.length ≤ sizeLine then (atI z.cps.toList i).map fun c => .str ⟨#[c]⟩ else none
  | .ref n, y => match mh[n]? with
    | some (.lst ds) => match y with | .int i => atI ds i | _ => none
    | some (.dic kvs) => match keyD y with | some k => valD kvs k | none => none
    | some (.dil kvs) => match leafD y with | some k => valD kvs k | none => none
    | _ => none
  | _, _ => none
def ixD (x y : D) (mh : MH) : Res D := match ixO x y mh with | some d => .ok d mh | none => .no
def cutD {α : Type} (xs : List α) (lo hi : Option Int) : List α := (xs.drop (HT.sIx xs.length 0 lo)).take (HT.sIx xs.length xs.length hi - HT.sIx xs.length 0 lo)
def slD (x : D) (lo hi : Option Int) (mh : MH) : Res D := match x with
  | .tup ds => .ok (.tup (cutD ds lo hi)) mh
  | .wl ds => .ok (.ref mh.length) (mh ++ [.lst (cutD ds lo hi)])
  | .ref n => match mh[n]? with
    | some (.lst ds) => .ok (.ref mh.length) (mh ++ [.lst (cutD ds lo hi)])
    | _ => .no
  | _ => .no
def partM (a : ME) : Ro → MH → Res (Option Int) := fun ρ h => (a ρ h).bind fun x h => match x with | .int i => .ok (some i) h | _ => .no
def noPart : Ro → MH → Res (Option Int) := fun _ h => .ok none h
def sliceM (a : ME) (lo hi : Ro → MH → Res (Option Int)) : ME := fun ρ h => (a ρ h).bind fun x h => (lo ρ h).bind fun l h => (hi ρ h).bind fun u h => slD x l u h
section
variable {K : PySem.W.Frag} {cl : Clm} {E : XK} {H : Hp} {ι : List Addr} {mh : MH}
theorem atI_of {ds : List D} {vs : List V} {i : Int} {d : D} (r : Reps K H ι ds vs) (h : atI ds i = some d) : ∃ v, atI vs i = some v ∧ Rep K H ι d v := by
  unfold atI at h ⊢
  rw [r.length] at h
  cases e : ixN vs.length i with
  | none => rw [e] at h; cases h
  | some j => rw [e] at h; exact r.get h
theorem Reps.cut {ds : List D} {vs : List V} {lo hi : Option Int} (r : Reps K H ι ds vs) : Reps K H ι (cutD ds lo hi) (cutV vs lo hi) := by
  unfold cutD cutV
  rw [r.length]
  exact (r.drop _).take _
end
section
variable {X : Cx} {cl : Clm} {E : XK} {a e : Expr} {pos p2 : Pos} {ma : ME}
theorem ix_dict (hu : X.A.units + 1 < cLine) : IxR X (fun x y H Q => ∃ a v, x = .ref a ∧ DGet H a y (some v) ∧ Q v H) := by
  rintro value slice pins s σ H x y v u Q I rx ry ⟨a, z, rfl, g, q⟩ hs
  cases rx
  exact PyProof.Rows.tail_any (dict_typeIs I g) PySem.F.slot_dict_getitem.lookup (d_getItem hu I g ry fun w' s3 I3 rw' => ⟨z, H, I3, rw', q⟩) hs
theorem leaf_at {K : PySem.W.Frag} {H : Hp} {ι : List Addr} {x : D} {v : V} {u : Value} {k : Leaf} {P : Program} {w : World} (r : Rep K H ι x v) (q : RelV v u) (h : leafD x = some k) : (leafKind P w).is k u = true := by
  cases r <;> cases h
  · cases q; rfl
  · rename_i b; cases q; cases b <;> rfl
  · obtain ⟨t, rfl⟩ := q; show Leaf.isOf (.num _) (.int _ t) = true; simp [Leaf.isOf, Value.isInt]
  · obtain ⟨t, rfl⟩ := q; show Value.isStrOf _ (.str _ t) = true; simp [Value.isStrOf]
theorem bd_of {P : Program} {w : World} {H : Hp} {h : Heap} {a : Addr} {vs : List (Leaf × V)} (ok : HOk P w H h) (e : H a = some (bO P w a vs)) : BD P w a vs h := (show ObjOk P w H h a (bO P w a vs) from ok a _ e).1
theorem ix_ok (hcP : cl.P = X.prog) (hcw : cl.w = X.w) (hu : X.A.units + 1 < cLine) : IxR X (rM X.K cl E ixD) := by
  rintro value slice pins s σ H x y v u Q I rx ry ⟨dx, dy, mh, ι, r1, r2, hr, ok⟩ hs
  unfold ixD at ok
  cases ho : ixO dx dy mh with
  | none => rw [ho] at ok; exact ok.elim
  | some d =>
    rw [ho] at ok
    cases r1 with
    | non => cases ho
    | bl _ => cases ho
    | int _ => cases ho
    | ty _ => cases ho
    | tup s1 q1 =>
      cases r2 <;> try cases ho
      rename_i i
      obtain ⟨w, h1, h2⟩ := atI_of q1 ho
      exact ix_tup value slice pins s σ H _ _ v u Q I rx ry ⟨_, _, i, w, rfl, rfl, s1, h1, fin hr h2 ok⟩ hs
    | wl s1 q1 =>
      cases r2 <;> try cases ho
      rename_i i
      obtain ⟨w, h1, h2⟩ := atI_of q1 ho
      exact ix_list value slice pins s σ H _ _ v u Q I rx ry ⟨_, _, i, w, rfl, rfl, s1.sq, h1, fin hr h2 ok⟩ hs
    | str z =>
      cases r2 <;> try cases ho
      rename_i i
      simp only [ixO] at ho
      split at ho
      · rename_i hl
        obtain ⟨c, h1, rfl⟩ := Option.map_eq_some_iff.mp ho
        exact ix_str value slice pins s σ H _ _ v u Q I rx ry ⟨z, i, c, rfl, rfl, hl, h1, fin hr (.str _) ok⟩ hs
      · cases ho
    | @ref n b hn =>
      simp only [ixO] at ho
      cases e1 : mh[n]? with
      | none => rw [e1] at ho; cases ho
      | some o =>
        rw [e1] at ho
        have hb := hr.ob n b o hn e1
        cases o with
        | lst ds =>
          obtain ⟨xs, g1, g2⟩ := hb
          cases r2 <;> try cases ho
          rename_i i
          obtain ⟨w, h1, h2⟩ := atI_of g2 ho
          exact ix_list value slice pins s σ H _ _ v u Q I rx ry ⟨_, _, i, w, rfl, rfl, SqL.of g1, h1, fin hr h2 ok⟩ hs
        | dic kvs =>
          obtain ⟨vs, g1, g2⟩ := hb
          simp only at ho
          cases hk : keyD dy with
          | none => rw [hk] at ho; cases ho
          | some k =>
            rw [hk] at ho
            have ey := key_at r2 hk
            subst ey
            obtain ⟨w, h1, h2⟩ := val_get g2 ho
            have g := DGet.k (k := k) g1
            rw [h1] at g
            exact ix_dict hu value slice pins s σ H _ _ v u Q I rx ry ⟨b, w, rfl, g, fin hr h2 ok⟩ hs
        | dil kvs =>
          obtain ⟨vs, g1, g2⟩ := hb
          simp only at ho
          cases hk : leafD dy with
          | none => rw [hk] at ho; cases ho
          | some k =>
            rw [hk] at ho
            obtain ⟨w, h1, h2⟩ := val_get g2 ho
            rw [hcP, hcw] at g1
            obtain ⟨z, hd, us, rel, dd⟩ := bd_of I.hok g1
            obtain ⟨w', hw, rw'⟩ := RelO.some_of (v := w) (o := valueAt us k) (by rw [← h1]; exact rel.val k)
            cases rx
            exact PyProof.Rows.tail_any dd.typeIs PySem.F.slot_dict_getitem.lookup (wpAny_getItem_of (leaf_at r2 ry hk) dd.mapOf hw ⟨w, H, I.tok _, rw', fin hr h2 ok⟩) hs
        | _ => cases ho
def tMO (K : PySem.W.Frag) (cl : Clm) (E : XK) (m : Ro → MH → Res (Option Int)) : TO := fun σ H Q => ∃ ρ mh ι, SR K H ι ρ σ ∧ HR K cl H ι mh ∧ okR K cl E ι H (m ρ mh) fun o H' _ => Q o H'
theorem m_part (ha : PE X a (tM X.K cl E ma)) : PO X (some a) (tMO X.K cl E (partM ma)) := by
  refine ⟨fun pins s σ H Q I ⟨ρ, mh, ι, sr, hr, ok⟩ => (po_some ha).run pins s σ H Q I ?_⟩
  refine tM.mono (step sr hr ok) fun v H1 ⟨d1, mh1, ι1, e1, sr1, hr1, r1, q1⟩ => ?_
  cases r1 <;> try exact q1.elim
  exact ⟨_, rfl, q1 H1 ι1 hr1 .refl⟩
theorem m_nopart : PO X none (tMO X.K cl E noPart) := ⟨fun pins s σ H Q I ⟨ρ, mh, ι, sr, hr, ok⟩ => po_none.run pins s σ H Q I (ok H ι hr .refl)⟩
theorem sl_ok : SlR X (fun x lo hi H Q => ∃ dx mh ι, Rep X.K H ι dx x ∧ HR X.K cl H ι mh ∧ okR X.K cl E ι H (slD dx lo hi mh) (pE X.K Q)) := by
  rintro pins s σ H x v vl vu lo hi sl Q I rx hs pl pu ⟨dx, mh, ι, r1, hr, ok⟩
  cases r1 with
  | tup s1 q1 =>
    refine sl_tupA pins s σ H _ v vl vu lo hi sl Q I rx hs pl pu ⟨_, _, rfl, s1, fun hw => ?_, fun _ p hp => new_tup hr q1.cut ok hp⟩
    rename_i xs ds
    have e : cutD ds lo hi = ds := by
      unfold cutD
      rw [q1.length, hw.1, hw.2, List.drop_zero, Nat.sub_zero, ← q1.length, List.take_length]
    refine fin hr (.tup s1 ?_) ok
    rw [e]; exact q1
  | @ref n b hn =>
    simp only [slD] at ok
    cases e1 : mh[n]? with
    | none => rw [e1] at ok; exact ok.elim
    | some o =>
      rw [e1] at ok
      have hb := hr.ob n b o hn e1
      cases o <;> try exact ok.elim
      · obtain ⟨xs, g1, g2⟩ := hb
        exact sl_list pins s σ H _ v vl vu lo hi sl Q I rx hs pl pu ⟨_, _, rfl, SqL.of g1, fun p hp => new_lst hr g2.cut ok hp⟩
  | wl s1 q1 => exact sl_list pins s σ H _ v vl vu lo hi sl Q I rx hs pl pu ⟨_, _, rfl, s1.sq, fun p hp => new_lst hr q1.cut ok hp⟩
  | _ => exact ok.elim
theorem m_slice {lo hi : Option Expr} {ml mu : Ro → MH → Res (Option Int)} (he : PE X e (tM X.K cl E ma)) (hl : PO X lo (tMO X.K cl E ml)) (hu : PO X hi (tMO X.K cl E mu)) : PE X (.Subscript e (.Slice lo hi none p2) pos) (tM X.K cl E (sliceM ma ml mu)) :=
  (pe_slice sl_ok he hl hu).imp fun σ H Q ⟨ρ, mh, ι, sr, hr, ok⟩ => by
    refine tM.mono (step sr hr ok) fun v H1 ⟨d1, mh1, ι1, e1, sr1, hr1, r1, q1⟩ => ?_
    refine ⟨ρ, mh1, ι1, sr1, hr1, okR.imp q1.bnd fun o H2 ι2 e2 ⟨mh2, hr2, q2⟩ => ?_⟩
    refine ⟨ρ, mh2, ι2, sr1.mono e2, hr2, okR.imp q2.bnd fun o' H3 ι3 e3 ⟨mh3, hr3, q3⟩ => ?_⟩
    exact ⟨d1, mh3, ι3, (r1.mono e2).mono e3, hr3, q3⟩
end

/-! ### built-ins by values -/
def lenO (x : D) (mh : MH) : Option Nat := match x with
  | .str y => if y.length ≤ sizeLine then some y.length else none
  | .tup ds => some ds.length
  | .wl ds => some ds.length
  | .ref n => match mh[n]? with
    | some (.lst ds) => some ds.length
    | some (.dic kvs) => some kvs.length
    | _ => none
  | _ => none
def intsO : List D → Option (List Int)
  | [] => some []
  | .int i :: r => (intsO r).map (i :: ·)
  | _ => none
def tyN (x : D) (mh : MH) : Option String := match x with
  | .non => some "NoneType" | .bl _ => some "bool" | .int _ => some "int" | .str _ => some "str" | .tup _ => some "tuple"
  | .ref n => match mh[n]? with | some (.lst _) => some "list" | some (.dic _) => some "dict" | _ => none
  | .ty _ => none
  | .wl _ => some "list"
def bltD (f : String) (xs : List D) (mh : MH) : Res D :=
  if f = "len" then match xs with | [x] => (match lenO x mh with | some n => .ok (.int n) mh | none => .no) | _ => .no
  else if f = "abs" then match xs with | [.int i] => .ok (.int (if i < 0 then -i else i)) mh | _ => .no
  else if f = "ord" then match xs with | [.str x] => if x.length = 1 then .ok (.int (x.cps.getD 0 0 : Nat)) mh else .no | _ => .no
  else if f = "max" then match xs with | [.int i, .int j] => .ok (.int (if j > i then j else i)) mh | _ => .no
  else if f = "min" then match xs with | [.int i, .int j] => .ok (.int (if j < i then j else i)) mh | _ => .no
  else if f = "sum" then match xs with | [x] => (match (seqO x mh).bind intsO with | some ns => (match x with | .ref _ => .ok (.int ns.sum) mh | _ => .no) | none => .no) | _ => .no
  else if f = "isinstance" then match xs with | [x, .ty b] => (match (tyN x mh).bind fun a => kitB a b with | some r => .ok (.bl r) mh | none => .no) | _ => .no
  else .no
def tyD (f : String) (xs : List D) (mh : MH) : Res D :=
  if f = "int" then match xs with | [.int i] => .ok (.int i) mh | [.bl k] => .ok (.int (if k then 1 else 0)) mh | _ => .no
  else if f = "tuple" then match xs with | [x] => (match seqO x mh with | some ds => .ok (.tup ds) mh | none => .no) | _ => .no
  else if f = "list" then match xs with | [x] => (match seqO x mh with | some ds => .ok (.ref mh.length) (mh ++ [.lst ds]) | none => .no) | _ => .no
  else .no
section
variable {K : PySem.W.Frag} {cl : Clm} {H : Hp} {ι : List Addr} {mh : MH}
theorem ints_of : ∀ {ds : List D} {vs : List V} {ns : List Int}, Reps K H ι ds vs → intsO ds = some ns → vs = ns.map V.int
  | _, _, _, .nil, h => by cases h; rfl
  | _, _, _, .cons r t, h => by
    cases r <;> try cases h
    obtain ⟨ms, h1, rfl⟩ := Option.map_eq_some_iff.mp h
    rw [ints_of t h1]; rfl
theorem Prs.len {κ : Type} : ∀ {ds : List (κ × D)} {vs : List (κ × V)}, Prs K H ι ds vs → ds.length = vs.length
  | _, _, .nil => rfl
  | _, _, .cons _ t => congrArg (· + 1) (Prs.len t)
theorem one_of {x : D} {vs : List V} (r : Reps K H ι [x] vs) : ∃ v, vs = [v] ∧ Rep K H ι x v := by
  cases r with | cons r t => cases t; exact ⟨_, rfl, r⟩
theorem two_of {x y : D} {vs : List V} (r : Reps K H ι [x, y] vs) : ∃ v u, vs = [v, u] ∧ Rep K H ι x v ∧ Rep K H ι y u := by
  cases r with | cons r t => obtain ⟨u, rfl, q⟩ := one_of t; exact ⟨_, u, rfl, r, q⟩
end
section
variable {X : Cx} {cl : Clm} {E : XK}
theorem len_ok : CallR X (.builtin "len") (rMA X.K cl E (bltD "len")) := by
  rintro pins s σ H xs us Q I r ⟨ds, mh, ι, r1, hr, ok⟩
  unfold bltD at ok
  rw [if_pos rfl] at ok
  match ds, r1, ok with
  | [], _, ok => exact ok.elim
  | _ :: _ :: _, _, ok => exact ok.elim
  | [x], r1, ok =>
    obtain ⟨v, rfl, rx⟩ := one_of r1
    simp only at ok
    cases hl : lenO x mh with
    | none => rw [hl] at ok; exact ok.elim
    | some n =>
      rw [hl] at ok
      have q := fin hr (.int (n : Int)) ok
      cases rx with
      | str y =>
        simp only [lenO] at hl
        split at hl
        · rename_i z; cases hl; exact call_len pins s σ H _ us Q I r ⟨_, _, rfl, ⟨z, rfl⟩, q⟩
        · cases hl
      | wl s1 q1 => cases hl; exact call_len pins s σ H _ us Q I r ⟨_, _, rfl, .inl ⟨_, s1.sq, q1.length⟩, q⟩
      | tup s1 q1 => cases hl; exact call_len pins s σ H _ us Q I r ⟨_, _, rfl, .inr ⟨_, s1, q1.length⟩, q⟩
      | @ref m b hn =>
        simp only [lenO] at hl
        cases e1 : mh[m]? with
        | none => rw [e1] at hl; cases hl
        | some o =>
          rw [e1] at hl
          have hb := hr.ob m b o hn e1
          cases o with
          | lst ds => cases hl; obtain ⟨ys, g1, g2⟩ := hb; exact call_len pins s σ H _ us Q I r ⟨_, _, rfl, .inl ⟨_, SqL.of g1, g2.length⟩, q⟩
          | dic kvs =>
            cases hl
            obtain ⟨ys, g1, g2⟩ := hb
            obtain ⟨u, rfl, ru⟩ := vals1 r
            cases ru
            refine d_len I (Rd.of g1) fun t s' I' => ⟨.int kvs.length, H, I', ⟨t, ?_⟩, q⟩
            rw [Prs.len g2]
          | _ => cases hl
      | _ => cases hl
theorem abs_ok : CallR X (.builtin "abs") (rMA X.K cl E (bltD "abs")) := by
  rintro pins s σ H xs us Q I r ⟨ds, mh, ι, r1, hr, ok⟩
  unfold bltD at ok
  rw [if_neg (by decide), if_pos rfl] at ok
  split at ok
  · obtain ⟨v, rfl, rx⟩ := one_of r1
    cases rx
    exact call_abs pins s σ H _ us Q I r ⟨_, rfl, fin hr (.int _) ok⟩
  · exact ok.elim
theorem ord_ok : CallR X (.builtin "ord") (rMA X.K cl E (bltD "ord")) := by
  rintro pins s σ H xs us Q I r ⟨ds, mh, ι, r1, hr, ok⟩
  unfold bltD at ok
  rw [if_neg (by decide), if_neg (by decide), if_pos rfl] at ok
  split at ok
  · obtain ⟨v, rfl, rx⟩ := one_of r1
    cases rx
    split at ok
    · rename_i hl; exact call_ord pins s σ H _ us Q I r ⟨_, rfl, hl, fin hr (.int _) ok⟩
    · exact ok.elim
  · exact ok.elim
theorem max_ok (hc : X.calm = true) : CallR X (.builtin "max") (rMA X.K cl E (bltD "max")) := by
  rintro pins s σ H xs us Q I r ⟨ds, mh, ι, r1, hr, ok⟩
  unfold bltD at ok
  rw [if_neg (by decide), if_neg (by decide), if_neg (by decide), if_pos rfl] at ok
  split at ok
  · obtain ⟨v, u, rfl, rx, ry⟩ := two_of r1
    cases rx; cases ry
    exact call_max2 hc pins s σ H _ us Q I r ⟨_, _, rfl, fin hr (.int _) ok⟩
  · exact ok.elim
theorem min_ok (hc : X.calm = true) : CallR X (.builtin "min") (rMA X.K cl E (bltD "min")) := by
  rintro pins s σ H xs us Q I r ⟨ds, mh, ι, r1, hr, ok⟩
  unfold bltD at ok
  rw [if_neg (by decide), if_neg (by decide), if_neg (by decide), if_neg (by decide), if_pos rfl] at ok
  split at ok
  · obtain ⟨v, u, rfl, rx, ry⟩ := two_of r1
    cases rx; cases ry
    exact call_min2 hc pins s σ H _ us Q I r ⟨_, _, rfl, fin hr (.int _) ok⟩
  · exact ok.elim
theorem sum_ok (hc : X.calm = true) : CallR X (.builtin "sum") (rMA X.K cl E (bltD "sum")) := by
  rintro pins s σ H xs us Q I r ⟨ds, mh, ι, r1, hr, ok⟩
  unfold bltD at ok
  rw [if_neg (by decide), if_neg (by decide), if_neg (by decide), if_neg (by decide), if_neg (by decide), if_pos rfl] at ok
  split at ok
  · obtain ⟨v, rfl, rx⟩ := one_of r1
    split at ok
    · rename_i x ns hns
      obtain ⟨es, h1, h2⟩ := Option.bind_eq_some_iff.mp hns
      split at ok
      · rename_i n
        cases rx
        rename_i a hn
        simp only [seqO] at h1
        cases e1 : mh[n]? with
        | none => rw [e1] at h1; cases h1
        | some o =>
          rw [e1] at h1
          have hb := hr.ob n a o hn e1
          cases o <;> try cases h1
          · obtain ⟨ys, g1, g2⟩ := hb
            rw [ints_of g2 h2] at g1
            exact cr_sum hc pins s σ H _ us Q I r ⟨a, ns, rfl, SqL.of g1, fin hr (.int _) ok⟩
      · exact ok.elim
    · exact ok.elim
  · exact ok.elim
theorem ty_of {H : Hp} {ι : List Addr} {mh : MH} {x : D} {v : V} {a : String} (hr : HR X.K cl H ι mh) (r : Rep X.K H ι x v) (h : tyN x mh = some a) : TyX X.K H v (.type a) := by
  cases r with
  | non => cases h; exact .base .non
  | bl _ => cases h; exact .base (.bl _)
  | int _ => cases h; exact .base (.int _)
  | str _ => cases h; exact .base (.str _)
  | tup s q =>
    cases h
    rcases s with (s | ⟨o, s⟩) | ⟨o, its, n, hk, hc, _⟩
    · exact .base (.tup s)
    · exact .fTuple s
    · exact .kTuple hk hc
  | @ref n b hn =>
    simp only [tyN] at h
    cases e1 : mh[n]? with
    | none => rw [e1] at h; cases h
    | some o =>
      rw [e1] at h
      have hb := hr.ob n b o hn e1
      cases o <;> try cases h
      · obtain ⟨ys, g1, g2⟩ := hb; exact .base (.lst g1)
      · obtain ⟨ys, g1, g2⟩ := hb; exact .base (.dK g1)
  | ty _ => cases h
  | wl s q =>
    cases h
    rcases s with ⟨o, s⟩ | ⟨o, its, n, hk, hc, _⟩
    · exact .base (.frz s)
    · exact .kList hk hc
theorem isi_ok : CallR X (.builtin "isinstance") (rMA X.K cl E (bltD "isinstance")) := by
  rintro pins s σ H xs us Q I r ⟨ds, mh, ι, r1, hr, ok⟩
  unfold bltD at ok
  rw [if_neg (by decide), if_neg (by decide), if_neg (by decide), if_neg (by decide), if_neg (by decide), if_neg (by decide), if_pos rfl] at ok
  split at ok
  · obtain ⟨v, u, rfl, rx, ry⟩ := two_of r1
    cases ry
    split at ok
    · rename_i k hk
      obtain ⟨a, h1, h2⟩ := Option.bind_eq_some_iff.mp hk
      exact call_isi pins s σ H _ us Q I r ⟨_, _, _, _, k, rfl, .ty _, ty_of hr rx h1, kit_ty h2, fin hr (.bl _) ok⟩
    · exact ok.elim
  · exact ok.elim
theorem blt_ok (hc : X.calm = true) : ∀ f ∈ ["len", "abs", "ord", "max", "min", "sum", "isinstance"], CallR X (.builtin f) (rMA X.K cl E (bltD f)) := by
  intro f hf
  simp only [List.mem_cons, List.not_mem_nil, or_false] at hf
  rcases hf with rfl | rfl | rfl | rfl | rfl | rfl | rfl
  · exact len_ok
  · exact abs_ok
  · exact ord_ok
  · exact max_ok hc
  · exact min_ok hc
  · exact sum_ok hc
  · exact isi_ok
theorem int_ty_ok : CallR X (.type "int") (rMA X.K cl E (tyD "int")) := by
  rintro pins s σ H xs us Q I r ⟨ds, mh, ι, r1, hr, ok⟩
  unfold tyD at ok
  rw [if_pos rfl] at ok
  split at ok
  · obtain ⟨v, rfl, rx⟩ := one_of r1
    cases rx
    exact call_int1 pins s σ H _ us Q I r (.inl ⟨_, rfl, fin hr (.int _) ok⟩)
  · obtain ⟨v, rfl, rx⟩ := one_of r1
    cases rx
    exact call_int1 pins s σ H _ us Q I r (.inr ⟨_, rfl, fin hr (.int _) ok⟩)
  · exact ok.elim
theorem tuple_ty_ok : CallR X (.type "tuple") (rMA X.K cl E (tyD "tuple")) := by
  rintro pins s σ H xs us Q I r ⟨ds, mh, ι, r1, hr, ok⟩
  unfold tyD at ok
  rw [if_neg (by decide), if_pos rfl] at ok
  split at ok
  · obtain ⟨v, rfl, rx⟩ := one_of r1
    split at ok
    · rename_i es he
      obtain ⟨p, ys, rfl, sq, q⟩ := seq_of hr rx he
      refine call_tuple_of pins s σ H _ us Q I r ⟨p, ys, rfl, ?_⟩
      rcases sq with sq | sq
      · exact .inl ⟨sq, fun l hl => new_tup hr q ok hl⟩
      · exact .inr ⟨sq, fin hr (.tup sq q) ok⟩
    · exact ok.elim
  · exact ok.elim
theorem list_ty_ok : CallR X (.type "list") (rMA X.K cl E (tyD "list")) := by
  rintro pins s σ H xs us Q I r ⟨ds, mh, ι, r1, hr, ok⟩
  unfold tyD at ok
  rw [if_neg (by decide), if_neg (by decide), if_pos rfl] at ok
  split at ok
  · obtain ⟨v, rfl, rx⟩ := one_of r1
    split at ok
    · rename_i es he
      obtain ⟨p, ys, rfl, sq, q⟩ := seq_of hr rx he
      exact call_list_of pins s σ H _ us Q I r ⟨p, ys, rfl, sq, fun l hl => new_lst hr q ok hl⟩
    · exact ok.elim
  · exact ok.elim
theorem tyc_ok : ∀ f ∈ ["int", "tuple", "list"], CallR X (.type f) (rMA X.K cl E (tyD f)) := by
  intro f hf
  simp only [List.mem_cons, List.not_mem_nil, or_false] at hf
  rcases hf with rfl | rfl | rfl
  · exact int_ty_ok
  · exact tuple_ty_ok
  · exact list_ty_ok
end
end Mir
namespace Mir
open PySem PySem.Spec L2

/-! ### statements: the mirror's words -/
def nxS : MS := fun ρ h => .ok (.nx, ρ) h
def noS : MS := fun _ _ => .no
def bkS : MS := fun ρ h => .ok (.bk, ρ) h
def ctS : MS := fun ρ h => .ok (.ct, ρ) h
def seqS (a b : MS) : MS := fun ρ h => (a ρ h).bind fun r h => match r.1 with | .nx => b r.2 h | _ => .ok r h
def setS (i : Nat) (e : ME) : MS := fun ρ h => (e ρ h).bind fun d h => .ok (.nx, ρ.set i (some d)) h
def dropS (e : ME) : MS := fun ρ h => (e ρ h).bind fun _ h => .ok (.nx, ρ) h
def retS (e : ME) : MS := fun ρ h => (e ρ h).bind fun d h => .ok (.rt d, ρ) h
def retN : MS := fun ρ h => .ok (.rt .non, ρ) h
def ifS (t : MT) (a b : MS) : MS := fun ρ h => (t ρ h).bind fun c h => if c = true then a ρ h else b ρ h
def augS (i : Nat) (g : D → D → MH → Res D) (e : ME) : MS := fun ρ h => match ρ[i]? with
  | some (some x) => (e ρ h).bind fun y h => (g x y h).bind fun z h => .ok (.nx, ρ.set i (some z)) h
  | _ => .no
abbrev MG := D → Ro → MH → Res Ro
def nameG (i : Nat) : MG := fun d ρ h => .ok (ρ.set i (some d)) h
def namesG : List Nat → List D → Ro → Ro
  | i :: is, d :: ds, ρ => namesG is ds (ρ.set i (some d))
  | _, _, ρ => ρ
def tupG (is : List Nat) : MG := fun d ρ h => match d with | .tup ds => if ds.length = is.length then .ok (namesG is ds ρ) h else .no | _ => .no
def asgS (e : ME) (g : MG) : MS := fun ρ h => (e ρ h).bind fun d h => (g d ρ h).bind fun ρ' h => .ok (.nx, ρ') h
def setI (o i v : D) (h : MH) : Res Unit := match o with
  | .ref n => match h[n]? with
    | some (.lst ds) => (match i with | .int k => (match ixN ds.length k with | some j => .ok () (h.set n (.lst (ds.set j v))) | none => .no) | _ => .no)
    | _ => .no
  | _ => .no
def putD {κ : Type} [DecidableEq κ] (kvs : List (κ × D)) (k : κ) (v : D) : List (κ × D) :=
  if (kvs.any fun kv => decide (kv.1 = k)) = true then kvs.map fun kv => if kv.1 = k then (kv.1, v) else kv else kvs ++ [(k, v)]
def setK (o i v : D) (h : MH) : Res Unit := match o with
  | .ref n => match h[n]? with
    | some (.dic kvs) => (match keyD i with | some k => if kvs.length < sizeLine then .ok () (h.set n (.dic (putD kvs k v))) else .no | none => .no)
    | some (.lst _) => setI o i v h
    | some (.dil kvs) => (match leafD i with | some k => if kvs.length < sizeLine then .ok () (h.set n (.dil (putD kvs k v))) else .no | none => .no)
    | _ => .no
  | _ => .no
def subG (o i : ME) : MG := fun v ρ h => (o ρ h).bind fun ov h => (i ρ h).bind fun iv h => (setK ov iv v h).bind fun _ h => .ok ρ h
def whileL (c : MT) (b : MS) : Nat → Ro → MH → Res (Fl × Ro)
  | 0, _, _ => .no
  | k + 1, ρ, h => (c ρ h).bind fun t h => if t = true then (b ρ h).bind fun r h => (match r.1 with
      | .nx => whileL c b k r.2 h
      | .ct => whileL c b k r.2 h
      | .bk => .ok (.nx, r.2) h
      | .rt d => .ok (.rt d, r.2) h) else .ok (.nx, ρ) h
def fuelW : Nat := 1000000000
def whileS (c : MT) (b : MS) : MS := whileL c b fuelW
/-- what is walked: the items, and the check that it still stands -/
abbrev MI := Ro → MH → Res (List D × (MH → Bool))
def forL (chk : MH → Bool) (g : MG) (b : MS) : List D → Ro → MH → Res (Fl × Ro)
  | [], ρ, h => if chk h = true then .ok (.nx, ρ) h else .no
  | x :: xs, ρ, h => if chk h = true then (g x ρ h).bind fun ρ h => (b ρ h).bind fun r h => (match r.1 with
      | .nx => forL chk g b xs r.2 h
      | .ct => forL chk g b xs r.2 h
      | .bk => .ok (.nx, r.2) h
      | .rt d => .ok (.rt d, r.2) h) else .no
def forS (m : MI) (g : MG) (b : MS) : MS := fun ρ h => (m ρ h).bind fun p h => forL p.2 g b p.1 ρ h

section
variable {K : PySem.W.Frag} {cl : Clm} {E : XK} {H : Hp} {ι : List Addr} {ρ : Ro} {σ : L2.St} {mh : MH} {α : Type}
theorem finS {r : Fl × Ro} {Dn : Ends} (hr : HR K cl H ι mh) (sr : SR K H ι r.2 σ) (ok : okR K cl E ι H (.ok r mh) (pS K Dn)) : pFl K Dn ι σ H r.1 := ok H ι hr .refl σ sr
theorem contS {m : MS} {Dn : Ends} (sr : SR K H ι ρ σ) (hr : HR K cl H ι mh) (ok : okR K cl E ι H (m ρ mh) (pS K Dn)) : tMS K cl E m Dn σ H := ⟨ρ, mh, ι, sr, hr, ok⟩
def tMG (K : PySem.W.Frag) (cl : Clm) (E : XK) (g : MG) : TG := fun v σ H Q => ∃ d ρ mh ι, Rep K H ι d v ∧ SR K H ι ρ σ ∧ HR K cl H ι mh ∧ okR K cl E ι H (g d ρ mh) fun ρ' H' ι' => ∀ σ', SR K H' ι' ρ' σ' → Q σ' H'
theorem stepG {d : D} {v : V} {g : MG} {f : Ro → MH → Res α} {P : α → Hp → List Addr → Prop} (r : Rep K H ι d v) (sr : SR K H ι ρ σ) (hr : HR K cl H ι mh) (ok : okR K cl E ι H ((g d ρ mh).bind f) P) :
    tMG K cl E g v σ H fun σ' H' => ∃ ρ' mh' ι', Ext ι H ι' H' ∧ SR K H' ι' ρ' σ' ∧ HR K cl H' ι' mh' ∧ okR K cl E ι' H' (f ρ' mh') P :=
  ⟨d, ρ, mh, ι, r, sr, hr, okR.imp ok.bnd fun ρ' H1 ι1 e ⟨mh1, hr1, q⟩ σ' sr' => ⟨ρ', mh1, ι1, e, sr', hr1, q⟩⟩
theorem tMG.mono {g : MG} {v : V} {Q Q' : L2.St → Hp → Prop} (h : tMG K cl E g v σ H Q) (i : ∀ σ' H', Q σ' H' → Q' σ' H') : tMG K cl E g v σ H Q' := by
  obtain ⟨d, ρ, mh, ι, r, a1, a2, a3⟩ := h
  exact ⟨d, ρ, mh, ι, r, a1, a2, okR.imp a3 fun ρ' H1 ι1 e1 q σ' sr' => i _ _ (q σ' sr')⟩
theorem putD_of {κ : Type} [DecidableEq κ] {k : κ} {d : D} {v : V} (r : Rep K H ι d v) {ds : List (κ × D)} {vs : List (κ × V)} (q : Prs K H ι ds vs) : Prs K H ι (putD ds k d) (putK vs k v) := by
  have any : ∀ {ds : List (κ × D)} {vs : List (κ × V)}, Prs K H ι ds vs → (ds.any fun kv => decide (kv.1 = k)) = (vs.any fun kv => decide (kv.1 = k)) := by
    intro ds vs q
    induction q with
    | nil => rfl
    | @cons a b as bs h t ih => rw [List.any_cons, List.any_cons, h.1, ih]
  have mp : ∀ {ds : List (κ × D)} {vs : List (κ × V)}, Prs K H ι ds vs → Prs K H ι (ds.map fun kv => if kv.1 = k then (kv.1, d) else kv) (vs.map fun kv => if kv.1 = k then (kv.1, v) else kv) := by
    intro ds vs q
    induction q with
    | nil => exact .nil
    | @cons a b as bs h t ih =>
      rw [List.map_cons, List.map_cons]
      refine .cons ?_ ih
      by_cases e : a.1 = k
      · rw [if_pos e, if_pos (h.1 ▸ e)]; exact ⟨h.1, r⟩
      · rw [if_neg e, if_neg (h.1 ▸ e)]; exact h
  have ap : ∀ {ds : List (κ × D)} {vs : List (κ × V)}, Prs K H ι ds vs → Prs K H ι (ds ++ [(k, d)]) (vs ++ [(k, v)]) := by
    intro ds vs q
    induction q with
    | nil => exact .cons ⟨rfl, r⟩ .nil
    | @cons a b as bs h t ih => exact .cons h ih
  have e : putK vs k v = if (vs.any fun kv => decide (kv.1 = k)) = true then vs.map fun kv => if kv.1 = k then (kv.1, v) else kv else vs ++ [(k, v)] := rfl
  rw [e]
  unfold putD
  rw [any q]
  split
  · exact mp q
  · exact ap q
end
section
variable {X : Cx} {cl : Clm} {E : XK} {e o i c tg iter : Expr} {st : Stmt} {rest body els : List Stmt} {pos : Pos} {me mo mi : ME} {mt : MT} {ma mb : MS} {g : MG}
theorem s_nil : PSs X [] (tMS X.K cl E nxS) := pss_nil.imp fun D σ H ⟨ρ, mh, ι, sr, hr, ok⟩ => finS hr sr ok
theorem s_pass : PS X (.Pass pos) (tMS X.K cl E nxS) := ps_pass.imp fun D σ H ⟨ρ, mh, ι, sr, hr, ok⟩ => finS hr sr ok
theorem s_break : PS X (.Break pos) (tMS X.K cl E bkS) := ps_break.imp fun D σ H ⟨ρ, mh, ι, sr, hr, ok⟩ => finS hr sr ok
theorem s_continue : PS X (.Continue pos) (tMS X.K cl E ctS) := ps_continue.imp fun D σ H ⟨ρ, mh, ι, sr, hr, ok⟩ => finS hr sr ok
theorem s_no : PS X st (tMS X.K cl E noS) := ⟨fun _ _ _ _ _ _ ⟨_, _, _, _, _, ok⟩ => ok.elim⟩
theorem ss_no : PSs X rest (tMS X.K cl E noS) := ⟨fun _ _ _ _ _ _ ⟨_, _, _, _, _, ok⟩ => ok.elim⟩
theorem s_doc {x j pos'} : PS X (.Expr (.Constant (.str x) j pos) pos') (tMS X.K cl E nxS) := ps_doc.imp fun D σ H ⟨ρ, mh, ι, sr, hr, ok⟩ => finS hr sr ok
theorem s_cons (h1 : PS X st (tMS X.K cl E ma)) (h2 : PSs X rest (tMS X.K cl E mb)) : PSs X (st :: rest) (tMS X.K cl E (seqS ma mb)) :=
  (pss_cons h1 h2).imp fun D σ H ⟨ρ, mh, ι, sr, hr, ok⟩ => by
    refine ⟨ρ, mh, ι, sr, hr, okR.imp ok.bnd fun r H1 ι1 e1 ⟨mh1, hr1, q⟩ σ' sr' => ?_⟩
    obtain ⟨f, ρ'⟩ := r
    cases f with
    | nx => exact contS sr' hr1 q
    | bk => exact finS (E := E) (Dn := D) (r := (.bk, ρ')) hr1 sr' q
    | ct => exact finS (E := E) (Dn := D) (r := (.ct, ρ')) hr1 sr' q
    | rt d => exact finS (E := E) (Dn := D) (r := (.rt d, ρ')) hr1 sr' q
theorem s_expr (he : PE X e (tM X.K cl E me)) (hs : swapsWith e none pos.line X.env = pure false) : PS X (.Expr e pos) (tMS X.K cl E (dropS me)) :=
  (ps_expr he hs).imp fun D σ H ⟨ρ, mh, ι, sr, hr, ok⟩ => tM.mono (step sr hr ok) fun v H1 ⟨d1, mh1, ι1, e1, sr1, hr1, r1, q1⟩ => finS (r := (.nx, ρ)) hr1 sr1 q1
theorem s_ret (he : PE X e (tM X.K cl E me)) : PS X (.Return (some e) pos) (tMS X.K cl E (retS me)) :=
  (ps_ret he).imp fun D σ H ⟨ρ, mh, ι, sr, hr, ok⟩ => tM.mono (step sr hr ok) fun v H1 ⟨d1, mh1, ι1, e1, sr1, hr1, r1, q1⟩ => finS (r := (.rt d1, ρ)) hr1 sr1 q1 v r1
theorem s_retN : PS X (.Return none pos) (tMS X.K cl E retN) := ps_retN.imp fun D σ H ⟨ρ, mh, ι, sr, hr, ok⟩ => finS (r := (.rt .non, ρ)) hr sr ok _ .non
theorem s_if (hc : PT X c (tMT X.K cl E mt)) (ha : PSs X body (tMS X.K cl E ma)) (hb : PSs X els (tMS X.K cl E mb)) : PS X (.If c body els pos) (tMS X.K cl E (ifS mt ma mb)) :=
  (ps_if hc ha hb).imp fun D σ H ⟨ρ, mh, ι, sr, hr, ok⟩ => tMT.mono (stepT sr hr ok) fun k H1 ⟨mh1, ι1, e1, sr1, hr1, q1⟩ => by
    cases k with
    | true => exact iteT (contS sr1 hr1 q1)
    | false => exact iteF (contS sr1 hr1 q1)
/-! targets -/
theorem g_name {x : Str} {i : Nat} (h : PG X e (gName i)) : PG X e (tMG X.K cl E (nameG i)) := ⟨fun pins s σ H v u Q I r ⟨d, ρ, mh, ι, rd, sr, hr, ok⟩ => h.run pins s σ H v u Q I r (ok H ι hr .refl _ (sr.set rd i))⟩
theorem s_set {i : Nat} {x : Str} {pos' : Pos} (hN : X.N.Nodup) (hi : X.N[i]? = some x) (hx : Loc X.env.scope x) (he : PE X e (tM X.K cl E me)) (hs : swapsWith e (some (.Name x pos')) pos.line X.env = pure false) (hf : X.fn x = true ∨ X.env.scope.names.lookup x = some .local) :
    PS X (.Assign [.Name x pos'] e pos) (tMS X.K cl E (setS i me)) :=
  (ps_set hN hi hx he hs hf).imp fun D σ H ⟨ρ, mh, ι, sr, hr, ok⟩ => tM.mono (step sr hr ok) fun v H1 ⟨d1, mh1, ι1, e1, sr1, hr1, r1, q1⟩ => finS (r := (.nx, ρ.set i (some d1))) hr1 (sr1.set r1 i) q1
theorem s_asg (he : PE X e (tM X.K cl E me)) (hg : PG X tg (tMG X.K cl E g)) (hs : swapsWithSole [tg] e pos.line X.env = pure false) (hw : swappedStores [tg] e X.env = pure none) (h1 : (assignEach [tg] X.env).map (·.2) = [assign tg X.env]) :
    PS X (.Assign [tg] e pos) (tMS X.K cl E (asgS me g)) :=
  (ps_asg he hg hs hw h1).imp fun D σ H ⟨ρ, mh, ι, sr, hr, ok⟩ => tM.mono (step sr hr ok) fun v H1 ⟨d1, mh1, ι1, e1, sr1, hr1, r1, q1⟩ =>
    tMG.mono (stepG r1 sr1 hr1 q1) fun σ' H2 ⟨ρ', mh2, ι2, e2, sr2, hr2, q2⟩ => finS (r := (.nx, ρ')) hr2 sr2 q2
def opIn (op : Operator) : D → D → MH → Res D := match op with
  | .Add => fun x y mh => match x, y with | .int i, .int j => .ok (.int (i + j)) mh | _, _ => .no
  | .Sub => subD
  | _ => fun _ _ _ => .no
theorem ip_ok (op : Operator) : OpR X (inplaceOp op) (rM X.K cl E (opIn op)) := by
  rintro pins s σ H x y v u Q I rx ry ⟨dx, dy, mh, ι, r1, r2, hr, ok⟩
  cases op <;> try exact ok.elim
  · cases r1 <;> cases r2 <;> try exact ok.elim
    rename_i i j
    exact ip_add pins s σ H _ _ v u Q I rx ry ⟨i, j, rfl, rfl, fin hr (.int _) ok⟩
  · cases r1 <;> cases r2 <;> try exact ok.elim
    rename_i i j
    exact ip_sub pins s σ H _ _ v u Q I rx ry ⟨i, j, rfl, rfl, fin hr (.int _) ok⟩
theorem s_aug {i : Nat} {x : Str} {op : Operator} {pos' : Pos} (hN : X.N.Nodup) (hi : X.N[i]? = some x) (hx : Loc X.env.scope x) (he : PE X e (tM X.K cl E me)) (hf : X.fn x = true ∨ X.env.scope.names.lookup x = some .local) :
    PS X (.AugAssign (.Name x pos') op e pos) (tMS X.K cl E (augS i (opIn op) me)) :=
  (ps_aug (ti := rM X.K cl E (opIn op)) hN hi hx he (fun pins s σ H x y v u Q I rx ry q => ip_ok op pins s σ H x y v u Q I rx ry q) hf).imp fun D σ H ⟨ρ, mh, ι, sr, hr, ok⟩ => by
    unfold augS at ok
    cases hd : ρ[i]? with
    | none => rw [hd] at ok; exact ok.elim
    | some o =>
      rw [hd] at ok
      cases o with
      | none => exact ok.elim
      | some d =>
        obtain ⟨v, hv, r⟩ := sr.2 i d hd
        refine ⟨v, hv, tM.mono (step sr hr ok) fun y H1 ⟨d1, mh1, ι1, e1, sr1, hr1, r1, q1⟩ => ?_⟩
        refine ⟨d, d1, mh1, ι1, r.mono e1, r1, hr1, okR.imp q1.bnd fun d2 H2 ι2 e2 ⟨mh2, hr2, q2⟩ v2 r2 => ?_⟩
        exact finS (r := (.nx, ρ.set i (some d2))) hr2 ((sr1.mono e2).set r2 i) q2
theorem pgs_names {X : Cx} {cl : Clm} {Q : L2.St → Hp → Prop} {H : Hp} {ι : List Addr} {mh : MH} : ∀ (is : List Nat) (ds : List D) (vs : List V) (ρ : Ro) (σ : L2.St), ds.length = is.length → Reps X.K H ι ds vs → SR X.K H ι ρ σ → HR X.K cl H ι mh →
    (∀ σ', SR X.K H ι (namesG is ds ρ) σ' → Q σ' H) → (is.foldr (fun i u => gCons (gName i) u) gNil) vs σ H Q
  | [], [], [], ρ, σ, _, _, sr, _, q => ⟨rfl, q σ sr⟩
  | i :: is, d :: ds, v :: vs, ρ, σ, hl, r, sr, hr, q => by
    cases r with
    | cons r t => exact ⟨v, vs, rfl, pgs_names is ds vs _ _ (by simpa using hl) t (sr.set r i) hr q⟩
  | [], _ :: _, _, _, _, hl, _, _, _, _ => by cases hl
  | _ :: _, [], _, _, _, hl, _, _, _, _ => by cases hl
  | [], [], _ :: _, _, _, _, r, _, _, _ => by cases r
  | _ :: _, _ :: _, [], _, _, _, r, _, _, _ => by cases r
theorem g_tup {is : List Nat} {es : List Expr} {k : Nat} {n : Nat} (hn : is.length = n) (h : PG X (.Tuple es k pos) (gTup X.K n (is.foldr (fun i u => gCons (gName i) u) gNil))) : PG X (.Tuple es k pos) (tMG X.K cl E (tupG is)) := by
  refine ⟨fun pins s σ H v u Q I r ⟨d, ρ, mh, ι, rd, sr, hr, ok⟩ => h.run pins s σ H v u Q I r ?_⟩
  cases rd with
  | tup s1 q1 =>
    simp only [tupG] at ok
    split at ok
    · rename_i hl
      exact ⟨_, _, rfl, s1, by rw [← q1.length, hl, hn], pgs_names is _ _ ρ σ hl q1 sr hr fun σ' sr' => ok H ι hr .refl σ' sr'⟩
    · exact ok.elim
  | _ => exact ok.elim
def rSetM (K : PySem.W.Frag) (cl : Clm) (E : XK) : TSet := fun o i v H Q => ∃ od id vd mh ι, Rep K H ι od o ∧ Rep K H ι id i ∧ Rep K H ι vd v ∧ HR K cl H ι mh ∧ okR K cl E ι H (setK od id vd mh) fun _ H' _ => Q H'
theorem set_ok (hcP : cl.P = X.prog) (hcw : cl.w = X.w) (hu : X.A.units + 1 < cLine) : PSet X (rSetM X.K cl E) := by
  rintro pins s σ H o i v ov iv u Q I ro ri rv ⟨od, id, vd, mh, ι, q1, q2, q3, hr, ok⟩
  unfold setK at ok
  cases q1 with
  | @ref n a hn =>
    simp only at ok
    cases e1 : mh[n]? with
    | none => rw [e1] at ok; exact ok.elim
    | some ob =>
      rw [e1] at ok
      have ho := hr.ob n a ob hn e1
      cases ob with
      | lst ds =>
        simp only [setI, e1] at ok
        cases q2 with
        | int k =>
          simp only at ok
          obtain ⟨xs, h1, h2⟩ := ho
          cases e2 : ixN ds.length k with
          | none => rw [e2] at ok; exact ok.elim
          | some j =>
            rw [e2] at ok
            have ex : Ext ι H ι (upd H a (.lst (xs.set j v))) := Ext.set h1 (fun _ z => nomatch z) fun _ _ z => nomatch z
            refine set_list pins s σ H _ _ v ov iv u Q I ro ri rv ⟨a, xs, k, j, rfl, rfl, h1, by rw [← h2.length]; exact e2, ?_⟩
            exact ok _ ι (hr.set hn ex ⟨_, upd_same, (Reps.set q3 j h2).mono ex⟩) ex
        | _ => exact ok.elim
      | dic kvs =>
        simp only at ok
        obtain ⟨vs, h1, h2⟩ := ho
        cases e2 : keyD id with
        | none => rw [e2] at ok; exact ok.elim
        | some k =>
          rw [e2] at ok
          simp only at ok
          split at ok
          · rename_i hl
            have ei := key_at q2 e2
            subst ei
            cases ro
            have ex : Ext ι H ι (upd H a (.dK (putK vs k v))) := Ext.set h1 (fun _ z => nomatch z) fun _ _ z => nomatch z
            have fin : Q (upd H a (.dK (putK vs k v))) := ok _ ι (hr.set hn ex ⟨_, upd_same, (putD_of q3 h2).mono ex⟩) ex
            exact d_setItem hu I (DPut.k h1 (by rw [← Prs.len h2]; exact hl)) ri rv fun s' I' => ⟨_, I', fin⟩
          · exact ok.elim
      | dil kvs =>
        simp only at ok
        obtain ⟨vs, h1, h2⟩ := ho
        cases e2 : leafD id with
        | none => rw [e2] at ok; exact ok.elim
        | some k =>
          rw [e2] at ok
          simp only at ok
          split at ok
          · rename_i hl
            cases ro
            have ex : Ext ι H ι (upd H a (bO cl.P cl.w a (putK vs k v))) := Ext.set h1 (fun _ z => nomatch z) fun _ _ z => nomatch z
            have fin : Q (upd H a (bO cl.P cl.w a (putK vs k v))) := ok _ ι (hr.set hn ex ⟨_, upd_same, (putD_of q3 h2).mono ex⟩) ex
            rw [hcP, hcw] at h1 fin
            obtain ⟨z, hd, us, rel, dd⟩ := bd_of I.hok h1
            have hz : us.length ≤ sizeLine := by rw [← rel.length]; exact z
            have hl2 : (putK vs k v).length ≤ sizeLine := by have := length_putK vs k v; have := Prs.len h2; omega
            refine wpAny_setItem_pairs (hsz := hz) (leaf_at q2 ri e2) dd fun h' dd' hs => ⟨_, ?_, fin⟩
            have he : ∃ q, h'.get? a = some q := let ⟨q, _, _, hq, _⟩ := dd'; ⟨q, hq⟩
            exact d_write I (by rw [h1]; exact True.intro) hs he ⟨⟨hl2, hd, _, rel.put k rv, dd'⟩, he, fun h1 h2 ⟨b1, b2, us', b3, q, es, ep, b4, b5⟩ kp => ⟨b1, b2, us', b3, q, es, ep, kp _ b4, b5⟩⟩
          · exact ok.elim
      | _ => exact ok.elim
  | _ => exact ok.elim
theorem g_sub (hcP : cl.P = X.prog) (hcw : cl.w = X.w) (hu : X.A.units + 1 < cLine) (ho : PE X o (tM X.K cl E mo)) (hi : PE X i (tM X.K cl E mi))
    (ha : ∀ v, assign (.Subscript o i pos) X.env v = (do
      let ov ← holding [v] (eval o X.env)
      let iv ← holding [v, ov] (eval i X.env)
      standAt pos
      holding [v, ov, iv] (setItem ov iv v)
      release [v, ov, iv] [])) : PG X (.Subscript o i pos) (tMG X.K cl E (subG mo mi)) := by
  refine ⟨fun pins s σ H v u Q I r ⟨d, ρ, mh, ι, rd, sr, hr, ok⟩ => (pg_sub ho hi (set_ok (cl := cl) (E := E) hcP hcw hu) ha).run pins s σ H v u Q I r ?_⟩
  refine tM.mono (step sr hr ok) fun v1 H1 ⟨d1, mh1, ι1, e1, sr1, hr1, r1, q1⟩ => ?_
  refine tM.mono (step sr1 hr1 q1) fun v2 H2 ⟨d2, mh2, ι2, e2, sr2, hr2, r2, q2⟩ => ?_
  exact ⟨d1, d2, d, mh2, ι2, r1.mono e2, r2, (rd.mono e1).mono e2, hr2, okR.imp q2.bnd fun _ H3 ι3 e3 ⟨mh3, hr3, q3⟩ => q3 H3 ι3 hr3 .refl σ (sr2.mono e3)⟩
/-! loops -/
theorem s_while (hp : PassesOwn (model X.prog X.w) X.A X.env X.xe) (hc : PT X c (tMT X.K cl E mt)) (hb : PSs X body (tMS X.K cl E mb)) : PS X (.While c body [] pos) (tMS X.K cl E (whileS mt mb)) :=
  (ps_while hp hc hb).imp fun D σ H ⟨ρ, mh, ι, sr, hr, ok⟩ => by
    refine ⟨fun k σ H => ∃ ρ mh ι, SR X.K H ι ρ σ ∧ HR X.K cl H ι mh ∧ okR X.K cl E ι H (whileL mt mb k ρ mh) (pS X.K D), ⟨fuelW, ρ, mh, ι, sr, hr, ok⟩, ?_⟩
    rintro k σ H ⟨ρ, mh, ι, sr, hr, ok⟩
    cases k with
    | zero => exact ok.elim
    | succ k =>
      refine tMT.mono (stepT sr hr ok) fun b H1 ⟨mh1, ι1, e1, sr1, hr1, q1⟩ => ?_
      cases b with
      | false => exact iteF (finS (r := (.nx, ρ)) hr1 sr1 q1)
      | true =>
        refine iteT ⟨fun σ H => ∃ ρ mh ι, SR X.K H ι ρ σ ∧ HR X.K cl H ι mh ∧ okR X.K cl E ι H (whileL mt mb k ρ mh) (pS X.K D), fun σ' H' w => ⟨k, Nat.lt_succ_self k, w⟩, ?_⟩
        refine ⟨ρ, mh1, ι1, sr1, hr1, okR.imp (okR.bnd (show okR X.K cl E ι1 H1 ((mb ρ mh1).bind _) _ from q1)) fun r H2 ι2 e2 ⟨mh2, hr2, q2⟩ σ2 sr2 => ?_⟩
        obtain ⟨f, ρ2⟩ := r
        cases f with
        | nx => exact ⟨ρ2, mh2, ι2, sr2, hr2, q2⟩
        | ct => exact ⟨ρ2, mh2, ι2, sr2, hr2, q2⟩
        | bk => exact finS (E := E) (Dn := D) (r := (.nx, ρ2)) hr2 sr2 q2
        | rt d => exact finS (E := E) (Dn := D) (r := (.rt d, ρ2)) hr2 sr2 q2
/-- an iterator J walks the items ds while chk holds; it began at (ι1, H1) -/
structure SrcOk (K : PySem.W.Frag) (cl : Clm) (J : It) (ds : List D) (chk : MH → Bool) (ι1 : List Addr) (H1 : Hp) : Prop where
  go : ∀ (i : Nat) (H : Hp) (ι : List Addr) (mh : MH), Ext ι1 H1 ι H → HR K cl H ι mh → chk mh = true → i < ds.length → J.go i H
  yld : ∀ (i : Nat) (H : Hp) (ι : List Addr) (mh : MH), Ext ι1 H1 ι H → HR K cl H ι mh → chk mh = true → i < ds.length → ∀ x H', J.yld i H x H' → HR K cl H' ι mh ∧ Ext ι H ι H' ∧ ∃ d, ds[i]? = some d ∧ Rep K H' ι d x
  stop : ∀ (i : Nat) (H : Hp) (ι : List Addr) (mh : MH), Ext ι1 H1 ι H → HR K cl H ι mh → chk mh = true → ds.length ≤ i → J.stop i H
def tMI (K : PySem.W.Frag) (cl : Clm) (E : XK) (m : MI) : TI := fun σ H R => ∃ ρ mh ι, SR K H ι ρ σ ∧ HR K cl H ι mh ∧ okR K cl E ι H (m ρ mh) fun p H1 ι1 => ∀ J, SrcOk K cl J p.1 p.2 ι1 H1 → R J H1
theorem s_for {m : MI} (hp : PassesOwn (model X.prog X.w) X.A X.env X.xe) (hc : X.calm = true) (hi : PI X tg iter (tMI X.K cl E m)) (hg : PG X tg (tMG X.K cl E g)) (hb : PSs X body (tMS X.K cl E mb))
    (hs : ∀ x, foldedSetIterable iter X.env x = pure x) : PS X (.For tg iter body [] pos) (tMS X.K cl E (forS m g mb)) :=
  (ps_for hp hc hi hg hb hs).imp fun D σ H ⟨ρ, mh, ι, sr, hr, ok⟩ => by
    refine ⟨ρ, mh, ι, sr, hr, okR.imp ok.bnd fun p H1 ι1 e1 ⟨mh1, hr1, q1⟩ J S => ?_⟩
    refine ⟨fun i k σ H => ∃ ρ mh ι, SR X.K H ι ρ σ ∧ HR X.K cl H ι mh ∧ Ext ι1 H1 ι H ∧ k = p.1.length - i ∧ i ≤ p.1.length ∧ okR X.K cl E ι H (forL p.2 g mb (p.1.drop i) ρ mh) (pS X.K D), ⟨p.1.length, ρ, mh1, ι1, sr.mono e1, hr1, .refl, by simp, Nat.zero_le _, q1⟩, ?_⟩
    rintro i k σ H ⟨ρ, mh, ι, sr, hr, ex, rfl, hi, ok⟩
    by_cases hlt : i < p.1.length
    · rw [List.drop_eq_getElem_cons hlt, forL] at ok
      split at ok
      · rename_i hchk
        refine .inr ⟨S.go i H ι mh ex hr hchk hlt, fun σ H => ∃ ρ mh ι, SR X.K H ι ρ σ ∧ HR X.K cl H ι mh ∧ Ext ι1 H1 ι H ∧ okR X.K cl E ι H (forL p.2 g mb (p.1.drop (i + 1)) ρ mh) (pS X.K D), fun σ' H' ⟨ρ', mh', ι', w1, w2, w3, w4⟩ => ⟨p.1.length - (i + 1), by omega, ρ', mh', ι', w1, w2, w3, rfl, hlt, w4⟩, fun x H' y => ?_⟩
        obtain ⟨hr', e', d, hd, rd⟩ := S.yld i H ι mh ex hr hchk hlt x H' y
        have hd' : p.1[i] = d := by rw [List.getElem?_eq_getElem hlt] at hd; exact Option.some.inj hd
        subst hd'
        refine tMG.mono (stepG rd (sr.mono e') hr' (ok.weak e')) fun σ2 H2 ⟨ρ2, mh2, ι2, e2, sr2, hr2, q2⟩ => ?_
        refine ⟨ρ2, mh2, ι2, sr2, hr2, okR.imp q2.bnd fun r H3 ι3 e3 ⟨mh3, hr3, q3⟩ σ3 sr3 => ?_⟩
        obtain ⟨f, ρ3⟩ := r
        cases f with
        | nx => exact ⟨ρ3, mh3, ι3, sr3, hr3, ((ex.trans e').trans e2).trans e3, q3⟩
        | ct => exact ⟨ρ3, mh3, ι3, sr3, hr3, ((ex.trans e').trans e2).trans e3, q3⟩
        | bk => exact finS (E := E) (Dn := D) (r := (.nx, ρ3)) hr3 sr3 q3
        | rt d => exact finS (E := E) (Dn := D) (r := (.rt d, ρ3)) hr3 sr3 q3
      · exact ok.elim
    · rw [List.drop_eq_nil_of_le (by omega), forL] at ok
      split at ok
      · rename_i hchk
        exact .inl ⟨S.stop i H ι mh ex hr hchk (by omega), finS (r := (.nx, ρ)) hr sr ok⟩
      · exact ok.elim
end
end Mir
namespace Mir
open PySem PySem.Spec L2

/-! ### values compared as they are -/
mutual
def D.beq : D → D → Bool
  | .non, .non => true
  | .bl a, .bl b => a == b
  | .int a, .int b => decide (a = b)
  | .str a, .str b => decide (a = b)
  | .tup a, .tup b => D.beqs a b
  | .ref a, .ref b => decide (a = b)
  | .ty a, .ty b => decide (a = b)
  | .wl a, .wl b => D.beqs a b
  | _, _ => false
def D.beqs : List D → List D → Bool
  | [], [] => true
  | a :: as, b :: bs => D.beq a b && D.beqs as bs
  | _, _ => false
end
mutual
theorem D.beq_eq : ∀ (a b : D), D.beq a b = true → a = b
  | .non, b, h => by cases b <;> simp_all [D.beq]
  | .bl a, b, h => by cases b <;> simp_all [D.beq]
  | .int a, b, h => by cases b <;> simp_all [D.beq]
  | .str a, b, h => by cases b <;> simp_all [D.beq]
  | .ref a, b, h => by cases b <;> simp_all [D.beq]
  | .ty a, b, h => by cases b <;> simp_all [D.beq]
  | .tup a, b, h => by
    cases b with
    | tup b => rw [D.beqs_eq a b (by simpa [D.beq] using h)]
    | _ => simp [D.beq] at h
  | .wl a, b, h => by
    cases b with
    | wl b => rw [D.beqs_eq a b (by simpa [D.beq] using h)]
    | _ => simp [D.beq] at h
theorem D.beqs_eq : ∀ (a b : List D), D.beqs a b = true → a = b
  | [], [], _ => rfl
  | [], _ :: _, h => by simp [D.beqs] at h
  | _ :: _, [], h => by simp [D.beqs] at h
  | a :: as, b :: bs, h => by
    simp only [D.beqs, Bool.and_eq_true] at h
    rw [D.beq_eq a b h.1, D.beqs_eq as bs h.2]
end
mutual
theorem D.beq_refl : ∀ (a : D), D.beq a a = true
  | .non => rfl
  | .bl a => by simp [D.beq]
  | .int a => by simp [D.beq]
  | .str a => by simp [D.beq]
  | .ref a => by simp [D.beq]
  | .ty a => by simp [D.beq]
  | .tup a => by simp only [D.beq]; exact D.beqs_refl a
  | .wl a => by simp only [D.beq]; exact D.beqs_refl a
theorem D.beqs_refl : ∀ (a : List D), D.beqs a a = true
  | [] => rfl
  | a :: as => by simp only [D.beqs, Bool.and_eq_true]; exact ⟨D.beq_refl a, D.beqs_refl as⟩
end

/-! ### what is walked -/
def lstIs (n : Nat) (ds : List D) (h : MH) : Bool := match h[n]? with | some (.lst es) => D.beqs es ds | _ => false
def always (_ : MH) : Bool := true
def signs (z : Str) : List D := z.cps.toList.map fun c => .str ⟨#[c]⟩
def seqI (m : ME) : MI := fun ρ h => (m ρ h).bind fun x h => match x with
  | .tup ds => .ok (ds, always) h
  | .str z => .ok (signs z, always) h
  | .wl ds => .ok (ds, always) h
  | .ref n => (match h[n]? with
    | some (.lst ds) => .ok (ds, lstIs n ds) h
    | _ => .no)
  | _ => .no
def intsFrom (lo c : Int) (n : Nat) : List D := (List.range n).map fun (k : Nat) => .int (lo + (k : Int) * c)
def bnd62 (i : Int) : Bool := decide (-(2 ^ 62) ≤ i) && decide (i < 2 ^ 62)
def rangeI (m : MA) : MI := fun ρ h => (m ρ h).bind fun xs h => match xs with
  | [.int j] => if bnd62 j = true then .ok (intsFrom 0 1 j.toNat, always) h else .no
  | [.int i, .int j] => if bnd62 i = true ∧ bnd62 j = true then .ok (intsFrom i 1 (j - i).toNat, always) h else .no
  | [.int i, .int j, .int c] => if c ≠ 0 ∧ c.natAbs < 1073741824 ∧ Builtin.Range.small i j c = true ∧ 0 ≤ Builtin.Range.rangeSize i j c then .ok (intsFrom i c (Builtin.Range.rangeSize i j c).toNat, always) h else .no
  | _ => .no
theorem getV {α : Type} {l : List α} {i : Nat} (h : i < l.length) : ∃ a, l[i]? = some a := ⟨_, List.getElem?_eq_getElem h⟩
section
variable {X : Cx} {cl : Clm} {E : XK} {e tg iter a b c : Expr} {es : List Expr} {pos p : Pos} {m : ME} {ma : MA}
theorem m_alt {m : ME} (h : ∀ ρ mh, m ρ mh = .no ∨ ∃ m', PE X e (tM X.K cl E m') ∧ m ρ mh = m' ρ mh) : PE X e (tM X.K cl E m) := ⟨fun pins s σ H Q I ⟨ρ, mh, ι, sr, hr, ok⟩ => by
  rcases h ρ mh with e | ⟨m', h', e⟩
  · rw [e] at ok; exact ok.elim
  · exact h'.run pins s σ H Q I ⟨ρ, mh, ι, sr, hr, e ▸ ok⟩⟩
theorem i_alt {m : MI} (h : ∀ ρ mh, m ρ mh = .no ∨ ∃ m', PI X tg iter (tMI X.K cl E m') ∧ m ρ mh = m' ρ mh) : PI X tg iter (tMI X.K cl E m) := ⟨fun pins s σ H Q I ⟨ρ, mh, ι, sr, hr, ok⟩ => by
  rcases h ρ mh with e | ⟨m', h', e⟩
  · rw [e] at ok; exact ok.elim
  · exact h'.run pins s σ H Q I ⟨ρ, mh, ι, sr, hr, e ▸ ok⟩⟩
theorem _root_.L2.PI.imp {w w' : TI} (h : PI X tg iter w) (i : ∀ σ H Q, w' σ H Q → w σ H Q) : PI X tg iter w' := ⟨fun pins s σ H Q I q => h.run pins s σ H Q I (i _ _ _ q)⟩
def onlyTup (r : Res (List D × (MH → Bool))) (x : D) : Res (List D × (MH → Bool)) := match x with | .tup _ => r | _ => .no
theorem src_tup {a : Addr} {xs : List V} {ds : List D} {H1 : Hp} {ι1 : List Addr} (s1 : SqT X.K H1 a xs) (q1 : Reps X.K H1 ι1 ds xs) : SrcOk X.K cl (Itt X.K a) ds always ι1 H1 where
  go := fun i H ι mh ex hr _ hi => by
    obtain ⟨x, hx⟩ := getV (l := xs) (i := i) (by rw [← q1.length]; exact hi)
    exact ⟨xs, x, ex.sqt s1, hx⟩
  yld := fun i H ι mh ex hr _ hlt x H' y => by
    obtain ⟨rfl, y⟩ := y
    obtain ⟨d, h1, h2⟩ := Reps.getV q1 (y xs (ex.sqt s1))
    exact ⟨hr, .refl, d, h1, h2.mono ex⟩
  stop := fun i H ι mh ex hr _ hi => ⟨xs, ex.sqt s1, by rw [← q1.length]; exact hi⟩
theorem src_lst {n : Nat} {a : Addr} {ds : List D} {H1 : Hp} {ι1 : List Addr} (hn : ι1[n]? = some a) : SrcOk X.K cl (Itl X.K a) ds (lstIs n ds) ι1 H1 := by
  have at_ : ∀ {H : Hp} {ι : List Addr} {mh : MH}, Ext ι1 H1 ι H → HR X.K cl H ι mh → lstIs n ds mh = true → ∃ xs, H a = some (.lst xs) ∧ Reps X.K H ι ds xs := fun {H ι mh} ex hr hc => by
    unfold lstIs at hc
    split at hc
    · rename_i es he
      have := D.beqs_eq _ _ hc
      subst this
      exact hr.ob n a _ (ex.get hn) he
    · cases hc
  refine ⟨fun i H ι mh ex hr hc hi => ?_, fun i H ι mh ex hr hc hlt x H' y => ?_, fun i H ι mh ex hr hc hi => ?_⟩
  · obtain ⟨xs, h1, h2⟩ := at_ ex hr hc
    obtain ⟨x, hx⟩ := getV (l := xs) (i := i) (by rw [← h2.length]; exact hi)
    exact ⟨xs, x, SqL.of h1, hx⟩
  · obtain ⟨xs, h1, h2⟩ := at_ ex hr hc
    obtain ⟨rfl, y⟩ := y
    obtain ⟨d, h3, h4⟩ := Reps.getV h2 (y xs (SqL.of h1))
    exact ⟨hr, .refl, d, h3, h4⟩
  · obtain ⟨xs, h1, h2⟩ := at_ ex hr hc
    exact ⟨xs, SqL.of h1, by rw [← h2.length]; exact hi⟩
theorem src_wl {a : Addr} {xs : List V} {ds : List D} {H1 : Hp} {ι1 : List Addr} (s1 : RoL X.K H1 a xs) (q1 : Reps X.K H1 ι1 ds xs) : SrcOk X.K cl (Itl X.K a) ds always ι1 H1 where
  go := fun i H ι mh ex hr _ hi => by
    obtain ⟨x, hx⟩ := getV (l := xs) (i := i) (by rw [← q1.length]; exact hi)
    exact ⟨xs, x, (ex.rol s1).sq, hx⟩
  yld := fun i H ι mh ex hr _ hlt x H' y => by
    obtain ⟨rfl, y⟩ := y
    obtain ⟨d, h1, h2⟩ := Reps.getV q1 (y xs (ex.rol s1).sq)
    exact ⟨hr, .refl, d, h1, h2.mono ex⟩
  stop := fun i H ι mh ex hr _ hi => ⟨xs, (ex.rol s1).sq, by rw [← q1.length]; exact hi⟩
theorem src_str {z : Str} {H1 : Hp} {ι1 : List Addr} : SrcOk X.K cl (Its z) (signs z) always ι1 H1 where
  go := fun i H ι mh ex hr _ hi => show i < z.cps.size by simpa [signs] using hi
  yld := fun i H ι mh ex hr _ hlt x H' y => by
    obtain ⟨rfl, c, h1, rfl⟩ := y
    refine ⟨hr, .refl, .str ⟨#[c]⟩, ?_, .str _⟩
    unfold signs
    rw [List.getElem?_map]
    have h2 : z.cps.toList[i]? = some c := by simpa using h1
    rw [h2]; rfl
  stop := fun i H ι mh ex hr _ hi => show z.cps.size ≤ i by simpa [signs] using hi
theorem src_rng {lo c : Int} {n : Nat} {H1 : Hp} {ι1 : List Addr} : SrcOk X.K cl (Itc lo c n) (intsFrom lo c n) always ι1 H1 where
  go := fun i H ι mh ex hr _ hi => show i < n by simpa [intsFrom] using hi
  yld := fun i H ι mh ex hr _ hlt x H' y => by
    obtain ⟨rfl, rfl⟩ := y
    have hl : i < n := by simpa [intsFrom] using hlt
    refine ⟨hr, .refl, .int (lo + (i : Int) * c), ?_, .int _⟩
    unfold intsFrom
    rw [List.getElem?_map, List.getElem?_range hl]; rfl
  stop := fun i H ι mh ex hr _ hi => show n ≤ i by simpa [intsFrom] using hi
theorem src_rng1 {lo : Int} {n : Nat} {H1 : Hp} {ι1 : List Addr} : SrcOk X.K cl (Itr lo n) (intsFrom lo 1 n) always ι1 H1 where
  go := fun i H ι mh ex hr _ hi => show i < n by simpa [intsFrom] using hi
  yld := fun i H ι mh ex hr _ hlt x H' y => by
    obtain ⟨rfl, rfl⟩ := y
    have hl : i < n := by simpa [intsFrom] using hlt
    refine ⟨hr, .refl, .int (lo + (i : Int) * 1), ?_, ?_⟩
    · unfold intsFrom
      rw [List.getElem?_map, List.getElem?_range hl]; rfl
    · rw [Int.mul_one]; exact .int _
  stop := fun i H ι mh ex hr _ hi => show n ≤ i by simpa [intsFrom] using hi
/-- the expression walked, whatever its kind -/
def seqTup (m : ME) : MI := fun ρ h => (m ρ h).bind fun x h => match x with | .tup ds => .ok (ds, always) h | _ => .no
def seqStr (m : ME) : MI := fun ρ h => (m ρ h).bind fun x h => match x with | .str z => .ok (signs z, always) h | _ => .no
def seqLst (m : ME) : MI := fun ρ h => (m ρ h).bind fun x h => match x with
  | .ref n => (match h[n]? with
    | some (.lst ds) => .ok (ds, lstIs n ds) h
    | _ => .no)
  | _ => .no
def seqWl (m : ME) : MI := fun ρ h => (m ρ h).bind fun x h => match x with | .wl ds => .ok (ds, always) h | _ => .no
theorem i_seq (he : PE X e (tM X.K cl E m)) : PI X tg e (tMI X.K cl E (seqI m)) := by
  refine i_alt fun ρ mh => ?_
  cases h : m ρ mh with
  | no => left; unfold seqI; rw [h]; rfl
  | ex c fs h' =>
    refine .inr ⟨seqTup m, (pi_tup he).imp fun σ H Q ⟨ρ, mh, ι, sr, hr, ok⟩ => tM.mono (step sr hr ok) fun v H1 ⟨d1, mh1, ι1, e1, sr1, hr1, r1, q1⟩ => ?_, by unfold seqI seqTup; rw [h]; rfl⟩
    cases r1 with
    | tup s1 q2 => exact ⟨_, rfl, ⟨_, s1⟩, q1 H1 ι1 hr1 .refl _ (src_tup s1 q2)⟩
    | _ => exact q1.elim
  | ok x h' =>
    cases x with
    | tup ds =>
      refine .inr ⟨seqTup m, (pi_tup he).imp fun σ H Q ⟨ρ, mh, ι, sr, hr, ok⟩ => tM.mono (step sr hr ok) fun v H1 ⟨d1, mh1, ι1, e1, sr1, hr1, r1, q1⟩ => ?_, by unfold seqI seqTup; rw [h]; rfl⟩
      cases r1 with
      | tup s1 q2 => exact ⟨_, rfl, ⟨_, s1⟩, q1 H1 ι1 hr1 .refl _ (src_tup s1 q2)⟩
      | _ => exact q1.elim
    | wl ds =>
      refine .inr ⟨seqWl m, (pi_list he).imp fun σ H Q ⟨ρ, mh, ι, sr, hr, ok⟩ => tM.mono (step sr hr ok) fun v H1 ⟨d1, mh1, ι1, e1, sr1, hr1, r1, q1⟩ => ?_, by unfold seqI seqWl; rw [h]; rfl⟩
      cases r1 with
      | wl s1 q2 => exact ⟨_, rfl, ⟨_, s1.sq⟩, q1 H1 ι1 hr1 .refl _ (src_wl s1 q2)⟩
      | _ => exact q1.elim
    | str z =>
      refine .inr ⟨seqStr m, (pi_str he).imp fun σ H Q ⟨ρ, mh, ι, sr, hr, ok⟩ => tM.mono (step sr hr ok) fun v H1 ⟨d1, mh1, ι1, e1, sr1, hr1, r1, q1⟩ => ?_, by unfold seqI seqStr; rw [h]; rfl⟩
      cases r1 <;> try exact q1.elim
      exact ⟨_, rfl, q1 H1 ι1 hr1 .refl _ src_str⟩
    | ref n =>
      refine .inr ⟨seqLst m, (pi_list he).imp fun σ H Q ⟨ρ, mh, ι, sr, hr, ok⟩ => tM.mono (step sr hr ok) fun v H1 ⟨d1, mh1, ι1, e1, sr1, hr1, r1, q1⟩ => ?_, by unfold seqI seqLst; rw [h]; rfl⟩
      cases r1 with
      | @ref k a hk =>
        simp only at q1
        cases e1 : mh1[k]? with
        | none => rw [e1] at q1; exact q1.elim
        | some o =>
          rw [e1] at q1
          have ho := hr1.ob k a o hk e1
          cases o <;> try exact q1.elim
          · obtain ⟨xs, g1, g2⟩ := ho
            exact ⟨a, rfl, ⟨xs, SqL.of g1⟩, q1 H1 ι1 hr1 .refl _ (src_lst hk)⟩
      | _ => exact q1.elim
    | _ => left; unfold seqI; rw [h]; rfl
def rangeI1 (m : MA) : MI := fun ρ h => (m ρ h).bind fun xs h => match xs with
  | [.int j] => if bnd62 j = true then .ok (intsFrom 0 1 j.toNat, always) h else .no
  | _ => .no
def rangeI2 (m : MA) : MI := fun ρ h => (m ρ h).bind fun xs h => match xs with
  | [.int i, .int j] => if bnd62 i = true ∧ bnd62 j = true then .ok (intsFrom i 1 (j - i).toNat, always) h else .no
  | _ => .no
def rangeI3 (m : MA) : MI := fun ρ h => (m ρ h).bind fun xs h => match xs with
  | [.int i, .int j, .int c] => if c ≠ 0 ∧ c.natAbs < 1073741824 ∧ Builtin.Range.small i j c = true ∧ 0 ≤ Builtin.Range.rangeSize i j c then .ok (intsFrom i c (Builtin.Range.rangeSize i j c).toNat, always) h else .no
  | _ => .no
theorem bnd62_of {i : Int} (h : bnd62 i = true) : -(2 ^ 62) ≤ i ∧ i < 2 ^ 62 := by
  unfold bnd62 at h
  rw [Bool.and_eq_true] at h
  exact ⟨of_decide_eq_true h.1, of_decide_eq_true h.2⟩
theorem i_range1 (hg : Gl X "range") (hm : X.mg "range" = none) (ha : PA X [a] (tMA X.K cl E ma)) (hs : starEach [a] X.env = [(false, eval a X.env)]) : PI X tg (.Call (.Name "range" p) [a] [] pos) (tMI X.K cl E (rangeI1 ma)) :=
  (pi_range1 hg hm ha hs).imp fun σ H Q ⟨ρ, mh, ι, sr, hr, ok⟩ => tMA.mono (stepA sr hr ok) fun vs H1 ⟨ds, mh1, ι1, e1, sr1, hr1, r1, q1⟩ => by
    split at q1
    · split at q1
      · rename_i h
        obtain ⟨b1, b2⟩ := bnd62_of h
        obtain ⟨v, rfl, rv⟩ := one_of r1
        cases rv
        exact ⟨_, rfl, b1, b2, q1 H1 ι1 hr1 .refl _ src_rng1⟩
      · exact q1.elim
    · exact q1.elim
theorem i_range2 (hg : Gl X "range") (hm : X.mg "range" = none) (ha : PA X [a, b] (tMA X.K cl E ma)) (hs : starEach [a, b] X.env = [(false, eval a X.env), (false, eval b X.env)]) (hs2 : starEach [b] X.env = [(false, eval b X.env)]) : PI X tg (.Call (.Name "range" p) [a, b] [] pos) (tMI X.K cl E (rangeI2 ma)) :=
  (pi_range2 hg hm ha hs hs2).imp fun σ H Q ⟨ρ, mh, ι, sr, hr, ok⟩ => tMA.mono (stepA sr hr ok) fun vs H1 ⟨ds, mh1, ι1, e1, sr1, hr1, r1, q1⟩ => by
    split at q1
    · split at q1
      · rename_i h
        obtain ⟨b1, b2⟩ := bnd62_of h.1
        obtain ⟨b3, b4⟩ := bnd62_of h.2
        obtain ⟨v, u, rfl, rv, ru⟩ := two_of r1
        cases rv; cases ru
        exact ⟨_, _, rfl, ⟨b1, b2, b3, b4⟩, q1 H1 ι1 hr1 .refl _ src_rng1⟩
      · exact q1.elim
    · exact q1.elim
theorem three_of {K : PySem.W.Frag} {H : Hp} {ι : List Addr} {x y z : D} {vs : List V} (r : Reps K H ι [x, y, z] vs) : ∃ v u w, vs = [v, u, w] ∧ Rep K H ι x v ∧ Rep K H ι y u ∧ Rep K H ι z w := by
  cases r with | cons r t => obtain ⟨u, w, rfl, q1, q2⟩ := two_of t; exact ⟨_, u, w, rfl, r, q1, q2⟩
theorem i_range3 (hg : Gl X "range") (hm : X.mg "range" = none) (ha : PA X [a, b, c] (tMA X.K cl E ma)) (hs : starEach [a, b, c] X.env = (false, eval a X.env) :: starEach [b, c] X.env) (hpl : (backTo pos (starEach [b, c] X.env)).any (·.1) = false) : PI X tg (.Call (.Name "range" p) [a, b, c] [] pos) (tMI X.K cl E (rangeI3 ma)) :=
  (pi_range3 hg hm ha hs hpl).imp fun σ H Q ⟨ρ, mh, ι, sr, hr, ok⟩ => tMA.mono (stepA sr hr ok) fun vs H1 ⟨ds, mh1, ι1, e1, sr1, hr1, r1, q1⟩ => by
    split at q1
    · split at q1
      · rename_i h
        obtain ⟨v, u, w, rfl, rv, ru, rw'⟩ := three_of r1
        cases rv; cases ru; cases rw'
        exact ⟨_, _, _, _, rfl, ⟨h.1, h.2.1, h.2.2.1, by omega⟩, q1 H1 ι1 hr1 .refl _ src_rng⟩
      · exact q1.elim
    · exact q1.elim
end

/-! ### list comprehensions -/
def wipeD (ρ : Ro) : List Nat → Ro
  | [] => ρ
  | v :: vs => (wipeD ρ vs).set v none
def Res.nox {α : Type} : Res α → Res α
  | .ex _ _ _ => .no
  | r => r
def yesT : MT := fun _ h => .ok true h
def lcL (chk : MH → Bool) (g : MG) (t : MT) (e : ME) (ρ0 : Ro) (n : Nat) : List D → MH → Res D
  | [], h => if chk h = true then .ok (.ref n) h else .no
  | x :: xs, h => if chk h = true then (g x ρ0 h).bind fun ρ1 h => (t ρ1 h).nox.bind fun b h => if b = true then (e ρ1 h).nox.bind fun y h => (match h[n]? with
      | some (.lst acc) => if acc.length < sizeLine then lcL chk g t e ρ0 n xs (h.set n (.lst (acc ++ [y]))) else .no
      | _ => .no) else lcL chk g t e ρ0 n xs h else .no
def lcM (vs : List Nat) (m : MI) (g : MG) (t : MT) (e : ME) : ME := fun ρ h => (m ρ h).bind fun p h => lcL p.2 g t e (wipeD ρ vs) h.length p.1 (h ++ [.lst []])
abbrev xk0 : XK := fun _ _ _ => False
/-- a target of a comprehension: it stores own names alone, the heap stays -/
structure GW (K : PySem.W.Frag) (vs : List Nat) (t : TG) (g : MG) : Prop where
  run : ∀ (d : D) (v : V) (σ : L2.St) (H : Hp) (ρ : Ro) (ι : List Addr) (mh : MH) (ρ' : Ro) (Q : L2.St → Hp → Prop), Rep K H ι d v → SR K H ι ρ σ → g d ρ mh = .ok ρ' mh →
    (∀ σ', SR K H ι ρ' σ' → wipe σ' vs = wipe σ vs → Q σ' H) → t v σ H Q
  same : ∀ d ρ mh, g d ρ mh = .no ∨ ∃ ρ', g d ρ mh = .ok ρ' mh
theorem wipe_set {σ : L2.St} {i : Nat} {o : Option V} : ∀ {vs : List Nat}, i ∈ vs → wipe (σ.set i o) vs = wipe σ vs
  | v :: vs, h => by
    unfold wipe
    by_cases e : i = v
    · subst e
      by_cases e2 : i ∈ vs
      · rw [wipe_set e2]
      · have : ∀ us : List Nat, i ∉ us → wipe (σ.set i o) us = (wipe σ us).set i o := fun us => by
          induction us with
          | nil => intro _; rfl
          | cons u us ih =>
            intro hu
            simp only [List.mem_cons, not_or] at hu
            unfold wipe
            rw [ih hu.2, List.set_comm _ _ hu.1]
        rw [this vs e2, List.set_set]
    · have h' : i ∈ vs := by simpa [e] using h
      rw [wipe_set h']
theorem wipe_in {σ : L2.St} {v : Nat} : ∀ {vs : List Nat}, v ∈ vs → (wipe σ vs).set v none = wipe σ vs
  | u :: us, h => by
    unfold wipe
    by_cases e : v = u
    · subst e; rw [List.set_set]
    · rw [List.set_comm _ _ (Ne.symm e), wipe_in (by simpa [e] using h)]
theorem wipe_sub {σ : L2.St} {vs : List Nat} : ∀ us : List Nat, (∀ u ∈ us, u ∈ vs) → wipe (wipe σ vs) us = wipe σ vs
  | [], _ => rfl
  | u :: us, h => by
    show (wipe (wipe σ vs) us).set u none = _
    rw [wipe_sub us fun w hw => h w (List.mem_cons_of_mem _ hw), wipe_in (h u List.mem_cons_self)]
theorem wipe_wipe {σ : L2.St} {vs : List Nat} : wipe (wipe σ vs) vs = wipe σ vs := wipe_sub vs fun _ h => h
theorem SR.wipe {K : PySem.W.Frag} {H : Hp} {ι : List Addr} {ρ : Ro} {σ : L2.St} (h : SR K H ι ρ σ) : ∀ vs, SR K H ι (wipeD ρ vs) (wipe σ vs)
  | [] => h
  | v :: vs => by
    have ih := SR.wipe h vs
    unfold wipeD L2.wipe
    refine ⟨by simp [ih.1], fun j d hd => ?_⟩
    rw [List.getElem?_set] at hd ⊢
    by_cases e : v = j
    · subst e
      rw [if_pos rfl] at hd
      split at hd <;> cases hd
    · rw [if_neg e] at hd ⊢
      exact ih.2 j d hd
theorem gw_name {K : PySem.W.Frag} {vs : List Nat} {i : Nat} (h : i ∈ vs) : GW K vs (gName i) (nameG i) where
  run := fun d v σ H ρ ι mh ρ' Q r sr e q => by
    have : ρ' = ρ.set i (some d) := by unfold nameG at e; injection e with e1 _; exact e1.symm
    subst this
    exact q _ (sr.set r i) (wipe_set h)
  same := fun d ρ mh => .inr ⟨_, rfl⟩
theorem gw_names {K : PySem.W.Frag} {vs : List Nat} {H : Hp} {ι : List Addr} {Q : L2.St → Hp → Prop} : ∀ (is : List Nat) (ds : List D) (xs : List V) (ρ : Ro) (σ : L2.St), (∀ i ∈ is, i ∈ vs) → ds.length = is.length → Reps K H ι ds xs → SR K H ι ρ σ →
    (∀ σ', SR K H ι (namesG is ds ρ) σ' → wipe σ' vs = wipe σ vs → Q σ' H) → (is.foldr (fun i u => gCons (gName i) u) gNil) xs σ H Q
  | [], [], [], ρ, σ, _, _, _, sr, q => ⟨rfl, q σ sr rfl⟩
  | i :: is, d :: ds, v :: xs, ρ, σ, hi, hl, r, sr, q => by
    cases r with
    | cons r t => exact ⟨v, xs, rfl, gw_names is ds xs _ _ (fun j hj => hi j (List.mem_cons_of_mem _ hj)) (by simpa using hl) t (sr.set r i) fun σ' s' w => q σ' s' (w.trans (wipe_set (hi i List.mem_cons_self)))⟩
  | [], _ :: _, _, _, _, _, hl, _, _, _ => by cases hl
  | _ :: _, [], _, _, _, _, hl, _, _, _ => by cases hl
  | [], [], _ :: _, _, _, _, _, r, _, _ => by cases r
  | _ :: _, _ :: _, [], _, _, _, _, r, _, _ => by cases r
theorem gw_tup {K : PySem.W.Frag} {vs is : List Nat} {n : Nat} (hn : is.length = n) (h : ∀ i ∈ is, i ∈ vs) : GW K vs (gTup K n (is.foldr (fun i u => gCons (gName i) u) gNil)) (tupG is) where
  run := fun d v σ H ρ ι mh ρ' Q r sr e q => by
    cases r with
    | tup s1 q1 =>
      simp only [tupG] at e
      split at e
      · rename_i hl
        injection e with e1 _
        subst e1
        exact ⟨_, _, rfl, s1, by rw [← q1.length, hl, hn], gw_names is _ _ ρ σ h hl q1 sr q⟩
      · cases e
    | _ => cases e
  same := fun d ρ mh => by
    cases d with
    | tup ds =>
      simp only [tupG]
      split
      · exact .inr ⟨_, rfl⟩
      · exact .inl rfl
    | _ => exact .inl rfl
theorem okR.nox {K : PySem.W.Frag} {cl : Clm} {E : XK} {H : Hp} {ι : List Addr} {α β : Type} {r : Res α} {f : α → MH → Res β} {P : β → Hp → List Addr → Prop} (h : okR K cl E ι H (r.nox.bind f) P) :
    okR K cl xk0 ι H r fun a H' ι' => ∃ mh', HR K cl H' ι' mh' ∧ okR K cl E ι' H' (f a mh') P := by
  cases r with
  | ok a mh => exact fun H2 ι2 h2 e2 => ⟨mh, h2, okR.weak h e2⟩
  | ex c fs mh => exact h.elim
  | no => exact h.elim
section
variable {X : Cx} {cl : Clm} {E : XK} {elt tg iter : Expr} {ifs : List Expr} {scope : Scope} {own : List (Str × Nat)} {pos spos py : Pos} {m : MI} {g : MG} {tG : TG} {t : MT} {me : ME}
theorem lcI : GW X.K (own.map (·.2)) tG g → ∀ σ H Q, tM X.K cl E (lcM (own.map (·.2)) m g t me) σ H Q → tLc (tMI X.K cl E m) tG (tMT X.K cl xk0 t) (tM X.K cl xk0 me) (own.map (·.2)) σ H Q := by
  rintro G σ H Q ⟨ρ, mh, ι, sr, hr, ok⟩
  refine ⟨ρ, mh, ι, sr, hr, okR.imp ok.bnd fun p H1 ι1 e1 ⟨mh1, hr1, q1⟩ J S Dp hD => ?_⟩
  have hr2 : HR X.K cl (upd H1 Dp (.lst [])) (ι1 ++ [Dp]) (mh1 ++ [.lst []]) := hr1.new hD ⟨_, upd_same, .nil⟩
  have hn : (ι1 ++ [Dp])[mh1.length]? = some Dp := by rw [← hr1.len]; simp
  have ex2 : Ext ι1 H1 (ι1 ++ [Dp]) (upd H1 Dp (.lst [])) := .new hD _
  have sr2 := (sr.mono e1).wipe (own.map (·.2))
  refine ⟨fun i k H => ∃ mh ι, HR X.K cl H ι mh ∧ Ext (ι1 ++ [Dp]) (upd H1 Dp (.lst [])) ι H ∧ k = p.1.length - i ∧ i ≤ p.1.length ∧ okR X.K cl E ι H (lcL p.2 g t me (wipeD ρ (own.map (·.2))) mh1.length (p.1.drop i) mh) (pE X.K Q), ⟨p.1.length, _, _, hr2, .refl, by simp, Nat.zero_le _, okR.weak q1 ex2⟩, ?_⟩
  rintro i k H ⟨mh, ι, hr, ex, rfl, hi, ok⟩
  have exJ : Ext ι1 H1 ι H := ex2.trans ex
  by_cases hlt : i < p.1.length
  · rw [List.drop_eq_getElem_cons hlt, lcL] at ok
    split at ok
    · rename_i hchk
      refine .inr ⟨S.go i H ι mh exJ hr hchk hlt, fun H => ∃ mh ι, HR X.K cl H ι mh ∧ Ext (ι1 ++ [Dp]) (upd H1 Dp (.lst [])) ι H ∧ okR X.K cl E ι H (lcL p.2 g t me (wipeD ρ (own.map (·.2))) mh1.length (p.1.drop (i + 1)) mh) (pE X.K Q), fun H' ⟨mh', ι', w2, w3, w4⟩ => ⟨p.1.length - (i + 1), by omega, mh', ι', w2, w3, rfl, hlt, w4⟩, fun x H' y => ?_⟩
      obtain ⟨hr', e', d, hd, rd⟩ := S.yld i H ι mh exJ hr hchk hlt x H' y
      have hd' : p.1[i] = d := by rw [List.getElem?_eq_getElem hlt] at hd; exact Option.some.inj hd
      subst hd'
      have ex' := ex.trans e'
      have sr' : SR X.K H' ι (wipeD ρ (own.map (·.2))) (wipe σ (own.map (·.2))) := (sr2.mono ex2).mono ex'
      have ok' := okR.weak ok e'
      rcases G.same p.1[i] (wipeD ρ (own.map (·.2))) mh with z | ⟨ρ1, z⟩
      · rw [z] at ok'; exact ok'.elim
      rw [z] at ok'
      refine G.run _ _ _ _ _ _ _ _ _ rd sr' z fun σ2 sr3 hw => ⟨by rw [hw, wipe_wipe], ?_⟩
      refine ⟨ρ1, mh, ι, sr3, hr', okR.imp (okR.nox (show okR X.K cl E ι H' ((t ρ1 mh).nox.bind _) _ from ok')) fun b H3 ι3 e3 ⟨mh3, hr3, q3⟩ => ?_⟩
      cases b with
      | false =>
        unfold pT; dsimp only
        rw [if_neg Bool.false_ne_true]
        exact ⟨mh3, ι3, hr3, ex'.trans e3, q3⟩
      | true =>
        unfold pT; dsimp only
        rw [if_pos rfl]
        refine ⟨ρ1, mh3, ι3, sr3.mono e3, hr3, okR.imp (okR.nox (show okR X.K cl E ι3 H3 ((me ρ1 mh3).nox.bind _) _ from q3)) fun y H4 ι4 e4 ⟨mh4, hr4, q4⟩ v4 r4 => ?_⟩
        have ex4 := (ex'.trans e3).trans e4
        have hn4 := ex4.get hn
        cases e5 : mh4[mh1.length]? with
        | none => rw [e5] at q4; exact q4.elim
        | some o =>
          rw [e5] at q4
          have ho := hr4.ob _ _ _ hn4 e5
          cases o <;> try exact q4.elim
          rename_i acc
          simp only at q4
          split at q4
          · rename_i hl
            obtain ⟨xs, h1, h2⟩ := ho
            have exs : Ext ι4 H4 ι4 (upd H4 Dp (.lst (xs ++ [v4]))) := Ext.set h1 (fun _ z => nomatch z) fun _ _ z => nomatch z
            refine ⟨xs, h1, h2.length ▸ hl, _, ι4, hr4.set (o := .lst (acc ++ [y])) hn4 exs ⟨_, upd_same, (h2.append (.cons r4 .nil)).mono exs⟩, ex4.trans exs, okR.weak q4 exs⟩
          · exact q4.elim
    · exact ok.elim
  · rw [List.drop_eq_nil_of_le (by omega), lcL] at ok
    split at ok
    · rename_i hchk
      exact .inl ⟨S.stop i H ι mh exJ hr hchk (by omega), fin hr (.ref (ex.get hn)) ok⟩
    · exact ok.elim
end
section
variable {X : Cx} {cl : Clm} {E : XK} {elt tg iter : Expr} {ifs : List Expr} {scope : Scope} {own : List (Str × Nat)} {pos spos py : Pos} {m : MI} {g : MG} {tG : TG} {t : MT} {me : ME}
theorem m_lc (hc : X.calm = true) (hN : X.N.Nodup) (hi : PI X tg iter (tMI X.K cl E m)) (ok : BlkOk X.N X.env.scope scope own) (G : GW X.K (own.map (·.2)) tG g)
    (hg : ∀ (s : Shared) (H : Hp) (C : Addr) (cl : List (Str × Addr)) (fp : List Addr), PG (X.blk s H scope (compEnvC scope cl C X.env) fp) tg tG)
    (ht : ∀ (s : Shared) (H : Hp) (C : Addr) (cl' : List (Str × Addr)) (fp : List Addr), PTs (X.blk s H scope (compEnvC scope cl' C X.env) fp) ifs (tMT X.K cl xk0 t))
    (he : ∀ (s : Shared) (H : Hp) (C : Addr) (cl' : List (Str × Addr)) (fp : List Addr), PE (X.blk s H scope (compEnvC scope cl' C X.env) fp) elt (tM X.K cl xk0 me)) (hs : ∀ x, foldedSetIterable iter X.env x = pure x) :
    PE X (.ListComp elt [⟨tg, iter, ifs, 0⟩] scope pos) (tM X.K cl E (lcM (own.map (·.2)) m g t me)) := (pe_lc hc hN hi ok hg ht he hs).imp (lcI G)
theorem s_setLc {i : Nat} {y : Str} (hc : X.calm = true) (hN : X.N.Nodup) (hy : X.N[i]? = some y) (hyl : X.env.scope.names.lookup y = some .local) (hsw : swapsWith (.ListComp elt [⟨tg, iter, ifs, 0⟩] scope pos) (some (.Name y py)) spos.line X.env = pure true)
    (hi : PI X tg iter (tMI X.K cl E m)) (ok : BlkOk X.N X.env.scope scope own) (G : GW X.K (own.map (·.2)) tG g)
    (hg : ∀ (s : Shared) (H : Hp) (C : Addr) (cl : List (Str × Addr)) (fp : List Addr), PG (X.blk s H scope (compEnvC scope cl C X.env) fp) tg tG)
    (ht : ∀ (s : Shared) (H : Hp) (C : Addr) (cl' : List (Str × Addr)) (fp : List Addr), PTs (X.blk s H scope (compEnvC scope cl' C X.env) fp) ifs (tMT X.K cl xk0 t))
    (he : ∀ (s : Shared) (H : Hp) (C : Addr) (cl' : List (Str × Addr)) (fp : List Addr), PE (X.blk s H scope (compEnvC scope cl' C X.env) fp) elt (tM X.K cl xk0 me)) (hs : ∀ x, foldedSetIterable iter X.env x = pure x) :
    PS X (.Assign [.Name y py] (.ListComp elt [⟨tg, iter, ifs, 0⟩] scope pos) spos) (tMS X.K cl E (setS i (lcM (own.map (·.2)) m g t me))) :=
  (ps_setLc hc hN hy hyl hsw hi ok hg ht he hs).imp fun D σ H ⟨ρ, mh, ι, sr, hr, ok⟩ => by
    refine lcI G _ _ _ (tM.mono (step sr hr ok) fun v H1 ⟨d1, mh1, ι1, e1, sr1, hr1, r1, q1⟩ => ?_)
    exact finS (r := (.nx, ρ.set i (some d1))) hr1 (sr1.set r1 i) q1
theorem t_yes : PTs X [] (tMT X.K cl E yesT) := ⟨fun pins s σ H Q I ⟨ρ, mh, ι, sr, hr, ok⟩ => pts_nil.run pins s σ H Q I (finT hr ok)⟩
end
end Mir
namespace Mir
open PySem PySem.Spec L2

/-! ### dict displays -/
def pairsM : List (ME × ME) → Ro → MH → Res (List (D × D))
  | [], _, h => .ok [] h
  | (k, v) :: r, ρ, h => (k ρ h).bind fun x h => (v ρ h).bind fun y h => (pairsM r ρ h).bind fun ps h => .ok ((x, y) :: ps) h
def keysD {κ : Type} (f : D → Option κ) : List (D × D) → Option (List (κ × D))
  | [] => some []
  | (x, y) :: r => match f x, keysD f r with | some k, some ps => some ((k, y) :: ps) | _, _ => none
def mergeD {κ : Type} [DecidableEq κ] (kvs more : List (κ × D)) : List (κ × D) := more.foldl (fun acc kv => putD acc kv.1 kv.2) kvs
def newDic : ME := fun _ h => .ok (.ref h.length) (h ++ [.dic []])
def dispM (prs : List (ME × ME)) : ME := fun ρ h => (pairsM prs ρ (h ++ [.dic []])).bind fun ps h2 => match keysD keyD ps with
  | some kvs => if kvs.length ≤ 15 then (match h2[h.length]? with | some (.dic []) => .ok (.ref h.length) (h2.set h.length (.dic (mergeD [] kvs))) | _ => .no) else .no
  | none => .no
def dispL (prs : List (ME × ME)) : ME := fun ρ h => (pairsM prs ρ (h ++ [.dil []])).bind fun ps h2 => match keysD leafD ps with
  | some kvs => if kvs.length ≤ 15 then (match h2[h.length]? with | some (.dil []) => .ok (.ref h.length) (h2.set h.length (.dil (mergeD [] kvs))) | _ => .no) else .no
  | none => .no
abbrev Prr (K : PySem.W.Frag) (H : Hp) (ι : List Addr) : List (D × D) → List (V × V) → Prop := Paired fun p q => Rep K H ι p.1 q.1 ∧ Rep K H ι p.2 q.2
section
variable {K : PySem.W.Frag} {cl : Clm} {E : XK} {H : Hp} {ι : List Addr} {ρ : Ro} {σ : L2.St} {mh : MH}
theorem tM.mono' {m : ME} {Q Q' : VK} (h : tM K cl E m σ H Q) (i : ∀ v H', Q v H' → Q' v H') : tM K cl E m σ H Q' := by
  obtain ⟨ρ, mh, ι, a1, a2, a3⟩ := h
  exact ⟨ρ, mh, ι, a1, a2, okR.imp a3 fun d H1 ι1 e1 q v rv => i _ _ (q v rv)⟩
theorem pairs_ok {Q : List (V × V) → Hp → Prop} : ∀ (prs : List (ME × ME)) {H : Hp} {ι : List Addr} {mh : MH} {P : List (D × D) → Hp → List Addr → Prop}, SR K H ι ρ σ → HR K cl H ι mh → okR K cl E ι H (pairsM prs ρ mh) P →
    (∀ ps vs H' ι', Ext ι H ι' H' → Prr K H' ι' ps vs → P ps H' ι' → Q vs H') → tPairs (prs.map fun p => (tM K cl E p.1, tM K cl E p.2)) σ H Q
  | [], H, ι, mh, P, sr, hr, ok, q => q [] [] H ι .refl .nil (ok H ι hr .refl)
  | (k, v) :: r, H, ι, mh, P, sr, hr, ok, q => by
    refine tM.mono' (step sr hr ok) fun x H1 ⟨d1, mh1, ι1, e1, sr1, hr1, r1, q1⟩ => ?_
    refine tM.mono' (step sr1 hr1 q1) fun y H2 ⟨d2, mh2, ι2, e2, sr2, hr2, r2, q2⟩ => ?_
    refine pairs_ok (P := fun ps H3 ι3 => P ((d1, d2) :: ps) H3 ι3) r sr2 hr2 (okR.imp q2.bnd fun ps H3 ι3 e3 ⟨mh3, hr3, q3⟩ => q3 H3 ι3 hr3 .refl) fun ps vs H' ι' e rr p => ?_
    exact q _ _ _ _ ((e1.trans e2).trans e) (.cons ⟨(r1.mono e2).mono e, r2.mono e⟩ rr) p
theorem mergeD_of {κ : Type} [DecidableEq κ] : ∀ {ms : List (κ × D)} {us : List (κ × V)} {ds : List (κ × D)} {vs : List (κ × V)}, Prs K H ι ms us → Prs K H ι ds vs → Prs K H ι (mergeD ds ms) (us.foldl (fun acc kv => putK acc kv.1 kv.2) vs)
  | _, _, _, _, .nil, q => q
  | _, _, ds, vs, .cons (a := p) (b := u) r t, q => by
    have e : Prs K H ι (putD ds p.1 p.2) (putK vs u.1 u.2) := by rw [← r.1]; exact putD_of r.2 q
    exact (show Prs K H ι (mergeD (putD ds p.1 p.2) _) (List.foldl _ (putK vs u.1 u.2) _) from mergeD_of t e)
theorem keysK_of : ∀ {ps : List (D × D)} {vs : List (V × V)} {kvs : List (Key × D)}, Prr K H ι ps vs → keysD keyD ps = some kvs → ∃ us : List (Key × V), vs = us.map (fun kv => (kV kv.1, kv.2)) ∧ Prs K H ι kvs us
  | _, _, _, .nil, h => by cases h; exact ⟨[], rfl, .nil⟩
  | _, _, _, .cons (a := p) (b := q) (l₁ := ps) r t, h => by
    obtain ⟨x, y⟩ := p
    simp only [keysD] at h
    cases e1 : keyD x with
    | none => rw [e1] at h; cases h
    | some k =>
      cases e2 : keysD keyD ps with
      | none => rw [e1, e2] at h; cases h
      | some ks =>
        rw [e1, e2] at h
        cases h
        obtain ⟨us, rfl, q2⟩ := keysK_of t e2
        have := key_at r.1 e1
        obtain ⟨q1, q3⟩ := q
        simp only at this
        subst this
        exact ⟨(k, q3) :: us, rfl, .cons ⟨rfl, r.2⟩ q2⟩
theorem keysL_of {P : Program} {w : World} : ∀ {ps : List (D × D)} {vs : List (V × V)} {ws : List (Value × Value)} {kvs : List (Leaf × D)}, Prr K H ι ps vs → VV vs ws → keysD leafD ps = some kvs → ∃ (us : List (Leaf × V)) (rs : List (Leaf × Value)), Carries (leafKind P w) ws rs ∧ KV us rs ∧ Prs K H ι kvs us
  | _, _, _, _, .nil, v, h => by cases h; cases v; exact ⟨[], [], True.intro, .nil, .nil⟩
  | _, _, _, _, .cons (a := p) (b := q) (l₁ := ps) r t, v, h => by
    cases v with
    | @cons _ b _ bs v1 vt =>
      obtain ⟨x, y⟩ := p
      simp only [keysD] at h
      cases e1 : leafD x with
      | none => rw [e1] at h; cases h
      | some k =>
        cases e2 : keysD leafD ps with
        | none => rw [e1, e2] at h; cases h
        | some ks =>
          rw [e1, e2] at h
          cases h
          obtain ⟨us, rs, c, q1, q2⟩ := keysL_of (P := P) (w := w) t vt e2
          obtain ⟨b1, b2⟩ := b
          exact ⟨(k, q.2) :: us, (k, b2) :: rs, ⟨leaf_at r.1 v1.1 e1, rfl, c⟩, .cons ⟨rfl, v1.2⟩ q1, .cons ⟨rfl, r.2⟩ q2⟩
end
section
variable {X : Cx} {cl : Clm} {E : XK} {pos : Pos} {keys : List (Option Expr)} {values : List Expr} {prs : List (ME × ME)}
theorem m_dnew : PE X (.Dict [] [] pos) (tM X.K cl E newDic) := pe_dnewK.imp fun σ H Q ⟨ρ, mh, ι, sr, hr, ok⟩ => fun p hp => by
  refine ok _ (ι ++ [p]) (hr.new hp ⟨_, upd_same, .nil⟩) (.new hp _) _ (.ref ?_)
  rw [← hr.len]; simp
theorem m_disp (h : PPs X pos keys values (prs.map fun p => (tM X.K cl E p.1, tM X.K cl E p.2))) (hall : keys.all (·.isSome) = true) (hl : keys.length = values.length) (h0 : keys ≠ []) (h15 : keys.length ≤ 15) : PE X (.Dict keys values pos) (tM X.K cl E (dispM prs)) :=
  (pe_disp h hall hl h0 h15).imp fun σ H Q ⟨ρ, mh, ι, sr, hr, ok⟩ => fun p hp => by
    have hr1 : HR X.K cl (upd H p (.dK [])) (ι ++ [p]) (mh ++ [.dic []]) := hr.new hp ⟨_, upd_same, .nil⟩
    have e1 : Ext ι H (ι ++ [p]) (upd H p (.dK [])) := .new hp _
    have hn : (ι ++ [p])[mh.length]? = some p := by rw [← hr.len]; simp
    refine pairs_ok prs (sr.mono e1) hr1 (okR.bnd (okR.weak ok e1)) fun ps vs H' ι' e rr ⟨mh', hr', q⟩ => ?_
    cases hk : keysD keyD ps with
    | none => rw [hk] at q; exact q.elim
    | some kvs =>
      rw [hk] at q
      simp only at q
      split at q
      · rename_i h15'
        split at q
        · rename_i he
          have hn' := e.get hn
          obtain ⟨xs, g1, g2⟩ := hr'.ob _ _ _ hn' he
          cases g2
          obtain ⟨us, rfl, q2⟩ := keysK_of rr hk
          have ex : Ext ι' H' ι' (upd H' p (.dK (mergeK [] us))) := Ext.set g1 (fun _ z => nomatch z) fun _ _ z => nomatch z
          refine ⟨g1, us, rfl, by rw [← Prs.len q2]; exact h15', ?_⟩
          exact q _ ι' (hr'.set (o := .dic (mergeD [] kvs)) hn' ex ⟨_, upd_same, (mergeD_of q2 .nil).mono ex⟩) ex _ (.ref hn')
        · exact q.elim
      · exact q.elim
theorem m_displ (hcP : cl.P = X.prog) (hcw : cl.w = X.w) (h : PPs X pos keys values (prs.map fun p => (tM X.K cl E p.1, tM X.K cl E p.2))) (hall : keys.all (·.isSome) = true) (hl : keys.length = values.length) (h0 : keys ≠ []) (h15 : keys.length ≤ 15) : PE X (.Dict keys values pos) (tM X.K cl E (dispL prs)) := by
  refine ⟨fun pins s σ H Q I ⟨ρ, mh, ι, sr, hr, ok⟩ => ?_⟩
  have hn := I.hok.fresh (Nat.le_refl s.heap.objs.size)
  have kp : ∀ (vs : List (Leaf × V)) (h1 h2 : Heap), BD X.prog X.w s.heap.objs.size vs h1 → (∀ o, h1.get? s.heap.objs.size = some o → h2.get? s.heap.objs.size = some o) → BD X.prog X.w s.heap.objs.size vs h2 :=
    fun vs h1 h2 ⟨b1, b2, us', b3, q, es, ep, b4, b5⟩ k => ⟨b1, b2, us', b3, q, es, ep, k _ b4, b5⟩
  have hd0 : (s.heap.objs.size == sysModules) = false := beq_eq_false_iff_ne.mpr (Ne.symm (Nat.ne_of_lt I.big))
  have em : (s.heap.push { cls := .type "dict", data := .dict #[] }).DictOf (leafKind X.prog X.w) s.heap.objs.size [] := Heap.DictOf.new s.heap
  have I1 := I.laid (a := s.heap.objs.size) (o := bO X.prog X.w s.heap.objs.size []) (h' := s.heap.push { cls := .type "dict", data := .dict #[] }) (t' := s.toks) (fun _ _ q => Heap.get?_push_of_some _ q) (Nat.le_refl _)
    ⟨⟨Nat.zero_le _, hd0, [], .nil, em⟩, ⟨_, Heap.get?_push_size _ rfl⟩, kp []⟩
  have hr1 : HR X.K cl (upd H s.heap.objs.size (bO X.prog X.w s.heap.objs.size [])) (ι ++ [s.heap.objs.size]) (mh ++ [.dil []]) := hr.new hn ⟨[], by rw [hcP, hcw]; exact upd_same, .nil⟩
  have e1 : Ext ι H (ι ++ [s.heap.objs.size]) (upd H s.heap.objs.size (bO X.prog X.w s.heap.objs.size [])) := .new hn _
  have hnn : (ι ++ [s.heap.objs.size])[mh.length]? = some s.heap.objs.size := by rw [← hr.len]; simp
  refine wpAny_Dict_walk (knd := leafKind X.prog X.w) hall hl h0 h15 (thn (h.run pins _ σ _ (fun vs H2 => ∃ ps ι' mh', Prr X.K H2 ι' ps vs ∧ HR X.K cl H2 ι' mh' ∧ Ext (ι ++ [s.heap.objs.size]) (upd H s.heap.objs.size (bO X.prog X.w s.heap.objs.size [])) ι' H2 ∧ okR X.K cl E ι' H2 (match keysD leafD ps with
    | some kvs => if kvs.length ≤ 15 then (match mh'[mh.length]? with | some (.dil []) => .ok (.ref mh.length) (mh'.set mh.length (.dil (mergeD [] kvs))) | _ => .no) else .no
    | none => .no) (pE X.K Q)) I1 (pairs_ok prs (sr.mono e1) hr1 (okR.bnd (okR.weak ok e1)) fun ps vs H' ι' e rr ⟨mh', hr', q⟩ => ⟨ps, ι', mh', rr, hr', e, q⟩)) fun ws s2 ⟨vs, H2, I2, rel, ps, ι', mh', rr, hr', e, q⟩ => ?_)
  cases hk : keysD leafD ps with
  | none => rw [hk] at q; exact q.elim
  | some kvs =>
    rw [hk] at q
    simp only at q
    split at q
    · rename_i h15'
      split at q
      · rename_i he
        have hn' := e.get hnn
        obtain ⟨xs, g1, g2⟩ := hr'.ob _ _ _ hn' he
        cases g2
        obtain ⟨us, rs, c, q1, q2⟩ := keysL_of (P := X.prog) (w := X.w) rr rel hk
        rw [hcP, hcw] at g1
        obtain ⟨z, hd, us0, r0, dd⟩ := bd_of I2.hok g1
        cases r0
        refine ⟨rs, c, dd, fun h' dd' hs => ?_⟩
        have mg : ∀ {more : List (Leaf × V)} {rs : List (Leaf × Value)} {kvs : List (Leaf × V)} {vs : List (Leaf × Value)}, KV more rs → KV kvs vs → KV (more.foldl (fun acc kv => putK acc kv.1 kv.2) kvs) (merged vs rs) := by
          intro more rs kvs vs r
          unfold KV at r
          induction r generalizing kvs vs with
          | nil => intro q; exact q
          | @cons p q ps qs h t ih =>
            intro r0
            have e : KV (putK kvs p.1 p.2) (stored vs q.1 q.2) := by
              have := r0.put p.1 h.2
              rw [← h.1]; exact this
            exact ih e
        have ln : ∀ (more kvs : List (Leaf × V)), (more.foldl (fun acc kv => putK acc kv.1 kv.2) kvs).length ≤ kvs.length + more.length := by
          intro more
          induction more with
          | nil => intro kvs; exact Nat.le_refl _
          | cons p r ih =>
            intro kvs
            have h1 := ih (putK kvs p.1 p.2)
            have h2 := length_putK kvs p.1 p.2
            show (List.foldl _ (putK kvs p.1 p.2) r).length ≤ _
            rw [List.length_cons]; omega
        have ex : Ext ι' H2 ι' (upd H2 s.heap.objs.size (bO X.prog X.w s.heap.objs.size (us.foldl (fun acc kv => putK acc kv.1 kv.2) []))) := Ext.set g1 (fun _ z => nomatch z) fun _ _ z => nomatch z
        have hz : (us.foldl (fun acc kv => putK acc kv.1 kv.2) ([] : List (Leaf × V))).length ≤ sizeLine := by
          have h1 := ln us []
          have h2 := Prs.len q2
          rw [List.length_nil] at h1
          rw [sizeLine_eq]; omega
        have he' : ∃ q, h'.get? s.heap.objs.size = some q := let ⟨q, _, _, hq, _⟩ := dd'; ⟨q, hq⟩
        refine ⟨.ref s.heap.objs.size, _, d_write I2 (ob := bO X.prog X.w s.heap.objs.size (us.foldl (fun acc kv => putK acc kv.1 kv.2) [])) (by rw [g1]; exact True.intro) hs he' ⟨⟨hz, hd, _, mg q1 .nil, dd'⟩, he', kp _⟩, rfl, ?_⟩
        exact q _ ι' (hr'.set (o := .dil (mergeD [] kvs)) hn' ex ⟨_, by rw [hcP, hcw]; exact upd_same, (mergeD_of q2 .nil).mono ex⟩) ex _ (.ref hn')
      · exact q.elim
    · exact q.elim
end

/-! ### methods of built-in types -/
def rMt (K : PySem.W.Frag) (cl : Clm) (E : XK) (g : D → List D → MH → Res D) : V → List V → Hp → VK → Prop := fun x xs H Q => ∃ dx ds mh ι, Rep K H ι dx x ∧ Reps K H ι ds xs ∧ HR K cl H ι mh ∧ okR K cl E ι H (g dx ds mh) (pE K Q)
structure BM (X : Cx) (cl : Clm) (E : XK) (T : String) (name : Str) (g : D → List D → MH → Res D) : Prop where
  ex : ∃ id, PlainAttrs T ∧ Slot T name id ∧ typeOf (.builtin id) = pure (.type "method_descriptor") ∧ MtR X id (rMt X.K cl E g)
def isTy (T : String) (x : D) (h : MH) : Bool := match x with
  | .str _ => T == "str"
  | .wl _ => T == "list"
  | .ref n => (match h[n]? with | some (.lst _) => T == "list" | some (.dic _) => T == "dict" | _ => false)
  | _ => false
def bmM (T : String) (g : D → List D → MH → Res D) (o : ME) (a : MA) : ME := fun ρ h => (o ρ h).bind fun x h => if isTy T x h = true then (a ρ h).bind fun xs h => g x xs h else .no
theorem tyV_of {K : PySem.W.Frag} {cl : Clm} {H : Hp} {ι : List Addr} {mh : MH} {x : D} {v : V} {T : String} (hr : HR K cl H ι mh) (r : Rep K H ι x v) (h : isTy T x mh = true) : tyV K T v H := by
  cases r with
  | str z => exact beq_iff_eq.mp h
  | wl s q => exact .inl ⟨beq_iff_eq.mp h, _, s.sq⟩
  | @ref n a hn =>
    simp only [isTy] at h
    cases e : mh[n]? with
    | none => rw [e] at h; cases h
    | some o =>
      rw [e] at h
      have ho := hr.ob n a o hn e
      cases o <;> try cases h
      · obtain ⟨xs, g1, g2⟩ := ho; exact .inl ⟨beq_iff_eq.mp h, xs, SqL.of g1⟩
      · obtain ⟨xs, g1, g2⟩ := ho; exact .inr (.inr (.inl ⟨beq_iff_eq.mp h, .inl ⟨xs, g1⟩⟩))
  | _ => cases h
section
variable {X : Cx} {cl : Clm} {E : XK} {o e : Expr} {es : List Expr} {name : Str} {apos cpos : Pos} {T : String} {g : D → List D → MH → Res D} {mo : ME} {ma : MA}
theorem m_bm0 (B : BM X cl E T name g) (ho : PE X o (tM X.K cl E mo)) (hbase : attributeBase o name X.env (eval o X.env) = eval o X.env) (hline : (apos.endLine == cpos.line) = true) : PE X (.Call (.Attribute o name apos) [] [] cpos) (tM X.K cl E (bmM T g mo nilM)) := by
  obtain ⟨id, pa, sl, ty, hm⟩ := B.ex
  exact (pe_bm0 pa sl ty hm ho hbase hline).imp fun σ H Q ⟨ρ, mh, ι, sr, hr, ok⟩ => tM.mono (step sr hr ok) fun v H1 ⟨d1, mh1, ι1, e1, sr1, hr1, r1, q1⟩ => by
    split at q1
    · rename_i h
      exact ⟨tyV_of hr1 r1 h, d1, [], mh1, ι1, r1, .nil, hr1, q1⟩
    · exact q1.elim
theorem m_bm (B : BM X cl E T name g) (ho : PE X o (tM X.K cl E mo)) (ha : PA X (e :: es) (tMA X.K cl E ma)) (hbase : attributeBase o name X.env (eval o X.env) = eval o X.env)
    (hfew : ((backTo cpos (starEach (e :: es) X.env)).all (fun x => !x.1) && (backToKw cpos (keywordEach [] X.env)).all (fun x => x.1.isSome)
      && decide ((e :: es).length + ([] : List Keyword).length + (if ([] : List Keyword).isEmpty then 0 else 1) < 30)) = true)
    (hline : (apos.endLine == cpos.line) = true) (hs : starEach (e :: es) X.env = (false, eval e X.env) :: starEach es X.env) (hplain : (backTo cpos (starEach es X.env)).any (·.1) = false) :
    PE X (.Call (.Attribute o name apos) (e :: es) [] cpos) (tM X.K cl E (bmM T g mo ma)) := by
  obtain ⟨id, pa, sl, ty, hm⟩ := B.ex
  exact (pe_bm pa sl ty hm ho ha hbase hfew hline hs hplain).imp fun σ H Q ⟨ρ, mh, ι, sr, hr, ok⟩ => tM.mono (step sr hr ok) fun v H1 ⟨d1, mh1, ι1, e1, sr1, hr1, r1, q1⟩ => by
    split at q1
    · rename_i h
      refine ⟨tyV_of hr1 r1 h, tMA.mono (stepA sr1 hr1 q1) fun vs H2 ⟨ds, mh2, ι2, e2, sr2, hr2, r2, q2⟩ => ?_⟩
      exact ⟨d1, ds, mh2, ι2, r1.mono e2, r2, hr2, q2⟩
    · exact q1.elim
end
/-! the methods -/
def strsO : List D → Option (List Str)
  | [] => some []
  | .str i :: r => (strsO r).map (i :: ·)
  | _ => none
def lowerD (x : D) (xs : List D) (h : MH) : Res D := match x, xs with | .str a, [] => if a.length ≤ 5592405 then .ok (.str (Txt.lower a)) h else .no | _, _ => .no
def stripD (x : D) (xs : List D) (h : MH) : Res D := match x, xs with | .str a, [.str b] => if a.length ≤ sizeLine then .ok (.str (Txt.stripChars a b)) h else .no | _, _ => .no
def splitD (x : D) (xs : List D) (h : MH) : Res D := match x, xs with
  | .str a, [.str b] => if (b.length == 0) = false ∧ a.length + 2 ≤ sizeLine then .ok (.ref h.length) (h ++ [.lst ((Txt.split a b).map .str)]) else .no
  | _, _ => .no
def joinD (x : D) (xs : List D) (h : MH) : Res D := match x, xs with
  | .str a, [y] => (match (seqO y h).bind strsO with | some ys => if (ys.map (·.length)).sum + ys.length * a.length ≤ 16777216 then .ok (.str (Txt.join a ys)) h else .no | none => .no)
  | _, _ => .no
def appendD (x : D) (xs : List D) (h : MH) : Res D := match x, xs with
  | .ref n, [y] => (match h[n]? with | some (.lst ds) => if ds.length < sizeLine then .ok .non (h.set n (.lst (ds ++ [y]))) else .no | _ => .no)
  | _, _ => .no
def extendD (x : D) (xs : List D) (h : MH) : Res D := match x, xs with
  | .ref n, [.ref m] => (match h[n]?, h[m]? with | some (.lst ds), some (.lst es) => if ds.length + es.length ≤ sizeLine then .ok .non (h.set n (.lst (ds ++ es))) else .no | _, _ => .no)
  | _, _ => .no
def indexD (x : D) (xs : List D) (h : MH) : Res D := match x, xs with
  | .ref n, [y] => (match seqO (.ref n) h with
    | some ds => if flatD y = true ∧ ds.all flatD = true then (match ds.findIdx? fun d => eqF d y with | some j => .ok (.int (j : Nat)) h | none => .no) else .no
    | none => .no)
  | _, _ => .no
def popD (x : D) (xs : List D) (h : MH) : Res D := match x, xs with
  | .ref n, [] => (match h[n]? with | some (.lst ds) => (match ds[ds.length - 1]? with | some y => .ok y (h.set n (.lst ds.dropLast)) | none => .no) | _ => .no)
  | _, _ => .no
section
variable {X : Cx} {cl : Clm} {E : XK}
theorem strs_of {K : PySem.W.Frag} {H : Hp} {ι : List Addr} : ∀ {ds : List D} {vs : List V} {ns : List Str}, Reps K H ι ds vs → strsO ds = some ns → vs = ns.map V.str
  | _, _, _, .nil, h => by cases h; rfl
  | _, _, _, .cons r t, h => by
    cases r <;> try cases h
    obtain ⟨ms, h1, rfl⟩ := Option.map_eq_some_iff.mp h
    rw [strs_of t h1]; rfl
theorem reps_strs {K : PySem.W.Frag} {H : Hp} {ι : List Addr} : ∀ (ss : List Str), Reps K H ι (ss.map .str) (ss.map V.str)
  | [] => .nil
  | s :: ss => .cons (.str s) (reps_strs ss)
theorem bm_lower : BM X cl E "str" "lower" lowerD := by
  refine ⟨_, F.plainAttrs_str, F.slot_str_lower, F.type_str_lower, ?_⟩
  rintro pins s σ H x xs v us Q I rx rs ⟨dx, ds, mh, ι, r1, r2, hr, ok⟩
  unfold lowerD at ok
  split at ok
  · cases r1; cases r2
    split at ok
    · rename_i hl; exact mt_lower pins s σ H _ _ v us Q I rx rs ⟨_, rfl, rfl, hl, fin hr (.str _) ok⟩
    · exact ok.elim
  · exact ok.elim
theorem bm_strip : BM X cl E "str" "strip" stripD := by
  refine ⟨_, F.plainAttrs_str, F.slot_str_strip, F.type_str_strip, ?_⟩
  rintro pins s σ H x xs v us Q I rx rs ⟨dx, ds, mh, ι, r1, r2, hr, ok⟩
  unfold stripD at ok
  split at ok
  · cases r1
    obtain ⟨v2, rfl, q2⟩ := one_of r2
    cases q2
    split at ok
    · rename_i hl; exact mt_stripChars pins s σ H _ _ v us Q I rx rs ⟨_, _, rfl, rfl, hl, fin hr (.str _) ok⟩
    · exact ok.elim
  · exact ok.elim
theorem bm_split : BM X cl E "str" "split" splitD := by
  refine ⟨_, F.plainAttrs_str, F.slot_str_split, F.type_str_split, ?_⟩
  rintro pins s σ H x xs v us Q I rx rs ⟨dx, ds, mh, ι, r1, r2, hr, ok⟩
  unfold splitD at ok
  split at ok
  · cases r1
    obtain ⟨v2, rfl, q2⟩ := one_of r2
    cases q2
    split at ok
    · rename_i hl; exact mt_split pins s σ H _ _ v us Q I rx rs ⟨_, _, rfl, rfl, hl.1, hl.2, fun p hp => new_lst hr (reps_strs _) ok hp⟩
    · exact ok.elim
  · exact ok.elim
theorem bm_join : BM X cl E "str" "join" joinD := by
  refine ⟨_, F.plainAttrs_str, F.slot_str_join, F.type_str_join, ?_⟩
  rintro pins s σ H x xs v us Q I rx rs ⟨dx, ds, mh, ι, r1, r2, hr, ok⟩
  unfold joinD at ok
  split at ok
  · cases r1
    obtain ⟨v2, rfl, q2⟩ := one_of r2
    split at ok
    · rename_i ys hys
      obtain ⟨es, h1, h2⟩ := Option.bind_eq_some_iff.mp hys
      obtain ⟨p, zs, rfl, sq, q⟩ := seq_of hr q2 h1
      rw [strs_of q h2] at sq
      split at ok
      · rename_i hl; exact mt_join pins s σ H _ _ v us Q I rx rs ⟨_, p, ys, rfl, rfl, sq, hl, fin hr (.str _) ok⟩
      · exact ok.elim
    · exact ok.elim
  · exact ok.elim
theorem bm_append : BM X cl E "list" "append" appendD := by
  refine ⟨_, PySem.F.plainAttrs_list, PySem.F.slot_list_append, PySem.F.type_list_append, ?_⟩
  rintro pins s σ H x xs v us Q I rx rs ⟨dx, ds, mh, ι, r1, r2, hr, ok⟩
  unfold appendD at ok
  split at ok
  · cases r1
    rename_i n y a hn
    obtain ⟨v2, rfl, q2⟩ := one_of r2
    split at ok
    · rename_i es he
      obtain ⟨zs, g1, g2⟩ := hr.ob _ _ _ hn he
      split at ok
      · rename_i hl
        have ex : Ext ι H ι (upd H a (.lst (zs ++ [v2]))) := Ext.set g1 (fun _ z => nomatch z) fun _ _ z => nomatch z
        refine mt_append pins s σ H _ _ v us Q I rx rs ⟨a, zs, v2, rfl, rfl, g1, g2.length ▸ hl, ?_⟩
        exact ok _ ι (hr.set (o := .lst (es ++ [y])) hn ex ⟨_, upd_same, (g2.append (.cons q2 .nil)).mono ex⟩) ex _ .non
      · exact ok.elim
    · exact ok.elim
  · exact ok.elim
theorem bm_extend : BM X cl E "list" "extend" extendD := by
  refine ⟨_, PySem.F.plainAttrs_list, PySem.F.slot_list_extend, PySem.F.type_list_extend, ?_⟩
  rintro pins s σ H x xs v us Q I rx rs ⟨dx, ds, mh, ι, r1, r2, hr, ok⟩
  unfold extendD at ok
  split at ok
  · cases r1
    rename_i n m a hn
    obtain ⟨v2, rfl, q2⟩ := one_of r2
    cases q2
    rename_i b hm
    split at ok
    · rename_i ds es h1 h2
      obtain ⟨xs, g1, g2⟩ := hr.ob _ _ _ hn h1
      obtain ⟨ys, g3, g4⟩ := hr.ob _ _ _ hm h2
      split at ok
      · rename_i hl
        have ex : Ext ι H ι (upd H a (.lst (xs ++ ys))) := Ext.set g1 (fun _ z => nomatch z) fun _ _ z => nomatch z
        refine mt_extend pins s σ H _ _ v us Q I rx rs ⟨a, b, xs, ys, rfl, rfl, g1, g3, by rw [← g2.length, ← g4.length]; exact hl, ?_⟩
        exact ok _ ι (hr.set (o := .lst (ds ++ es)) hn ex ⟨_, upd_same, (g2.append g4).mono ex⟩) ex _ .non
      · exact ok.elim
    · exact ok.elim
  · exact ok.elim
theorem bm_index : BM X cl E "list" "index" indexD := by
  refine ⟨_, PySem.F.plainAttrs_list, PySem.F.slot_list_index, PySem.F.type_list_index, ?_⟩
  rintro pins s σ H x xs v us Q I rx rs ⟨dx, ds, mh, ι, r1, r2, hr, ok⟩
  unfold indexD at ok
  split at ok
  · rename_i n y
    obtain ⟨v2, rfl, q2⟩ := one_of r2
    split at ok
    · rename_i es he
      split at ok
      · rename_i hf
        split at ok
        · rename_i j hj
          obtain ⟨h1, h2, h3⟩ := List.findIdx?_eq_some_iff_getElem.mp hj
          have sq : ∃ p zs, x = .ref p ∧ SqL X.K H p zs ∧ Reps X.K H ι es zs := by
            cases r1 with
            | @ref _ a hn =>
              simp only [seqO] at he
              cases e1 : mh[n]? with
              | none => rw [e1] at he; cases he
              | some o =>
                rw [e1] at he
                have ho := hr.ob n a o hn e1
                cases o <;> try cases he
                · obtain ⟨zs, g1, g2⟩ := ho; exact ⟨a, zs, rfl, SqL.of g1, g2⟩
          obtain ⟨p, zs, rfl, sq, q⟩ := sq
          obtain ⟨z, hz, rz⟩ := q.get (List.getElem?_eq_getElem h1)
          refine mt_index pins s σ H _ _ v us Q I rx rs ⟨p, zs, v2, j, z, rfl, rfl, sq, flat_of q2 ▸ hf.1, flats_of q ▸ hf.2, hz, ?_, fun m z' hm hz' => ?_, fin hr (.int _) ok⟩
          · rw [← eqF_of rz q2]; exact h2
          · obtain ⟨d', hd', rd'⟩ := Reps.getV q hz'
            have := h3 m hm
            rw [← eqF_of rd' q2]
            have e : es[m] = d' := by rw [List.getElem?_eq_getElem (Nat.lt_trans hm h1)] at hd'; exact Option.some.inj hd'
            rw [e] at this
            simpa using this
        · exact ok.elim
      · exact ok.elim
    · exact ok.elim
  · exact ok.elim
theorem Reps.dropLast {K : PySem.W.Frag} {H : Hp} {ι : List Addr} {ds : List D} {vs : List V} (r : Reps K H ι ds vs) : Reps K H ι ds.dropLast vs.dropLast := by
  rw [List.dropLast_eq_take, List.dropLast_eq_take, r.length]
  exact r.take _
theorem bm_pop : BM X cl E "list" "pop" popD := by
  refine ⟨_, PySem.F.plainAttrs_list, PySem.F.slot_list_pop, PySem.F.type_list_pop, ?_⟩
  rintro pins s σ H x xs v us Q I rx rs ⟨dx, ds, mh, ι, r1, r2, hr, ok⟩
  unfold popD at ok
  split at ok
  · cases r1; cases r2
    rename_i n a hn
    split at ok
    · rename_i es he
      obtain ⟨zs, g1, g2⟩ := hr.ob _ _ _ hn he
      split at ok
      · rename_i y hy
        have ex : Ext ι H ι (upd H a (.lst zs.dropLast)) := Ext.set g1 (fun _ z => nomatch z) fun _ _ z => nomatch z
        obtain ⟨w, hw, rw'⟩ := g2.get hy
        refine mt_pop pins s σ H _ _ v us Q I rx rs ⟨a, zs, w, rfl, rfl, g1, by rw [← g2.length]; exact hw, ?_⟩
        exact ok _ ι (hr.set (o := .lst es.dropLast) hn ex ⟨_, upd_same, g2.dropLast.mono ex⟩) ex _ (rw'.mono ex)
      · exact ok.elim
    · exact ok.elim
  · exact ok.elim
end
def bmTab (T : String) (name : Str) : Option (D → List D → MH → Res D) :=
  if T = "str" then (if name = "lower" then some lowerD else if name = "strip" then some stripD else if name = "split" then some splitD else if name = "join" then some joinD else none)
  else if T = "list" then (if name = "append" then some appendD else if name = "extend" then some extendD else if name = "index" then some indexD else if name = "pop" then some popD else none)
  else none
theorem bmTab_ok {X : Cx} {cl : Clm} {E : XK} {T : String} {name : Str} {g : D → List D → MH → Res D} (h : bmTab T name = some g) : BM X cl E T name g := by
  unfold bmTab at h
  split at h
  · rename_i hT; subst hT
    split at h
    · rename_i e; subst e; cases h; exact bm_lower
    split at h
    · rename_i e; subst e; cases h; exact bm_strip
    split at h
    · rename_i e; subst e; cases h; exact bm_split
    split at h
    · rename_i e; subst e; cases h; exact bm_join
    · cases h
  · split at h
    · rename_i hT; subst hT
      split at h
      · rename_i e; subst e; cases h; exact bm_append
      split at h
      · rename_i e; subst e; cases h; exact bm_extend
      split at h
      · rename_i e; subst e; cases h; exact bm_index
      split at h
      · rename_i e; subst e; cases h; exact bm_pop
      · cases h
    · cases h
end Mir
namespace Mir
open PySem PySem.Spec L2

/-! ### repr of nested data, with nothing under way -/
def reprD (xs : List D) (mh : MH) : Res D := match xs with
  | [x] => match toPy pyDepth mh x with
    | some (.list ds) => if PyData.showable (.list ds) = true ∧ PyData.hasDict (.list ds) = false ∧ PyData.depth (.list ds) ≤ 32 ∧ (PyData.shown (.list ds)).length ≤ sizeLine then .ok (.str (PyData.shown (.list ds))) mh else .no
    | _ => .no
  | _ => .no
theorem listRef {h : Heap} {u : Value} {p : List PyData} {as : List Addr} (r : Reads h u (.list p) as) : ∃ a, u = .ref a := by
  cases r with
  | list => exact ⟨_, rfl⟩
section
variable {X : Cx} {cl : Clm} {E : XK}
theorem repr_ok (hg : X.A.guards = some []) (hu : X.A.units + 64 < cLine) : CallR X (.builtin "repr") (rMA X.K cl E reprD) := by
  rintro pins s σ H xs us Q I r ⟨ds, mh, ι, r1, hr, ok⟩
  unfold reprD at ok
  split at ok
  · cases r1 with
    | cons ra rt =>
      cases rt
      cases r with
      | cons rv rvt =>
        cases rvt
        split at ok
        · rename_i p he
          split at ok
          · rename_i h
            obtain ⟨h1, h2, h3, h4⟩ := h
            have D := dp_of hr _ _ _ _ ra he
            obtain ⟨as, rd⟩ := Dp.reads I _ _ _ D rv
            obtain ⟨a, e⟩ := listRef rd
            subst e
            refine PySem.repr_of_reads' rd h1 (fun z => absurd (h2.symm.trans z) Bool.false_ne_true) hg (by omega) (fun _ _ e => e) (fun h' u tk hk => ?_) h4
            exact ⟨.str _, H, I.kept fun b o eo => hk b o eo, ⟨_, rfl⟩, fin hr (.str _) ok⟩
          · exact ok.elim
        · exact ok.elim
  · exact ok.elim
end
end Mir
namespace Mir
open PySem PySem.Spec L2

/-! ### the mirror of a text -/
inductive GV where
  | val (d : D) | fn (np : Nat)
structure Tab where
  gl : Str → Option GV
  fns : Str → List D → MH → Res D
  rp : Bool
def okName (x : Str) : Bool := !(x == ("__debug__" : Str)) && !(x == ("__classdict__" : Str)) && decide (x ≠ "__name__")
def slotOf (N : List Str) (sc : Scope) (x : Str) : Option Nat := match sc.names.lookup x with
  | some .local => N.idxOf? x
  | some .cell => N.idxOf? x
  | some .free => N.idxOf? x
  | _ => none
def isGl (sc : Scope) (x : Str) : Bool := decide (sc.names.lookup x = some .globalImplicit)
def bltNames : List (Str × String) := [("len", "len"), ("abs", "abs"), ("ord", "ord"), ("max", "max"), ("min", "min"), ("sum", "sum"), ("isinstance", "isinstance")]
def tyNames : List (Str × String) := [("int", "int"), ("tuple", "tuple"), ("list", "list"), ("str", "str")]
def tyCalls : List (Str × String) := [("int", "int"), ("tuple", "tuple"), ("list", "list")]
def nameE (T : Tab) (N : List Str) (sc : Scope) (x : Str) : ME :=
  if okName x = true then match slotOf N sc x with
    | some i => varM i
    | none => if isGl sc x = true then match T.gl x with
      | some (.val d) => cM d
      | some _ => noM
      | none => (match tyNames.lookup x with | some t => cM (.ty t) | none => noM) else noM
  else noM
def constE : Const → ME
  | .none => cM .non
  | .bool b => cM (.bl b)
  | .int i => cM (.int i)
  | .str x => cM (.str x)
  | _ => noM
def notStar : Expr → Bool
  | .Starred _ _ => false
  | _ => true
def notSet : Expr → Bool
  | .Set _ _ _ => false
  | _ => true
def notSlice : Expr → Bool
  | .Slice _ _ _ _ => false
  | _ => true
def notSuper : Expr → Bool
  | .Call (.Name id _) [] [] _ => decide (id ≠ "super")
  | _ => true
def argsE : List ME → MA
  | [] => nilM
  | m :: ms => consM m (argsE ms)
def plainArgs (es : List Expr) : Bool := es.all notStar && decide (es.length < 30)
def andTs : List MT → MT
  | [] => noT
  | [a] => a
  | a :: b :: r => andT a (andTs (b :: r))
def orTs : List MT → MT
  | [] => noT
  | [a] => a
  | a :: b :: r => orT a (orTs (b :: r))
def andMs : List ME → ME
  | [] => noM
  | [a] => a
  | a :: b :: r => andM a (andMs (b :: r))
def orMs : List ME → ME
  | [] => noM
  | [a] => a
  | a :: b :: r => orM a (orMs (b :: r))
abbrev Dn := Scope → (Expr → ME) × (Expr → MT)
def cmpE (d : Expr → ME) (a : Expr) (ops : List CmpOp) (es : List Expr) : ME := match ops, es with
  | [op], [b] => if notSet b = true then binM (compD op) (d a) (d b) else noM
  | [op, op'], [b, c] => if notSet c = true then chainM (compD op) (compD op') (d a) (d b) (d c) else noM
  | _, _ => noM
def partE (d : Expr → ME) : Option Expr → Ro → MH → Res (Option Int)
  | some e => partM (d e)
  | none => noPart
def noI : MI := fun _ _ => .no
def iterE (T : Tab) (sc : Scope) (d : Expr → ME) (iter : Expr) : MI := match iter with
  | .Call (.Name x _) args [] _ => if x = "range" then (if isGl sc x = true ∧ (T.gl x).isNone = true ∧ plainArgs args = true then (match args with
      | [a] => rangeI1 (argsE [d a])
      | [a, b] => rangeI2 (argsE [d a, d b])
      | [a, b, c] => rangeI3 (argsE [d a, d b, d c])
      | _ => noI) else noI) else (match iter with | .Set _ _ _ => noI | _ => seqI (d iter))
  | .Set _ _ _ => noI
  | _ => seqI (d iter)
def idxs (N : List Str) (ok : Str → Bool) : List Expr → Option (List Nat)
  | [] => some []
  | .Name x _ :: r => if ok x = true then (match N.idxOf? x, idxs N ok r with | some i, some is => some (i :: is) | _, _ => none) else none
  | _ => none
inductive Tg where
  | one (i : Nat) | many (is : List Nat) | bad
def tgOf (N : List Str) (ok : Str → Bool) : Expr → Tg
  | .Name x _ => if ok x = true then (match N.idxOf? x with | some i => .one i | none => .bad) else .bad
  | .Tuple es _ _ => (match idxs N ok es with | some is => .many is | none => .bad)
  | _ => .bad
def noG : MG := fun _ _ _ => .no
def tgG : Tg → MG
  | .one i => nameG i
  | .many is => tupG is
  | .bad => noG
def ownOf (N : List Str) (scope : Scope) : List (Str × Nat) := scope.names.filterMap fun y => match y.2 with
  | .local => (N.idxOf? y.1).map fun i => (y.1, i)
  | .cell => (N.idxOf? y.1).map fun i => (y.1, i)
  | _ => none
def isLoc (sc : Scope) (x : Str) : Bool := decide (sc.names.lookup x = some .local)
def tgIn (vs : List Nat) : Tg → Bool
  | .one i => vs.contains i
  | .many is => is.all fun i => vs.contains i
  | .bad => false
def testsE (d : Expr → MT) : List Expr → MT
  | [] => yesT
  | [c] => d c
  | _ => noT
def compE (T : Tab) (N : List Str) (d : Dn) (sc : Scope) (elt : Expr) (gens : List Comprehension) (scope : Scope) : ME := match gens with
  | [⟨tg, iter, ifs, 0⟩] =>
    if blkC N sc scope (ownOf N scope) = true ∧ tgIn ((ownOf N scope).map (·.2)) (tgOf N (isLoc scope) tg) = true then
      lcM ((ownOf N scope).map (·.2)) (iterE T sc (d sc).1 iter) (tgG (tgOf N (isLoc scope) tg)) (testsE (d (relS scope sc)).2 ifs) ((d (relS scope sc)).1 elt)
    else noM
  | _ => noM
def allBool (keys : List (Option Expr)) : Bool := keys.all fun k => match k with | some (.Constant (.bool _) _ _) => true | _ => false
def pairsE (d : Expr → ME) : List (Option Expr) → List Expr → Option (List (ME × ME))
  | [], [] => some []
  | some k :: ks, v :: vs => (match pairsE d ks vs with | some r => some ((d k, d v) :: r) | none => none)
  | _, _ => none
def dictE (d : Expr → ME) (keys : List (Option Expr)) (values : List Expr) : ME := match keys, values with
  | [], [] => newDic
  | _, _ => match pairsE d keys values with
    | some prs => if keys.length ≤ 15 then (if allBool keys = true then dispL prs else dispM prs) else noM
    | none => noM
def bmE (name : Str) (o : ME) (a : MA) : ME := fun ρ h => match o ρ h with
  | .ok x h' => (if isTy "str" x h' = true then (match bmTab "str" name with | some g => bmM "str" g o a ρ h | none => .no)
    else if isTy "list" x h' = true then (match bmTab "list" name with | some g => bmM "list" g o a ρ h | none => .no)
    else if isTy "dict" x h' = true then (match bmTab "dict" name with | some g => bmM "dict" g o a ρ h | none => .no)
    else .no)
  | _ => .no
def callE (T : Tab) (N : List Str) (sc : Scope) (d : Expr → ME) (f : Expr) (args : List Expr) (cpos : Pos) : ME := match f with
  | .Name x _ => if okName x = true ∧ isGl sc x = true ∧ plainArgs args = true then (match T.gl x with
      | some (.fn np) => (match args with | [] => (match np with | 0 => callN 0 (T.fns x) nilM | _ => noM) | _ :: _ => callN np (T.fns x) (argsE (args.map d)))
      | some _ => noM
      | none => (match args with
        | [] => noM
        | _ :: _ => if x = "repr" then (if T.rp = true then callM reprD (argsE (args.map d)) else noM) else (match bltNames.lookup x with
          | some s => callM (bltD s) (argsE (args.map d))
          | none => (match tyCalls.lookup x with
            | some s => callM (tyD s) (argsE (args.map d))
            | none => noM)))) else noM
  | .Attribute o m apos => if plainArgs args = true ∧ notSuper o = true ∧ (apos.endLine == cpos.line) = true then bmE m (d o) (argsE (args.map d)) else noM
  | _ => noM
def estepD (T : Tab) (N : List Str) (d : Dn) (sc : Scope) (e : Expr) : ME := match e with
  | .Constant c _ _ => constE c
  | .Name x _ => nameE T N sc x
  | .BinOp a op b _ => binM (binD op) ((d sc).1 a) ((d sc).1 b)
  | .UnaryOp .USub a _ => unM negD ((d sc).1 a)
  | .UnaryOp .Not a _ => notM ((d sc).1 a)
  | .BoolOp .And es _ => andMs (es.map (d sc).1)
  | .BoolOp .Or es _ => orMs (es.map (d sc).1)
  | .Compare a ops es _ => cmpE (d sc).1 a ops es
  | .IfExp c a b _ => ifM ((d sc).2 c) ((d sc).1 a) ((d sc).1 b)
  | .Tuple es _ _ => if plainArgs es = true then tupM (argsE (es.map (d sc).1)) else noM
  | .List es _ => if es.all notStar = true then lstM (argsE (es.map (d sc).1)) else noM
  | .Subscript a (.Slice lo hi none _) _ => sliceM ((d sc).1 a) (partE (d sc).1 lo) (partE (d sc).1 hi)
  | .Subscript a b _ => if notSlice b = true then binM ixD ((d sc).1 a) ((d sc).1 b) else noM
  | .ListComp elt gens scope _ => compE T N d sc elt gens scope
  | .Dict keys values _ => dictE (d sc).1 keys values
  | .Call f args [] cpos => callE T N sc (d sc).1 f args cpos
  | _ => noM
def tstepD (d : Dn) (sc : Scope) (e : Expr) : MT := match e with
  | .BoolOp .And es _ => andTs (es.map (d sc).2)
  | .BoolOp .Or es _ => orTs (es.map (d sc).2)
  | .UnaryOp .Not a _ => notT ((d sc).2 a)
  | .Compare a ops es _ => testM (cmpE (d sc).1 a ops es)
  | .IfExp _ _ _ _ => noT
  | e => truM ((d sc).1 e)
def den (T : Tab) (N : List Str) : Nat → Dn
  | 0 => fun _ => (fun _ => noM, fun _ => noT)
  | n + 1 => fun sc => (estepD T N (den T N n) sc, tstepD (den T N n) sc)

/-! ### .. is sound -/
def GOk (X : Cx) (T : Tab) (cl : Clm) (x : Str) : GV → Prop
  | .val d => ∃ u v, X.mg x = some u ∧ RelV v u ∧ ∀ H ι, Rep X.K H ι d v
  | .fn np => ∃ k f fd ps, X.mg x = some (.ref f) ∧ PySem.W.keepIn X.K (.ref f) = true ∧ Binds X.K fd ps [] ∧ FnOk X.prog X.w X.K X.mg X.base CX0 k f fd ps (spM X.K cl np (T.fns x)) ∧ Room k X.A
def bltAll : List Str := [("range" : Str), "repr"] ++ bltNames.map (·.1) ++ tyNames.map (·.1)
structure Snd (X : Cx) (T : Tab) (cl : Clm) (N : List Str) (sc : Scope) : Prop where
  hN : X.N = N
  hsc : X.env.scope = sc
  nd : X.N.Nodup
  calm : X.calm = true
  hcP : cl.P = X.prog
  hcw : cl.w = X.w
  hu : X.A.units + 64 < cLine
  rp : T.rp = true → X.A.guards = some []
  gl : ∀ x gv, T.gl x = some gv → GOk X T cl x gv
  bl : ∀ x ∈ bltAll, T.gl x = none → X.mg x = none
section
variable {X : Cx} {T : Tab} {cl : Clm} {N : List Str} {sc : Scope} {E : XK}
theorem Snd.blk (S : Snd X T cl N sc) (s : Shared) (H : Hp) (scope : Scope) (C : Addr) (cls : List (Str × Addr)) (fp : List Addr) : Snd (X.blk s H scope (compEnvC scope cls C X.env) fp) T cl N (relS scope sc) where
  hN := S.hN
  hsc := by rw [← S.hsc]; rfl
  nd := S.nd
  calm := S.calm
  hcP := S.hcP
  hcw := S.hcw
  hu := S.hu
  rp := S.rp
  gl := fun x gv h => by
    have := S.gl x gv h
    cases gv with
    | val d => exact this
    | fn np => exact this
  bl := S.bl
theorem idx_of {x : Str} {i : Nat} (h : N.idxOf? x = some i) : N[i]? = some x := by
  induction N generalizing i with
  | nil => cases h
  | cons y N ih =>
    rw [List.idxOf?_cons] at h
    split at h
    · rename_i e
      cases h
      have : y = x := by simpa using e
      rw [this]; rfl
    · obtain ⟨j, h1, rfl⟩ := Option.map_eq_some_iff.mp h
      exact ih h1
theorem okName_of {x : Str} (h : okName x = true) : (x == ("__debug__" : Str)) = false ∧ (x == ("__classdict__" : Str)) = false ∧ x ≠ "__name__" := by
  unfold okName at h
  simp only [Bool.and_eq_true, Bool.not_eq_true', decide_eq_true_eq] at h
  exact ⟨h.1.1, h.1.2, h.2⟩
theorem boot_ty {x : Str} {t : String} (h : tyNames.lookup x = some t) : bootBuiltins x = some (.type t) ∧ x ∈ bltAll := by
  have : ∀ p ∈ tyNames, bootBuiltins p.1 = some (.type p.2) ∧ p.1 ∈ bltAll := by decide +kernel
  exact this _ (PySem.mem_of_lookup h)
theorem boot_tc {x : Str} {t : String} (h : tyCalls.lookup x = some t) : bootBuiltins x = some (.type t) ∧ x ∈ bltAll ∧ t ∈ ["int", "tuple", "list"] := by
  have : ∀ p ∈ tyCalls, bootBuiltins p.1 = some (.type p.2) ∧ p.1 ∈ bltAll ∧ p.2 ∈ ["int", "tuple", "list"] := by decide +kernel
  exact this _ (PySem.mem_of_lookup h)
theorem boot_bn {x : Str} {t : String} (h : bltNames.lookup x = some t) : bootBuiltins x = some (.builtin t) ∧ x ∈ bltAll ∧ t ∈ ["len", "abs", "ord", "max", "min", "sum", "isinstance"] := by
  have : ∀ p ∈ bltNames, bootBuiltins p.1 = some (.builtin p.2) ∧ p.1 ∈ bltAll ∧ p.2 ∈ ["len", "abs", "ord", "max", "min", "sum", "isinstance"] := by decide +kernel
  exact this _ (PySem.mem_of_lookup h)
theorem name_ok (S : Snd X T cl N sc) (x : Str) (pos : Pos) : PE X (.Name x pos) (tM X.K cl E (nameE T N sc x)) := by
  unfold nameE
  split
  · rename_i hok
    obtain ⟨h1, h2, h3⟩ := okName_of hok
    split
    · rename_i i hi
      unfold slotOf at hi
      have key : ∀ k, sc.names.lookup x = some k → N.idxOf? x = some i → Vis sc x → PE X (.Name x pos) (tM X.K cl E (varM i)) := fun k _ hi v =>
        m_var (x := x) (pe_var (by rw [S.hN]; exact idx_of hi) (by rw [S.hsc]; exact v) h1 h2)
      split at hi
      · rename_i e; exact key _ e hi (.inl e)
      · rename_i e; exact key _ e hi (.inr (.inl e))
      · rename_i e; exact key _ e hi (.inr (.inr e))
      · cases hi
    · split
      · rename_i hg
        have g : Gl X x := by
          show X.env.scope.names.lookup x = _
          rw [S.hsc]; exact of_decide_eq_true hg
        split
        · rename_i d hd
          obtain ⟨u, v, m1, m2, m3⟩ := S.gl x _ hd
          exact m_c (fun H ι => m3 H ι) (pe_glob g m1 m2 h1)
        · exact m_no
        · rename_i hn
          split
          · rename_i t ht
            obtain ⟨b1, b2⟩ := boot_ty ht
            exact m_c (v := .ty t) (fun H ι => .ty t) (pe_bltn g (S.bl x b2 hn) b1 rfl h3 h1)
          · exact m_no
      · exact m_no
  · exact m_no
theorem const_ok (c : Const) (k : Nat) (pos : Pos) : PE X (.Constant c k pos) (tM X.K cl E (constE c)) := by
  cases c with
  | none => exact m_c (v := .non) (fun _ _ => .non) pe_non
  | bool b => exact m_c (v := .bl b) (fun _ _ => .bl b) pe_bl
  | int i => exact m_c (v := .int i) (fun _ _ => .int i) pe_int
  | str i => exact m_c (v := .str i) (fun _ _ => .str i) pe_str
  | _ => exact m_no
theorem star_eq {e : Expr} {es : List Expr} {env : Env} (h : notStar e = true) : starEach (e :: es) env = (false, eval e env) :: starEach es env := by
  cases e <;> first | rfl | cases h
theorem plain_any {pos : Pos} {env : Env} : ∀ {es : List Expr}, es.all notStar = true → (backTo pos (starEach es env)).any (·.1) = false
  | [], _ => rfl
  | e :: es, h => by
    rw [List.all_cons, Bool.and_eq_true] at h
    rw [star_eq h.1]
    have ih := plain_any (pos := pos) (env := env) h.2
    unfold backTo at ih ⊢
    rw [List.map_cons, List.any_cons, ih]; rfl
theorem plain_all {pos : Pos} {env : Env} : ∀ {es : List Expr}, es.all notStar = true → (backTo pos (starEach es env)).all (fun x => !x.1) = true
  | [], _ => rfl
  | e :: es, h => by
    rw [List.all_cons, Bool.and_eq_true] at h
    rw [star_eq h.1]
    have ih := plain_all (pos := pos) (env := env) h.2
    unfold backTo at ih ⊢
    rw [List.map_cons, List.all_cons, ih]; rfl
theorem args_ok {d : Expr → ME} (hd : ∀ e, PE X e (tM X.K cl E (d e))) : ∀ {es : List Expr}, es.all notStar = true → PA X es (tMA X.K cl E (argsE (es.map d)))
  | [], _ => m_nil
  | e :: es, h => by
    rw [List.all_cons, Bool.and_eq_true] at h
    exact m_cons (hd e) (args_ok hd h.2) (star_eq h.1)
theorem plain_of {es : List Expr} (h : plainArgs es = true) : es.all notStar = true ∧ es.length < 30 := by
  unfold plainArgs at h
  rw [Bool.and_eq_true] at h
  exact ⟨h.1, of_decide_eq_true h.2⟩
theorem set_beh {op : CmpOp} {b : Expr} (h : notSet b = true) : behindInMarks op b = false := by
  cases b <;> first | rfl | cases h
theorem cmp_okE (S : Snd X T cl N sc) {d : Expr → ME} (hd : ∀ e, PE X e (tM X.K cl E (d e))) (a : Expr) (ops : List CmpOp) (es : List Expr) (pos : Pos) : PE X (.Compare a ops es pos) (tM X.K cl E (cmpE d a ops es)) := by
  unfold cmpE
  split
  · split
    · rename_i h; exact m_cmp (comp_ok S.hu _) (hd _) (hd _) (set_beh h)
    · exact m_no
  · split
    · rename_i h; exact m_chain (comp_ok S.hu _) (comp_ok S.hu _) (hd _) (hd _) (hd _) (set_beh h)
    · exact m_no
  · exact m_no
theorem no_test {e : Expr} : PT X e (tMT X.K cl E (testM noM)) := ⟨fun _ _ _ _ _ _ ⟨_, _, _, _, _, ok⟩ => ok.elim⟩
theorem cmp_okT (S : Snd X T cl N sc) {d : Expr → ME} (hd : ∀ e, PE X e (tM X.K cl E (d e))) (a : Expr) (ops : List CmpOp) (es : List Expr) (pos : Pos) : PT X (.Compare a ops es pos) (tMT X.K cl E (testM (cmpE d a ops es))) := by
  unfold cmpE
  split
  · split
    · rename_i h; exact m_cmpT (comp_ok S.hu _) (hd _) (hd _) (set_beh h)
    · exact no_test
  · split
    · rename_i h; exact m_chainT (comp_ok S.hu _) (comp_ok S.hu _) (hd _) (hd _) (hd _) (set_beh h)
    · exact no_test
  · exact no_test
theorem ands_ok {d : Expr → MT} {pos : Pos} (hd : ∀ e, PT X e (tMT X.K cl E (d e))) : ∀ {es : List Expr}, PW X (.BoolOp .And es pos) (tMT X.K cl E (andTs (es.map d)))
  | [] => ⟨fun _ _ _ _ _ _ _ ⟨_, _, _, _, _, ok⟩ => ok.elim⟩
  | [a] => pw_and1 (hd a)
  | a :: b :: r => m_and (hd a) (ands_ok hd (es := b :: r))
theorem ors_ok {d : Expr → MT} {pos : Pos} (hd : ∀ e, PT X e (tMT X.K cl E (d e))) : ∀ {es : List Expr}, PW X (.BoolOp .Or es pos) (tMT X.K cl E (orTs (es.map d)))
  | [] => ⟨fun _ _ _ _ _ _ _ ⟨_, _, _, _, _, ok⟩ => ok.elim⟩
  | [a] => pw_or1 (hd a)
  | a :: b :: r => m_or (hd a) (ors_ok hd (es := b :: r))
theorem andMs_ok {d : Expr → ME} {pos : Pos} (hd : ∀ e, PE X e (tM X.K cl E (d e))) : ∀ {es : List Expr}, PE X (.BoolOp .And es pos) (tM X.K cl E (andMs (es.map d)))
  | [] => m_no
  | [a] => pe_one (hd a)
  | a :: b :: r => m_andV (hd a) (andMs_ok hd (es := b :: r))
theorem orMs_ok {d : Expr → ME} {pos : Pos} (hd : ∀ e, PE X e (tM X.K cl E (d e))) : ∀ {es : List Expr}, PE X (.BoolOp .Or es pos) (tM X.K cl E (orMs (es.map d)))
  | [] => m_no
  | [a] => pe_one (hd a)
  | a :: b :: r => m_orV (hd a) (orMs_ok hd (es := b :: r))
theorem part_ok {d : Expr → ME} (hd : ∀ e, PE X e (tM X.K cl E (d e))) : ∀ o : Option Expr, PO X o (tMO X.K cl E (partE d o))
  | some e => m_part (hd e)
  | none => m_nopart
theorem plainIx {b : Expr} (h : notSlice b = true) : PlainIx b := by
  intro o i
  cases b <;> first | rfl | cases h
theorem fold_eq {iter : Expr} {env : Env} (h : notSet iter = true) : ∀ x, foldedSetIterable iter env x = pure x := by
  intro x
  cases iter <;> first | rfl | cases h
theorem i_no {tg iter : Expr} : PI X tg iter (tMI X.K cl E noI) := ⟨fun _ _ _ _ _ _ ⟨_, _, _, _, _, ok⟩ => ok.elim⟩
theorem iter_ok (S : Snd X T cl N sc) {d : Expr → ME} (hd : ∀ e, PE X e (tM X.K cl E (d e))) (tg iter : Expr) : PI X tg iter (tMI X.K cl E (iterE T sc d iter)) := by
  unfold iterE
  split
  · split
    · rename_i e; subst e
      split
      · rename_i h
        obtain ⟨h1, h2, h3⟩ := h
        have g : Gl X "range" := by
          show X.env.scope.names.lookup _ = _
          rw [S.hsc]; exact of_decide_eq_true h1
        have hm : X.mg "range" = none := S.bl _ (by decide +kernel) (Option.isNone_iff_eq_none.mp h2)
        obtain ⟨h4, _⟩ := plain_of h3
        split
        · simp only [List.all_cons, List.all_nil, Bool.and_true] at h4
          exact i_range1 g hm (args_ok hd (es := [_]) (by simpa using h4)) (star_eq h4)
        · simp only [List.all_cons, List.all_nil, Bool.and_true, Bool.and_eq_true] at h4
          exact i_range2 g hm (args_ok hd (es := [_, _]) (by simpa using h4)) (by rw [star_eq h4.1, star_eq h4.2]; rfl) (star_eq h4.2)
        · simp only [List.all_cons, List.all_nil, Bool.and_true, Bool.and_eq_true] at h4
          exact i_range3 g hm (args_ok hd (es := [_, _, _]) (by simpa using h4)) (star_eq h4.1) (plain_any (by simpa using h4.2))
        · exact i_no
      · exact i_no
    · exact i_seq (hd _)
  · exact i_no
  · exact i_seq (hd _)
theorem iter_set {T : Tab} {sc : Scope} {d : Expr → ME} {iter : Expr} (h : notSet iter = false) : iterE T sc d iter = noI := by
  cases iter <;> first | rfl | cases h
end
end Mir
namespace Mir
open PySem PySem.Spec L2
section
variable {X : Cx} {T : Tab} {cl : Clm} {N : List Str} {sc : Scope} {E : XK}

/-! ### targets -/
def rawG (K : PySem.W.Frag) : Tg → TG
  | .one i => gName i
  | .many is => gTup K is.length (is.foldr (fun i u => gCons (gName i) u) gNil)
  | .bad => fun _ _ _ _ => False
theorem idxs_ok (hN : X.N = N) (nd : X.N.Nodup) {ok : Str → Bool} (hok : ∀ x, ok x = true → Loc X.env.scope x ∧ (X.fn x = true ∨ X.env.scope.names.lookup x = some .local)) : ∀ {es : List Expr} {is : List Nat}, idxs N ok es = some is →
    PGs X es (is.foldr (fun i u => gCons (gName i) u) gNil) ∧ (assignEach es X.env).length = is.length ∧ (assignEach es X.env).findIdx? (·.1) = none
  | [], is, h => by cases h; exact ⟨pgs_nil, rfl, rfl⟩
  | e :: r, is, h => by
    cases e <;> try cases h
    rename_i x pos
    simp only [idxs] at h
    split at h
    · rename_i hx
      split at h
      · rename_i i is' h1 h2
        cases h
        obtain ⟨q1, q2, q3⟩ := idxs_ok hN nd hok h2
        obtain ⟨l1, l2⟩ := hok x hx
        refine ⟨pgs_cons (pg_name nd (by rw [hN]; exact idx_of h1) l1 l2) q1 rfl, ?_, ?_⟩
        · show (assignEach r X.env).length + 1 = _
          rw [q2]; rfl
        · show List.findIdx? (·.1) ((false, assign (.Name x pos) X.env) :: assignEach r X.env) = none
          rw [List.findIdx?_cons, q3]; rfl
      · cases h
    · cases h
theorem tg_raw (hN : X.N = N) (nd : X.N.Nodup) (calm : X.calm = true) {ok : Str → Bool} (hok : ∀ x, ok x = true → Loc X.env.scope x ∧ (X.fn x = true ∨ X.env.scope.names.lookup x = some .local)) (tg : Expr) : PG X tg (rawG X.K (tgOf N ok tg)) := by
  have bad : PG X tg (rawG X.K .bad) := ⟨fun _ _ _ _ _ _ _ _ _ h => h.elim⟩
  cases tg with
  | Name x pos =>
    simp only [tgOf]
    split
    · rename_i hx
      split
      · rename_i i hi
        obtain ⟨l1, l2⟩ := hok x hx
        exact pg_name nd (by rw [hN]; exact idx_of hi) l1 l2
      · exact bad
    · exact bad
  | Tuple es k pos =>
    simp only [tgOf]
    split
    · rename_i is hi
      obtain ⟨q1, q2, q3⟩ := idxs_ok hN nd hok hi
      exact pg_tup calm q1 q2 q3
    · exact bad
  | _ => exact bad
theorem tg_m {tg : Expr} {t : Tg} (h : PG X tg (rawG X.K t)) : PG X tg (tMG X.K cl E (tgG t)) := by
  refine ⟨fun pins s σ H v u Q I r ⟨d, ρ, mh, ι, rd, sr, hr, ok⟩ => h.run pins s σ H v u Q I r ?_⟩
  cases t with
  | one i => exact ok H ι hr .refl _ (sr.set rd i)
  | many is =>
    cases rd with
    | tup s1 q1 =>
      simp only [tgG, tupG] at ok
      split at ok
      · rename_i hl
        exact ⟨_, _, rfl, s1, by rw [← q1.length, hl], pgs_names is _ _ ρ σ hl q1 sr hr fun σ' sr' => ok H ι hr .refl σ' sr'⟩
      · exact ok.elim
    | _ => exact ok.elim
  | bad => exact ok.elim
theorem tg_gw {K : PySem.W.Frag} {vs : List Nat} {t : Tg} (h : tgIn vs t = true) : GW K vs (rawG K t) (tgG t) := by
  cases t with
  | one i => exact gw_name (by simpa [tgIn] using h)
  | many is => exact gw_tup rfl (by simpa [tgIn] using h)
  | bad => cases h
/-! ### comprehensions -/
theorem tests_ok {d : Expr → MT} (hd : ∀ e, PT X e (tMT X.K cl E (d e))) : ∀ es : List Expr, PTs X es (tMT X.K cl E (testsE d es))
  | [] => t_yes
  | [c] => pts_one (hd c)
  | _ :: _ :: _ => ⟨fun _ _ _ _ _ _ ⟨_, _, _, _, _, ok⟩ => ok.elim⟩
/-- what a mirror of expressions promises -/
def DnOk (T : Tab) (cl : Clm) (N : List Str) (d : Dn) : Prop := ∀ (X : Cx) (sc : Scope) (E : XK), Snd X T cl N sc → (∀ e, PE X e (tM X.K cl E ((d sc).1 e))) ∧ ∀ e, PT X e (tMT X.K cl E ((d sc).2 e))
theorem rel_loc {scope sc : Scope} {x : Str} (h : scope.names.lookup x = some .local) : (relS scope sc).names.lookup x = some .local := lookup_relS_keep (fun z => nomatch z) h
theorem blk_tg (S : Snd X T cl N sc) (scope : Scope) (tg : Expr) (s : Shared) (H : Hp) (C : Addr) (cls : List (Str × Addr)) (fp : List Addr) : PG (X.blk s H scope (compEnvC scope cls C X.env) fp) tg (rawG X.K (tgOf N (isLoc scope) tg)) := by
  have S' := S.blk s H scope C cls fp
  refine tg_raw (X := X.blk s H scope (compEnvC scope cls C X.env) fp) S'.hN S'.nd S'.calm (fun x hx => ?_) tg
  have h1 : scope.names.lookup x = some .local := of_decide_eq_true hx
  have h2 : (X.blk s H scope (compEnvC scope cls C X.env) fp).env.scope.names.lookup x = some .local := by
    rw [S'.hsc]; exact rel_loc h1
  exact ⟨.inl h2, .inr h2⟩
theorem comp_okE (S : Snd X T cl N sc) {d : Dn} (hd : DnOk T cl N d) (elt : Expr) (gens : List Comprehension) (scope : Scope) (pos : Pos) : PE X (.ListComp elt gens scope pos) (tM X.K cl E (compE T N d sc elt gens scope)) := by
  unfold compE
  split
  · split
    · rename_i tg iter ifs h
      cases hs : notSet iter with
      | false =>
        rw [iter_set hs]
        exact ⟨fun _ _ _ _ _ _ ⟨_, _, _, _, _, ok⟩ => ok.elim⟩
      | true =>
        refine m_lc S.calm S.nd (iter_ok S (hd X sc E S).1 tg iter) (blkOk_by (by rw [S.hN, S.hsc]; exact h.1)) (tg_gw h.2) (blk_tg S scope tg) (fun s H C cls fp => ?_) (fun s H C cls fp => ?_) (fold_eq hs)
        · exact tests_ok (X := X.blk s H scope (compEnvC scope cls C X.env) fp) (hd _ _ xk0 (S.blk s H scope C cls fp)).2 ifs
        · exact (hd _ _ xk0 (S.blk s H scope C cls fp)).1 elt
    · exact m_no
  · exact m_no
/-! ### dicts -/
theorem pairs_okE {d : Expr → ME} (hd : ∀ e, PE X e (tM X.K cl E (d e))) {pos : Pos} : ∀ {ks : List (Option Expr)} {vs : List Expr} {prs : List (ME × ME)}, pairsE d ks vs = some prs →
    PPs X pos ks vs (prs.map fun p => (tM X.K cl E p.1, tM X.K cl E p.2)) ∧ ks.all (·.isSome) = true ∧ ks.length = vs.length
  | [], [], prs, h => by cases h; exact ⟨pps_nil, rfl, rfl⟩
  | some k :: ks, v :: vs, prs, h => by
    simp only [pairsE] at h
    split at h
    · rename_i r hr
      cases h
      obtain ⟨q1, q2, q3⟩ := pairs_okE hd (pos := pos) hr
      exact ⟨pps_cons (hd k) (hd v) q1, by rw [List.all_cons, q2]; rfl, by rw [List.length_cons, List.length_cons, q3]⟩
    · cases h
  | none :: _, [], _, h => by cases h
  | none :: _, _ :: _, _, h => by cases h
  | some _ :: _, [], _, h => by cases h
  | [], _ :: _, _, h => by cases h
theorem dict_okE (S : Snd X T cl N sc) {d : Expr → ME} (hd : ∀ e, PE X e (tM X.K cl E (d e))) (keys : List (Option Expr)) (values : List Expr) (pos : Pos) : PE X (.Dict keys values pos) (tM X.K cl E (dictE d keys values)) := by
  unfold dictE
  split
  · exact m_dnew
  · rename_i hne
    split
    · rename_i prs hp
      obtain ⟨q1, q2, q3⟩ := pairs_okE hd (pos := pos) hp
      have h0 : keys ≠ [] := fun z => by
        subst z
        cases values with
        | nil => exact hne rfl rfl
        | cons _ _ => cases hp
      split
      · rename_i h15
        split
        · exact m_displ S.hcP S.hcw q1 q2 q3 h0 h15
        · exact m_disp q1 q2 q3 h0 h15
      · exact m_no
    · exact m_no
/-! ### calls -/
theorem base_eq {o : Expr} {m : Str} {env : Env} {w : Sem Value} (h : notSuper o = true) : attributeBase o m env w = w := by
  unfold attributeBase
  cases o with
  | Call f args kws pos =>
    cases f <;> try rfl
    cases args <;> try rfl
    cases kws <;> try rfl
    rename_i id p
    have h' : id ≠ "super" := of_decide_eq_true h
    simp [h']
  | _ => rfl
theorem bm_okE {d : Expr → ME} (hd : ∀ e, PE X e (tM X.K cl E (d e))) {o : Expr} {m : Str} {apos cpos : Pos} {args : List Expr} (h1 : plainArgs args = true) (h2 : notSuper o = true) (h3 : (apos.endLine == cpos.line) = true) :
    PE X (.Call (.Attribute o m apos) args [] cpos) (tM X.K cl E (bmE m (d o) (argsE (args.map d)))) := by
  have key : ∀ T g, bmTab T m = some g → PE X (.Call (.Attribute o m apos) args [] cpos) (tM X.K cl E (bmM T g (d o) (argsE (args.map d)))) := fun T g hg => by
    obtain ⟨p1, p2⟩ := plain_of h1
    cases args with
    | nil => exact m_bm0 (bmTab_ok hg) (hd o) (base_eq h2) h3
    | cons e es =>
      have p1' := p1
      rw [List.all_cons, Bool.and_eq_true] at p1'
      refine m_bm (bmTab_ok hg) (hd o) (args_ok hd p1) (base_eq h2) ?_ h3 (star_eq p1'.1) (plain_any p1'.2)
      rw [plain_all p1]
      simp only [keywordEach, backToKw, List.map_nil, List.all_nil, Bool.true_and, List.length_nil, List.isEmpty_nil, if_true, Nat.add_zero, decide_eq_true_eq]
      exact p2
  refine m_alt fun ρ mh => ?_
  unfold bmE
  split
  · split
    · split
      · rename_i g hg; exact .inr ⟨_, key _ g hg, rfl⟩
      · exact .inl rfl
    · split
      · split
        · rename_i g hg; exact .inr ⟨_, key _ g hg, rfl⟩
        · exact .inl rfl
      · split
        · split
          · rename_i g hg; exact .inr ⟨_, key _ g hg, rfl⟩
          · exact .inl rfl
        · exact .inl rfl
  · exact .inl rfl
theorem pass_0 {X : Cx} {E : XK} : Passes CX0 X E := fun _ _ _ _ _ _ _ h => h.elim
theorem boot_repr : bootBuiltins "repr" = some (.builtin "repr") := by decide +kernel
theorem call_okE (S : Snd X T cl N sc) {d : Expr → ME} (hd : ∀ e, PE X e (tM X.K cl E (d e))) (f : Expr) (args : List Expr) (cpos : Pos) : PE X (.Call f args [] cpos) (tM X.K cl E (callE T N sc d f args cpos)) := by
  unfold callE
  split
  · split
    · rename_i x p h
      obtain ⟨h1, h2, h3⟩ := h
      obtain ⟨n1, n2, n3⟩ := okName_of h1
      obtain ⟨p1, p2⟩ := plain_of h3
      have g : Gl X x := by
        show X.env.scope.names.lookup _ = _
        rw [S.hsc]; exact of_decide_eq_true h2
      split
      · rename_i np hnp
        obtain ⟨k, fa, fd, ps, m1, m2, m3, m4, m5⟩ := S.gl x _ hnp
        split
        · split
          · exact m_call0 m4 m5 g m1 m2 m3 pass_0 n1
          · exact m_no
        · rename_i e es
          have p1' := p1
          rw [List.all_cons, Bool.and_eq_true] at p1'
          exact m_call m4 m5 g m1 m2 m3 pass_0 (args_ok hd p1) n1 (star_eq p1'.1) (plain_any p1'.2)
      · exact m_no
      · rename_i hn
        split
        · exact m_no
        · rename_i e es
          have p1' := p1
          rw [List.all_cons, Bool.and_eq_true] at p1'
          split
          · rename_i hx
            subst hx
            split
            · rename_i hrp
              exact m_callB (repr_ok (S.rp hrp) S.hu) g (S.bl _ (by decide +kernel) hn) boot_repr (args_ok hd p1) n3 n1 (star_eq p1'.1) (plain_any p1'.2)
            · exact m_no
          split
          · rename_i s hs
            obtain ⟨b1, b2, b3⟩ := boot_bn hs
            exact m_callB (blt_ok S.calm s b3) g (S.bl x b2 hn) b1 (args_ok hd p1) n3 n1 (star_eq p1'.1) (plain_any p1'.2)
          · split
            · rename_i s hs
              obtain ⟨b1, b2, b3⟩ := boot_tc hs
              exact m_callTy (tyc_ok s b3) g (S.bl x b2 hn) b1 (args_ok hd p1) n3 n1 (star_eq p1'.1) (plain_any p1'.2)
            · exact m_no
    · exact m_no
  · split
    · rename_i o m apos h
      exact bm_okE hd h.1 h.2.1 h.2.2
    · exact m_no
  · exact m_no
/-! ### the step, and the whole -/
theorem estep_ok (S : Snd X T cl N sc) {d : Dn} (hd : DnOk T cl N d) (e : Expr) : PE X e (tM X.K cl E (estepD T N d sc e)) := by
  have h1 := (hd X sc E S).1
  have h2 := (hd X sc E S).2
  unfold estepD
  split
  · exact const_ok _ _ _
  · exact name_ok S _ _
  · exact m_bin (bin_ok _) (h1 _) (h1 _)
  · exact m_un neg_ok (h1 _)
  · exact m_notV (h1 _)
  · exact andMs_ok h1
  · exact orMs_ok h1
  · exact cmp_okE S h1 _ _ _ _
  · exact m_if (h2 _) (h1 _) (h1 _)
  · split
    · rename_i h; exact m_tup (args_ok h1 (plain_of h).1)
    · exact m_no
  · split
    · rename_i h; exact m_lst (args_ok h1 h)
    · exact m_no
  · exact m_slice (h1 _) (part_ok h1 _) (part_ok h1 _)
  · split
    · rename_i h; exact m_ix (ix_ok S.hcP S.hcw (by have := S.hu; omega)) (h1 _) (h1 _) (plainIx h)
    · exact m_no
  · exact comp_okE S hd _ _ _ _
  · exact dict_okE S h1 _ _ _
  · exact call_okE S h1 _ _ _
  · exact m_no
theorem tstep_ok (S : Snd X T cl N sc) {d : Dn} (hd : DnOk T cl N d) (e : Expr) : PT X e (tMT X.K cl E (tstepD d sc e)) := by
  have h1 := (hd X sc E S).1
  have h2 := (hd X sc E S).2
  unfold tstepD
  split
  · exact (ands_ok h2).pt
  · exact (ors_ok h2).pt
  · exact m_notT (h2 _)
  · exact cmp_okT S h1 _ _ _ _
  · exact m_noT
  · rename_i g1 g2 g3 g4 g5
    refine m_tru (h1 _) fun whole => ?_
    cases e with
    | BoolOp op es pos => cases op with
      | And => exact (g1 _ _ rfl).elim
      | Or => exact (g2 _ _ rfl).elim
    | UnaryOp op a pos => cases op with
      | Not => exact (g3 _ _ rfl).elim
      | _ => rfl
    | Compare a ops es pos => exact (g4 _ _ _ _ rfl).elim
    | IfExp a b c pos => exact (g5 _ _ _ _ rfl).elim
    | _ => rfl
end
theorem den_ok {T : Tab} {cl : Clm} {N : List Str} : ∀ n, DnOk T cl N (den T N n)
  | 0 => fun X sc E S => ⟨fun _ => m_no, fun _ => m_noT⟩
  | n + 1 => fun X sc E S => ⟨fun e => estep_ok S (den_ok n) e, fun e => tstep_ok S (den_ok n) e⟩
end Mir
namespace Mir
open PySem PySem.Spec L2

/-! ### statements of a text -/
def isLC (sc : Scope) (x : Str) : Bool := decide (sc.names.lookup x = some .local) || decide (sc.names.lookup x = some .cell)
def notComp : Expr → Bool
  | .ListComp _ _ _ _ => false
  | .SetComp _ _ _ _ => false
  | .DictComp _ _ _ _ _ => false
  | _ => true
def notTup : Expr → Bool
  | .Tuple _ _ _ => false
  | .List _ _ => false
  | _ => true
def blkS (r : Stmt → MS) : List Stmt → MS
  | [] => nxS
  | s :: ss => seqS (r s) (blkS r ss)
def asgE (T : Tab) (N : List Str) (sc : Scope) (d : Dn) (tg e : Expr) : MS := match tg with
  | .Name x _ => if isLC sc x = true then (match N.idxOf? x with
      | some i => (match e with
        | .ListComp elt gens scope _ => setS i (compE T N d sc elt gens scope)
        | _ => if notComp e = true then setS i ((d sc).1 e) else noS)
      | none => noS) else noS
  | .Subscript o i _ => if notSlice i = true ∧ notComp e = true then asgS ((d sc).1 e) (subG ((d sc).1 o) ((d sc).1 i)) else noS
  | .Tuple es k pos => if notTup e = true ∧ notComp e = true then asgS ((d sc).1 e) (tgG (tgOf N (isLC sc) (.Tuple es k pos))) else noS
  | _ => noS
def sstepD (T : Tab) (N : List Str) (d : Dn) (sc : Scope) (r : Stmt → MS) (st : Stmt) : MS := match st with
  | .Pass _ => nxS
  | .Break _ => bkS
  | .Continue _ => ctS
  | .Expr (.Constant (.str _) _ _) _ => nxS
  | .Expr e _ => if notComp e = true then dropS ((d sc).1 e) else noS
  | .Return (some e) _ => retS ((d sc).1 e)
  | .Return none _ => retN
  | .If c a b _ => ifS ((d sc).2 c) (blkS r a) (blkS r b)
  | .While c b [] _ => whileS ((d sc).2 c) (blkS r b)
  | .For tg iter b [] _ => if notSet iter = true then forS (iterE T sc (d sc).1 iter) (tgG (tgOf N (isLC sc) tg)) (blkS r b) else noS
  | .Assign [tg] e _ => asgE T N sc d tg e
  | .AugAssign (.Name x _) op e _ => if isLC sc x = true then (match N.idxOf? x with | some i => augS i (opIn op) ((d sc).1 e) | none => noS) else noS
  | _ => noS
def denS (T : Tab) (N : List Str) (d : Dn) (sc : Scope) : Nat → Stmt → MS
  | 0 => fun _ => noS
  | n + 1 => sstepD T N d sc (denS T N d sc n)
/-- how deep a text's expressions and blocks are followed -/
def deepE : Nat := 40
def deepS : Nat := 20
def bodyS (T : Tab) (N : List Str) (sc : Scope) (body : List Stmt) : MS := blkS (denS T N (den T N deepE) sc deepS) body
def startD (N : List Str) (ds : List D) : Ro := ds.map some ++ List.replicate (N.length - ds.length) none
def resF (r : Res (Fl × Ro)) : Res D := match r with
  | .ok (.rt d, _) h => .ok d h
  | .ok (.nx, _) h => .ok .non h
  | _ => .no
def runB (m : MS) (N : List Str) (ds : List D) (h : MH) : Res D := resF (m (startD N ds) h)
structure SndF (X : Cx) (T : Tab) (cl : Clm) (N : List Str) (sc : Scope) : Prop extends Snd X T cl N sc where
  fn : ∀ x, X.fn x = true
  kind : sc.kind = .function
  own : PassesOwn (model X.prog X.w) X.A X.env X.xe
section
variable {X : Cx} {T : Tab} {cl : Clm} {N : List Str} {sc : Scope} {E : XK}
theorem lc_of (S : SndF X T cl N sc) {x : Str} (h : isLC sc x = true) : Loc X.env.scope x ∧ (X.fn x = true ∨ X.env.scope.names.lookup x = some .local) := by
  refine ⟨?_, .inl (S.fn x)⟩
  rw [S.hsc]
  unfold isLC at h
  rw [Bool.or_eq_true] at h
  exact h.elim (fun z => .inl (of_decide_eq_true z)) fun z => .inr (of_decide_eq_true z)
theorem sw_false {e : Expr} {t : Option Expr} {l : Nat} {env : Env} (h : notComp e = true) : swapsWith e t l env = pure false := by
  cases e <;> first | rfl | cases h
theorem sw_name {elt : Expr} {gs : List Comprehension} {scope : Scope} {pos py : Pos} {y : Str} {l : Nat} {env : Env} (hk : env.scope.kind = .function) :
    swapsWith (.ListComp elt gs scope pos) (some (.Name y py)) l env = pure (decide (env.scope.names.lookup y = some .local) && (py.line == pos.line) && !(scope.names.any fun (n, k) => n == y && (k == .local || k == .cell))) := by
  have hb : env.blockKind = .function := by unfold Env.blockKind; rw [hk]; rfl
  have hd : (env.kindOf y == some .local) = decide (env.scope.names.lookup y = some .local) := by
    show (env.scope.names.lookup y == some .local) = _
    rw [Bool.eq_iff_iff, beq_iff_eq, decide_eq_true_eq]
  unfold swapsWith
  simp only [hb, hd, Expr.pos]
  rfl
theorem asg_ok (S : SndF X T cl N sc) {d : Dn} (hd : DnOk T cl N d) (tg e : Expr) (pos : Pos) : PS X (.Assign [tg] e pos) (tMS X.K cl E (asgE T N sc d tg e)) := by
  have h1 := (hd X sc E S.toSnd).1
  unfold asgE
  split
  · rename_i x px
    split
    · rename_i hx
      obtain ⟨l1, l2⟩ := lc_of S hx
      split
      · rename_i i hi
        have hi' : X.N[i]? = some x := by rw [S.hN]; exact idx_of hi
        split
        · rename_i elt gens scope lpos
          have hsw := sw_name (elt := elt) (gs := gens) (scope := scope) (pos := lpos) (py := px) (y := x) (l := pos.line) (env := X.env) (by rw [S.hsc]; exact S.kind)
          cases hb : (decide (X.env.scope.names.lookup x = some .local) && (px.line == lpos.line) && !(scope.names.any fun (n, k) => n == x && (k == .local || k == .cell))) with
          | false =>
            rw [hb] at hsw
            exact s_set S.nd hi' l1 (comp_okE S.toSnd hd elt gens scope lpos) hsw l2
          | true =>
            rw [hb] at hsw
            unfold compE
            split
            · split
              · rename_i tg iter ifs h
                cases hs : notSet iter with
                | false =>
                  rw [iter_set hs]
                  exact ⟨fun _ _ _ _ _ _ ⟨_, _, _, _, _, ok⟩ => ok.elim⟩
                | true =>
                  simp only [Bool.and_eq_true, decide_eq_true_eq] at hb
                  refine s_setLc S.calm S.nd hi' hb.1.1 hsw (iter_ok S.toSnd (hd X sc E S.toSnd).1 tg iter) (blkOk_by (by rw [S.hN, S.hsc]; exact h.1)) (tg_gw h.2) (blk_tg S.toSnd scope tg) (fun s H C cls fp => ?_) (fun s H C cls fp => ?_) (fold_eq hs)
                  · exact tests_ok (X := X.blk s H scope (compEnvC scope cls C X.env) fp) (hd _ _ xk0 (S.toSnd.blk s H scope C cls fp)).2 ifs
                  · exact (hd _ _ xk0 (S.toSnd.blk s H scope C cls fp)).1 elt
              · exact ⟨fun _ _ _ _ _ _ ⟨_, _, _, _, _, ok⟩ => ok.elim⟩
            · exact ⟨fun _ _ _ _ _ _ ⟨_, _, _, _, _, ok⟩ => ok.elim⟩
        · split
          · rename_i hc; exact s_set S.nd hi' l1 (h1 e) (sw_false hc) l2
          · exact s_no
      · exact s_no
    · exact s_no
  · rename_i o i pos'
    split
    · rename_i h
      refine s_asg (h1 e) (g_sub S.hcP S.hcw (by have := S.hu; omega) (h1 o) (h1 i) fun v => ?_) (by rw [swapsWithSole]; exact sw_false h.2) rfl rfl
      have hs := h.1
      cases i <;> first | rfl | cases hs
    · exact s_no
  · rename_i es k pos'
    split
    · rename_i h
      refine s_asg (h1 e) (tg_m (tg_raw S.hN S.nd S.calm (fun x hx => lc_of S hx) _)) (by rw [swapsWithSole]; exact sw_false h.2) ?_ rfl
      have hs := h.1
      cases e <;> first | rfl | cases hs
    · exact s_no
  · exact s_no
theorem blk_ok {r : Stmt → MS} (hr : ∀ st, PS X st (tMS X.K cl E (r st))) : ∀ ss : List Stmt, PSs X ss (tMS X.K cl E (blkS r ss))
  | [] => s_nil
  | s :: ss => s_cons (hr s) (blk_ok hr ss)
theorem sstep_ok (S : SndF X T cl N sc) {d : Dn} (hd : DnOk T cl N d) {r : Stmt → MS} (hr : ∀ st, PS X st (tMS X.K cl E (r st))) (st : Stmt) : PS X st (tMS X.K cl E (sstepD T N d sc r st)) := by
  have h1 := (hd X sc E S.toSnd).1
  have h2 := (hd X sc E S.toSnd).2
  unfold sstepD
  split
  · exact s_pass
  · exact s_break
  · exact s_continue
  · exact s_doc
  · split
    · rename_i h; exact s_expr (h1 _) (sw_false h)
    · exact s_no
  · exact s_ret (h1 _)
  · exact s_retN
  · exact s_if (h2 _) (blk_ok hr _) (blk_ok hr _)
  · exact s_while S.own (h2 _) (blk_ok hr _)
  · split
    · rename_i h; exact s_for S.own S.calm (iter_ok S.toSnd h1 _ _) (tg_m (tg_raw S.hN S.nd S.calm (fun x hx => lc_of S hx) _)) (blk_ok hr _) (fold_eq h)
    · exact s_no
  · exact asg_ok S hd _ _ _
  · split
    · rename_i hx
      obtain ⟨l1, l2⟩ := lc_of S hx
      split
      · rename_i i hi
        exact s_aug S.nd (by rw [S.hN]; exact idx_of hi) l1 (h1 _) l2
      · exact s_no
    · exact s_no
  · exact s_no
theorem denS_ok (S : SndF X T cl N sc) {d : Dn} (hd : DnOk T cl N d) : ∀ n st, PS X st (tMS X.K cl E (denS T N d sc n st))
  | 0, _ => s_no
  | n + 1, st => sstep_ok S hd (denS_ok S hd n) st
theorem body_ok (S : SndF X T cl N sc) (body : List Stmt) : PSs X body (tMS X.K cl E (bodyS T N sc body)) := blk_ok (denS_ok S (den_ok deepE) deepS) body
end
/-! ### a def -/
theorem sr_start {K : PySem.W.Frag} {H : Hp} {ι : List Addr} {N : List Str} {ds : List D} {vs : List V} (r : Reps K H ι ds vs) : SR K H ι (startD N ds) (L2.start N vs) := by
  refine ⟨by unfold startD L2.start; simp [r.length], fun i d h => ?_⟩
  unfold startD at h
  by_cases hi : i < ds.length
  · rw [List.getElem?_append_left (by simpa using hi), List.getElem?_map] at h
    cases e : ds[i]? with
    | none => rw [e] at h; cases h
    | some d' =>
      rw [e] at h
      cases h
      obtain ⟨v, hv, rv⟩ := r.get e
      refine ⟨v, ?_, rv⟩
      unfold L2.start
      rw [List.getElem?_append_left (by simpa [← r.length] using hi), List.getElem?_map, hv]; rfl
  · rw [List.getElem?_append_right (by simpa using hi), List.getElem?_replicate] at h
    split at h <;> cases h
theorem fn_ok {P : Program} {w : World} {K : PySem.W.Frag} {mg : Str → Option Value} {base : Heap} {x qual : Str} {st : Stmt} {f : Addr} {fd : FuncData} {N ps : List Str} {k np : Nat} {T : Tab} {cl : Clm} (F : Fun K x qual st f fd) (SC : FnScope N ps (defScope st)) (hnp : ps.length = np)
    (hX : ∀ X : Cx, X.prog = P → X.w = w → X.K = K → X.mg = mg → X.base = base → Room k X.A → X.N = N → X.calm = true → Snd X T cl N X.env.scope) :
    FnOk P w K mg base CX0 (k + 1) f fd ps (spM K cl np (runB (bodyS T N (defScope st) (defBody st)) N)) := by
  refine F.ok SC (fun vs H Q E h => by rw [h.1, hnp]) fun cdv A outer s H vs Q E hr h => ?_
  obtain ⟨hl, ds, mh, ι, rs, hh, ok⟩ := h
  have S := hX (cxOf CX0 P w K mg base N qual (defScope st) f cdv A outer s H E).nox rfl rfl rfl rfl rfl hr rfl rfl
  have SF : SndF (cxOf CX0 P w K mg base N qual (defScope st) f cdv A outer s H E).nox T cl N (defScope st) := { S with fn := fun _ => rfl, kind := SC.kind, own := PassesOwn.never }
  refine ⟨_, body_ok (E := xk0) SF (defBody st), startD N ds, mh, ι, sr_start rs, hh, ?_⟩
  unfold runB at ok
  show okR K cl xk0 ι H (bodyS T N (defScope st) (defBody st) (startD N ds) mh) _
  cases hb : bodyS T N (defScope st) (defBody st) (startD N ds) mh with
  | no => rw [hb] at ok; exact ok.elim
  | ex c fs h' => rw [hb] at ok; exact ok.elim
  | ok r h' =>
    rw [hb] at ok
    obtain ⟨fl, ρ'⟩ := r
    cases fl with
    | nx => exact fun H' ι' hr' e' σ' sr' => ok H' ι' hr' e' _ .non
    | rt d => exact fun H' ι' hr' e' σ' sr' v rv => ok H' ι' hr' e' v rv
    | bk => exact ok.elim
    | ct => exact ok.elim
/-! ### a table of defs -/
structure Df where
  name : Str
  st : Stmt
  N : List Str
  np : Nat
def runsOf (gl : Str → Option GV) (defs : List Df) : Nat → Str → List D → MH → Res D
  | 0 => fun _ _ _ => .no
  | n + 1 => fun x => match defs.find? fun d => decide (d.name = x) with
    | some d => runB (bodyS ⟨gl, runsOf gl defs n, false⟩ d.N (defScope d.st) (defBody d.st)) d.N
    | none => fun _ _ => .no
def scC (N : List Str) (np : Nat) (sc : Scope) : Bool :=
  (match sc.kind with | .function => true | _ => false) && !sc.isCoroutine && !sc.isGenerator && decide N.Nodup && decide (np ≤ N.length) &&
    ((N.take np).all fun x => isLC sc x) && (sc.names.all fun y => match y.2 with | .free => false | _ => true)
theorem sc_of {N : List Str} {np : Nat} {sc : Scope} (h : scC N np sc = true) : FnScope N (N.take np) sc ∧ (N.take np).length = np := by
  unfold scC at h
  simp only [Bool.and_eq_true, Bool.not_eq_true', decide_eq_true_eq, List.all_eq_true] at h
  obtain ⟨⟨⟨⟨⟨⟨h1, h2⟩, h3⟩, h4⟩, h5⟩, h6⟩, h7⟩ := h
  have hl : (N.take np).length = np := by rw [List.length_take]; omega
  refine ⟨⟨?_, h2, h3, h4, by rw [hl], fun x hx => ?_, fun y hy z => ?_⟩, hl⟩
  · split at h1
    · assumption
    · cases h1
  · have := h6 x hx
    unfold isLC at this
    rw [Bool.or_eq_true] at this
    exact this.elim (fun z => .inl (of_decide_eq_true z)) fun z => .inr (of_decide_eq_true z)
  · have := h7 y hy
    rw [z] at this
    cases this
/-- what the top has made of a def -/
structure DfOk (K : PySem.W.Frag) (mg : Str → Option Value) (d : Df) : Prop where
  ex : ∃ f fd, mg d.name = some (.ref f) ∧ Fun K d.name d.name d.st f fd ∧ ∀ us : List Value, us.length = d.np → bindArgs fd ⟨us, []⟩ = pure ((d.N.take d.np).zip us)
  sc : scC d.N d.np (defScope d.st) = true
/-- what a name of the module is -/
def VOk (K : PySem.W.Frag) (mg : Str → Option Value) (x : Str) (d : D) : Prop := ∃ u v, mg x = some u ∧ RelV v u ∧ ∀ H ι, Rep K H ι d v
structure TabOk (K : PySem.W.Frag) (mg : Str → Option Value) (gl : Str → Option GV) (defs : List Df) : Prop where
  dfs : ∀ d ∈ defs, DfOk K mg d
  val : ∀ x d, gl x = some (.val d) → VOk K mg x d
  fn : ∀ x np, gl x = some (.fn np) → ∃ d ∈ defs, d.name = x ∧ d.np = np ∧ (defs.find? fun e => decide (e.name = x)) = some d
  bl : ∀ x ∈ bltAll, gl x = none → mg x = none
theorem runs_ok {P : Program} {w : World} {K : PySem.W.Frag} {mg : Str → Option Value} {base : Heap} {gl : Str → Option GV} {defs : List Df} {cl : Clm} (O : TabOk K mg gl defs) (hcP : cl.P = P) (hcw : cl.w = w) :
    ∀ (n : Nat) (d : Df), d ∈ defs → (defs.find? fun e => decide (e.name = d.name)) = some d → ∃ f fd, mg d.name = some (.ref f) ∧ PySem.W.keepIn K (.ref f) = true ∧ (∀ us : List Value, us.length = d.np → bindArgs fd ⟨us, []⟩ = pure ((d.N.take d.np).zip us)) ∧ Fun K d.name d.name d.st f fd ∧ FnOk P w K mg base CX0 n f fd (d.N.take d.np) (spM K cl d.np (runsOf gl defs n d.name))
  | 0, d, hd, hf => by
    obtain ⟨f, fd, m1, m2, m3⟩ := (O.dfs d hd).ex
    obtain ⟨s1, s2⟩ := sc_of (O.dfs d hd).sc
    refine ⟨f, fd, m1, m2.kp, m3, m2, fun vs H Q E h => by rw [h.1, s2], fun A outer s H args us vs Q E _ _ _ _ h => ?_⟩
    obtain ⟨_, _, _, _, _, _, ok⟩ := h
    exact ok.elim
  | n + 1, d, hd, hf => by
    obtain ⟨f, fd, m1, m2, m3⟩ := (O.dfs d hd).ex
    obtain ⟨s1, s2⟩ := sc_of (O.dfs d hd).sc
    refine ⟨f, fd, m1, m2.kp, m3, m2, ?_⟩
    have e : runsOf gl defs (n + 1) d.name = runB (bodyS ⟨gl, runsOf gl defs n, false⟩ d.N (defScope d.st) (defBody d.st)) d.N := by
      funext ds h
      simp only [runsOf, hf]
    rw [e]
    refine fn_ok m2 s1 s2 fun X e1 e2 e3 e4 e5 hr e6 e7 => ⟨e6, rfl, by rw [e6]; exact s1.nd, e7, hcP.trans e1.symm, hcw.trans e2.symm, hr.units, (fun z => absurd z Bool.false_ne_true), fun x gv hg => ?_, fun x hx hn => by rw [e4]; exact O.bl x hx hn⟩
    cases gv with
    | val v =>
      obtain ⟨u, v', q1, q2, q3⟩ := O.val x v hg
      exact ⟨u, v', by rw [e4]; exact q1, q2, fun H ι => by rw [e3]; exact q3 H ι⟩
    | fn np =>
      obtain ⟨d', hd', rfl, rfl, hf'⟩ := O.fn x np hg
      obtain ⟨f', fd', q1, q2, q3, _, q4⟩ := runs_ok (base := base) O hcP hcw n d' hd' hf'
      refine ⟨n, f', fd', _, by rw [e4]; exact q1, by rw [e3]; exact q2, .all fun us hl => q3 us (by rw [hl, (sc_of (O.dfs d' hd').sc).2]), ?_, hr⟩
      rw [e1, e2, e3, e4, e5]
      exact q4
end Mir
namespace Mir
open PySem PySem.Spec L2

/-! ### the end of a law -/
theorem df_mk {K : PySem.W.Frag} {h : Heap} {mg : Str → Option Value} (X : K.In h) (G : h.Ns mainGlobals mg) (d : Df) {f : Addr} {oc : Value} {od an : Option Addr} {osl : Array (Option Value)} {kV doc pm cdv ct : Value}
    (a : PySem.W.nsIn K mainGlobals d.name = some (some (.ref f))) (l : K.lookup f = some ⟨oc, od, .func (PySem.W.fnOf d.name d.name (defArgs d.st) (defBody d.st) (defScope d.st) .none kV doc pm an cdv ct), osl⟩)
    (c : PySem.W.codeIn K cdv d.name = true) (k : PySem.W.keepIn K (.ref f) = true) (sc : scC d.N d.np (defScope d.st) = true)
    (b : ∀ (kV doc pm : Value) (an : Option Addr) (cdv ct : Value) (us : List Value), us.length = d.np → bindArgs (PySem.W.fnOf d.name d.name (defArgs d.st) (defBody d.st) (defScope d.st) .none kV doc pm an cdv ct) ⟨us, []⟩ = pure ((d.N.take d.np).zip us)) : DfOk K mg d :=
  ⟨⟨f, _, PySem.W.mg_of X G a, fun_mk l c k, b kV doc pm an cdv ct⟩, sc⟩
theorem v_int {K : PySem.W.Frag} {h : Heap} {mg : Str → Option Value} (X : K.In h) (G : h.Ns mainGlobals mg) {x : Str} {i : Int} {t : Tok} (a : PySem.W.nsIn K mainGlobals x = some (some (.int i t))) : VOk K mg x (.int i) :=
  ⟨_, .int i, PySem.W.mg_of X G a, ⟨t, rfl⟩, fun _ _ => .int i⟩
theorem v_str {K : PySem.W.Frag} {h : Heap} {mg : Str → Option Value} (X : K.In h) (G : h.Ns mainGlobals mg) {x : Str} {i : Str} {t : Tok} (a : PySem.W.nsIn K mainGlobals x = some (some (.str i t))) : VOk K mg x (.str i) :=
  ⟨_, .str i, PySem.W.mg_of X G a, ⟨t, rfl⟩, fun _ _ => .str i⟩
mutual
/-- a value of the written part -/
inductive WV (K : PySem.W.Frag) : D → Value → Prop
  | non : WV K .non .none
  | bl (b : Bool) : WV K (.bl b) (.bool b)
  | int (i : Int) (t : Tok) : WV K (.int i) (.int i t)
  | str (x : Str) (t : Tok) : WV K (.str x) (.str x t)
  | tup {a : Addr} {dd : Option Addr} {its : Array Value} {n : Nat} {sl : Array (Option Value)} {ds : List D} (l : K.lookup a = some ⟨.type "tuple", dd, .seq its n, sl⟩) (z : its.size ≤ sizeLine) (q : WVs K ds its.toList) : WV K (.tup ds) (.ref a)
inductive WVs (K : PySem.W.Frag) : List D → List Value → Prop
  | nil : WVs K [] []
  | cons {d : D} {u : Value} {ds : List D} {us : List Value} : WV K d u → WVs K ds us → WVs K (d :: ds) (u :: us)
end
mutual
theorem WV.rep {K : PySem.W.Frag} : ∀ {d : D} {u : Value}, WV K d u → ∃ v, RelV v u ∧ ∀ H ι, Rep K H ι d v
  | _, _, .non => ⟨.non, rfl, fun _ _ => .non⟩
  | _, _, .bl b => ⟨.bl b, rfl, fun _ _ => .bl b⟩
  | _, _, .int i t => ⟨.int i, ⟨t, rfl⟩, fun _ _ => .int i⟩
  | _, _, .str x t => ⟨.str x, ⟨t, rfl⟩, fun _ _ => .str x⟩
  | _, _, .tup (a := a) l z q =>
    let ⟨vs, h1, h2⟩ := WVs.rep q
    ⟨.ref a, rfl, fun H ι => .tup (xs := vs) (.inr ⟨_, _, _, l, rfl, rfl, z, h1⟩) (h2 H ι)⟩
theorem WVs.rep {K : PySem.W.Frag} : ∀ {ds : List D} {us : List Value}, WVs K ds us → ∃ vs, Vals vs us ∧ ∀ H ι, Reps K H ι ds vs
  | _, _, .nil => ⟨[], .nil, fun _ _ => .nil⟩
  | _, _, .cons h t =>
    let ⟨v, h1, h2⟩ := WV.rep h
    let ⟨vs, h3, h4⟩ := WVs.rep t
    ⟨v :: vs, .cons h1 h3, fun H ι => .cons (h2 H ι) (h4 H ι)⟩
end
theorem v_w {K : PySem.W.Frag} {h : Heap} {mg : Str → Option Value} (X : K.In h) (G : h.Ns mainGlobals mg) {x : Str} {d : D} {u : Value} (a : PySem.W.nsIn K mainGlobals x = some (some u)) (q : WV K d u) : VOk K mg x d :=
  let ⟨v, r, m⟩ := q.rep
  ⟨u, v, PySem.W.mg_of X G a, r, m⟩
def glOf (l : List (Str × GV)) (x : Str) : Option GV := l.lookup x
theorem tab_mk {K : PySem.W.Frag} {mg : Str → Option Value} {l : List (Str × GV)} {defs : List Df} (h1 : ∀ d ∈ defs, DfOk K mg d) (h2 : ∀ p ∈ l, match p.2 with | .val d => VOk K mg p.1 d | .fn np => (defs.find? fun e => decide (e.name = p.1)).map (·.np) = some np)
    (h3 : ∀ x ∈ bltAll, l.lookup x = none → mg x = none) : TabOk K mg (glOf l) defs where
  dfs := h1
  val := fun x d h => h2 (x, .val d) (PySem.mem_of_lookup h)
  fn := fun x np h => by
    have := h2 (x, .fn np) (PySem.mem_of_lookup h)
    obtain ⟨d, e1, e2⟩ := Option.map_eq_some_iff.mp this
    have e3 := List.find?_some e1
    exact ⟨d, List.mem_of_find?_eq_some e1, by simpa using e3, e2, e1⟩
  bl := h3
theorem walk_m {l : PySem.W.OpenLaw} {q : Program} {loose : List Str} {XP : (Str → Option Value) → Heap → Prop} {YP : World → Heap → Prop} {d : DefRec} {K : Params → PySem.W.Frag} (n : Nat) (hn : l.most = some 63) (hdf : d.params.defaults = [])
    (hr : Room n callerA) (gl : List (Str × GV)) (defs : List Df) (df : Df) (hdn : d.name = df.name) (hin : df ∈ defs) (hfind : (defs.find? fun e => decide (e.name = df.name)) = some df) (hnp : df.np = 1) (x : Str) (hx : df.N.take 1 = [x])
    (hY : ∀ (w : World) (h : Heap), YP w h → (K w.params).In h)
    (F : ∀ (w : World) (mg : Str → Option Value) (h : Heap), (K w.params).In h → h.Ns mainGlobals mg → TabOk (K w.params) mg (glOf gl) defs)
    (main : ∀ ns : List Int, ns.length ≤ 63 → ∃ h', runsOf (glOf gl) defs n df.name [.wl (ns.map .int)] [] = .ok (.bl true) h') :
    PySem.W.WalkO q loose XP YP l.row.toRowW d [] (fun f vs => PySem.call f vs) := by
  refine L2.walk_of (n := 63) (k := n) (x := x) (CX := fun _ => CX0) (sp := fun w => spM (K w.params) ⟨fun _ => none, l.prog, w⟩ 1 (runsOf (glOf gl) defs n df.name)) hn (by decide) hdf hr hY (fun w mg fa h KX G hmg => ?_) (fun w H a ns hl hO hS => ?_) fun _ _ _ _ _ z => z
  · have O := F w mg h KX G
    obtain ⟨f, fd, m1, m2⟩ := (O.dfs df hin).ex
    rw [hdn] at hmg
    obtain ⟨f', fd', p1, p2, p3, p4, p5⟩ := runs_ok (P := l.prog) (w := w) (base := h) (cl := ⟨fun _ => none, l.prog, w⟩) O rfl rfl n df hin hfind
    have ef : f' = fa := by rw [p1] at hmg; exact Value.ref.inj (Option.some.inj hmg)
    subst ef
    refine ⟨fd', fun s u => ?_, fun base KB GB => ?_⟩
    · have := p3 [u] (by rw [hnp]; rfl)
      rw [hnp, hx] at this
      exact .of_eq this
    · have O' := F w mg base KB GB
      obtain ⟨f2, fd2, r1, r2, r3, r4, r5⟩ := runs_ok (P := l.prog) (w := w) (base := base) (cl := ⟨fun _ => none, l.prog, w⟩) O' rfl rfl n df hin hfind
      have ef : f2 = f' := by rw [r1] at p1; exact Value.ref.inj (Option.some.inj p1)
      subst ef
      have efd : fd2 = fd' := by
        obtain ⟨oc, od, kV, doc, pm, an, cdv, ct, osl, e1, lk, _⟩ := p4.ex
        obtain ⟨oc', od', kV', doc', pm', an', cdv', ct', osl', e1', lk', _⟩ := r4.ex
        rw [lk] at lk'
        cases lk'
        rfl
      subst efd
      rw [hnp, hx] at r5
      exact r5
  · refine ⟨rfl, [.wl (ns.map .int)], [], [], .cons (.wl ?_ (reps_ints ns)) .nil, ⟨rfl, List.nodup_nil, fun n a o h => by cases h⟩, ?_⟩
    · rcases hS with (h | ⟨o, h⟩) | h
      · rcases hO a with z | ⟨o, xs, z⟩
        · rw [z] at h; cases h
        · rw [z] at h; cases h
      · exact .inl ⟨o, h⟩
      · exact .inr h
    · obtain ⟨h', e⟩ := main ns hl
      rw [e]
      intro H' ι' _ _ v rv
      cases rv
      rfl
where
  reps_ints {K : PySem.W.Frag} {H : Hp} {ι : List Addr} : ∀ ns : List Int, Reps K H ι (ns.map .int) (ns.map V.int)
    | [] => .nil
    | n :: ns => .cons (.int n) (reps_ints ns)
end Mir
namespace Mir
open PySem PySem.Spec L2 PyProof.Rows

/-! ### the law's own call, where it is known that nothing is under way -/
/-- a promise of the outermost call alone -/
def TopOk (P : Program) (w : World) (K : PySem.W.Frag) (mg : Str → Option Value) (base : Heap) (f : Addr) (x : Str) (sp : Sp) : Prop :=
  ∀ (s : Shared) (H : Hp) (u : Value) (v : V) (Q : VK) (E : XK), Env0 P w K mg base callerA [] s H → RelV v u → sp [v] H Q E → codeAny (model P w) callerA (.call (.ref f) ⟨[u], []⟩) (CR CX0 [] P w H s Q E) s
theorem top_ok {P : Program} {w : World} {K : PySem.W.Frag} {mg : Str → Option Value} {base : Heap} {x qual : Str} {st : Stmt} {f : Addr} {fd : FuncData} {N : List Str} {y : Str} {k : Nat} {T : Tab} {cl : Clm} (F : Fun K x qual st f fd)
    (SC : FnScope N [y] (defScope st)) (room : Room (k + 1) callerA) (hbind : ∀ (s : Shared) (u : Value), BindsTo s fd ⟨[u], []⟩ [(y, u)])
    (hX : ∀ X : Cx, X.prog = P → X.w = w → X.K = K → X.mg = mg → X.base = base → Room k X.A → X.A.guards = some [] → X.N = N → X.calm = true → Snd X T cl N X.env.scope) :
    TopOk P w K mg base f y (spM K cl 1 (runB (bodyS T N (defScope st) (defBody st)) N)) := by
  intro s H u v Q E e0 rv ⟨hl, ds, mh, ι, rs, hh, ok⟩
  obtain ⟨oc, od, kV, doc, pm, an, cdv, ct, osl, efd, lk, hcd⟩ := F.ex
  subst efd
  have KX : K.In s.heap := e0.mod.kin.keeps fun b o e => And.left (e0.bs b o e)
  have hk1 : ∀ z ∈ [(y, u)], (defScope st).names.lookup z.1 = some .local ∨ ((defScope st).names.lookup z.1 = some .cell ∧ ((cellsFrom (s.heap.objs.size + 1) (defScope st).names []).lookup z.1).isSome = true) := by
    intro z hz
    rw [List.mem_singleton] at hz
    subst hz
    exact (SC.par y List.mem_cons_self).imp id fun q => ⟨q, PySem.W.cellsFrom_some _ _ _ (.inl q)⟩
  have S := hX (cxOf CX0 P w K mg base N qual (defScope st) f cdv callerA [] s H E).nox rfl rfl rfl rfl rfl (room.deeper _) rfl rfl rfl
  have SF : SndF (cxOf CX0 P w K mg base N qual (defScope st) f cdv callerA [] s H E).nox T cl N (defScope st) := { S with fn := fun _ => rfl, kind := SC.kind, own := PassesOwn.never }
  have PB := (Mir.body_ok (E := xk0) SF (defBody st)).nox
  refine codeAny_call_function room.depth (KX _ _ lk) rfl SC.co SC.gen rfl (PySem.W.codeRec_of KX hcd) (hbind s u _ _ _ _ ?_)
  refine wpAny_newFunctionEnv_cells SC.kind hk1 fun env he s1 hin => ?_
  subst he
  refine ⟨PySem.Heap.NoLimit.keeps (e0.mod.nolimit.keeps fun b o e => And.left (e0.bs b o e)) hin.toInCall.keep, codeAny_func ?_⟩
  have I := inv_start (CX := CX0) (E := E) SC room.hd e0 (vs := [v]) rfl (.cons rv .nil) hin
  refine wpAny_mono (PB.run [] s1 (L2.start N [v]) H { nx := fun _ H' => Q .non H', rt := Q } I ⟨startD N ds, mh, ι, sr_start rs, hh, ?_⟩) (fun fl s' hs => ?_) fun e s' hs => hs
  · unfold runB at ok
    show okR K cl xk0 ι H (bodyS T N (defScope st) (defBody st) (startD N ds) mh) _
    cases hb : bodyS T N (defScope st) (defBody st) (startD N ds) mh with
    | no => rw [hb] at ok; exact ok.elim
    | ex c fs h' => rw [hb] at ok; exact ok.elim
    | ok r h' =>
      rw [hb] at ok
      obtain ⟨fl, ρ'⟩ := r
      cases fl with
      | nx => exact fun H' ι' hr' e' σ' sr' => ok H' ι' hr' e' _ .non
      | rt d => exact fun H' ι' hr' e' σ' sr' v rv => ok H' ι' hr' e' v rv
      | bk => exact ok.elim
      | ct => exact ok.elim
  · cases fl with
    | ret z =>
      obtain ⟨v', σ', H', J, rv', q⟩ := hs
      exact ⟨v', H', J.os, J.bare, J.base, J.hok, rv', q⟩
    | next =>
      obtain ⟨σ', H', J, q⟩ := hs
      exact ⟨V.non, H', J.os, J.bare, J.base, J.hok, (rfl : Value.none = Value.none), q⟩
    | brk => obtain ⟨_, _, _, q⟩ := hs; exact q.elim
    | cont => obtain ⟨_, _, _, q⟩ := hs; exact q.elim

section
variable {P : Program} {w : World} {K : PySem.W.Frag} {mg mb : Str → Option Value} {fa a : Addr} {x : Str} {sp : Sp} {s1 : Shared} {vs : List Value} {ns : List Int}
theorem law_core {H : Hp} (KX : K.In s1.heap) (hns : s1.heap.Ns mainGlobals mg) (hb : s1.heap.Ns builtinsNs mb) (hbb : ∀ x : Str, x ≠ "__name__" → mb x = bootBuiltins x) (hlim : s1.heap.NoLimit) (hg : s1.gens = #[])
    (ha : s1.heap.get? a = some { cls := .type "list", data := .seq vs.toArray }) (F : ∀ base : Heap, K.In base → base.Ns mainGlobals mg → TopOk P w K mg base fa x sp)
    (hO : Only H) (hok : HOk P w H s1.heap) (hA : ∀ b, H b ≠ none → b = a) (hK : H a ≠ none → K.lookup a = none) (hsp : sp [.ref a] H (fun v _ => v = .bl true) fun _ _ _ => False) :
    codeAny (model P w) callerA (.call (.ref fa) ⟨[.ref a], []⟩) (fun r s' => r = .ok (.ret (.bool true)) ∧ OldK s1.heap s'.heap ∧ s'.os = s1.os ∧ AllBare s'.gens) s1 := by
  -- what is no list is not tracked
  have dictFree : ∀ b o es ep, s1.heap.get? b = some o → o.data = .dict es ep → H b = none := by
    intro b o es ep h1 h2
    by_cases q : H b = none
    · exact q
    · have hba := hA b q
      subst hba
      have ho := Option.some.inj (h1.symm.trans ha)
      rw [ho] at h2
      exact absurd h2 (by intro z; cases z)
  have inB : ∀ b m, s1.heap.Ns b m → (hidT s1.heap H).Ns b m := by
    rintro b m ⟨o, es, ep, h1, h2, h3⟩
    exact ⟨o, es, ep, hidT_get h1 (dictFree b o es ep h1 h2), h2, h3⟩
  have kB : K.In (hidT s1.heap H) := by
    intro b o h
    refine hidT_get (KX b o h) ?_
    by_cases q : H b = none
    · exact q
    · have hba := hA b q
      subst hba
      exact absurd ((hK q).symm.trans h) (by intro z; cases z)
  obtain ⟨mc, l1, l2⟩ := hlim
  have e0 : Env0 P w K mg (hidT s1.heap H) callerA [] s1 H :=
    { frames := rfl, mod := ⟨kB, inB _ _ hns, ⟨mb, inB _ _ hb, hbb⟩, ⟨mc, inB _ _ l1, l2⟩⟩, bs := fun b o h => of_hidT h, bsz := Nat.le_of_eq (hidT_size _ _), funs := trivial, frf := fun b h => (by cases h), hok := hok, bare := .of_eq hg }
  refine codeAny_mono (F _ kB (inB _ _ hns) s1 H (.ref a) (.ref a) _ _ e0 rfl hsp) ?_
  rintro (e | fl) s' h
  · exact False.elim h
  · cases fl with
    | ret u =>
      obtain ⟨v, H', h1, h2, h3, h4, h5, h6⟩ := h
      have h6' : v = .bl true := h6
      subst h6'
      cases h5
      refine ⟨rfl, OldK.of_keep ?_, h1, h2⟩
      intro b o hbo
      by_cases q : H b = none
      · exact h3.keep b o hbo q (by intro z; cases z) (by intro z; cases z)
      · rcases hO b with z | ⟨ob, xs, z⟩
        · exact absurd z q
        · have w1 := (hok b _ z).1
          have w2 := (h4 b _ (h3.frzs b ob _ z)).1
          rw [hbo] at w1
          cases w1
          exact w2
    | next => exact False.elim h
    | brk => exact False.elim h
    | cont => exact False.elim h
theorem law_top (KX : K.In s1.heap) (hns : s1.heap.Ns mainGlobals mg) (hb : s1.heap.Ns builtinsNs mb) (hbb : ∀ x : Str, x ≠ "__name__" → mb x = bootBuiltins x) (hlim : s1.heap.NoLimit) (hg : s1.gens = #[])
    (ha : s1.heap.get? a = some { cls := .type "list", data := .seq vs.toArray }) (hi : IntsAre vs ns) (hl : ns.length ≤ sizeLine) (F : ∀ base : Heap, K.In base → base.Ns mainGlobals mg → TopOk P w K mg base fa x sp)
    (hsp : ∀ H : Hp, Only H → SqL K H a (ns.map V.int) → sp [.ref a] H (fun v _ => v = .bl true) fun _ _ _ => False) :
    codeAny (model P w) callerA (.call (.ref fa) ⟨[.ref a], []⟩) (fun r s' => r = .ok (.ret (.bool true)) ∧ OldK s1.heap s'.heap ∧ s'.os = s1.os ∧ AllBare s'.gens) s1 := by
  have lv : vs.length = ns.length := hi.length
  have rv := vals_ints hi
  by_cases hk : K.lookup a = none
  · let H : Hp := fun b => if b = a then some (.frz { cls := .type "list", data := .seq vs.toArray } (.lst (ns.map V.int))) else none
    have Ha : H a = some (.frz { cls := .type "list", data := .seq vs.toArray } (.lst (ns.map V.int))) := if_pos rfl
    have Hn : ∀ b, b ≠ a → H b = none := fun b n => if_neg n
    have hO : Only H := fun b => by
      by_cases e : b = a
      · subst e; exact .inr ⟨_, _, Ha⟩
      · exact .inl (Hn b e)
    refine law_core (H := H) KX hns hb hbb hlim hg ha F hO (fun b u h => ?_) (fun b h => ?_) (fun _ => hk) (hsp H hO (.inl (.inr ⟨_, Ha⟩)))
    · by_cases e : b = a
      · subst e
        cases Ha.symm.trans h
        exact ⟨ha, by rw [List.length_map]; exact hl, vs, _, rv, ha⟩
      · cases (Hn b e).symm.trans h
    · by_cases e : b = a
      · exact e
      · exact absurd (Hn b e) h
  · obtain ⟨o, ho⟩ := Option.ne_none_iff_exists'.mp hk
    have hoo := Option.some.inj ((KX a o ho).symm.trans ha)
    subst hoo
    have hO : Only (fun _ => none) := fun b => .inl rfl
    exact law_core (H := fun _ => none) KX hns hb hbb hlim hg ha F hO (fun b u h => by cases h) (fun b h => absurd rfl h) (fun h => absurd rfl h)
      (hsp _ hO (.inr ⟨_, vs.toArray, _, ho, rfl, rfl, rfl, by rw [List.size_toArray, lv]; exact hl, by simpa using rv⟩))
end
/-- what the outermost call of a def is, with repr at hand -/
def topOf (gl : Str → Option GV) (defs : List Df) (n : Nat) (d : Df) : List D → MH → Res D := runB (bodyS ⟨gl, runsOf gl defs n, true⟩ d.N (defScope d.st) (defBody d.st)) d.N
theorem walk_t {l : PySem.W.OpenLaw} {q : Program} {loose : List Str} {XP : (Str → Option Value) → Heap → Prop} {YP : World → Heap → Prop} {d : DefRec} {K : Params → PySem.W.Frag} (n : Nat) (hn : l.most = some 63) (hdf : d.params.defaults = [])
    (hr : Room (n + 1) callerA) (gl : List (Str × GV)) (defs : List Df) (df : Df) (hdn : d.name = df.name) (hin : df ∈ defs) (hnp : df.np = 1) (x : Str) (hx : df.N.take 1 = [x])
    (hY : ∀ (w : World) (h : Heap), YP w h → (K w.params).In h)
    (F : ∀ (w : World) (mg : Str → Option Value) (h : Heap), (K w.params).In h → h.Ns mainGlobals mg → TabOk (K w.params) mg (glOf gl) defs)
    (main : ∀ ns : List Int, ns.length ≤ 63 → ∃ h', topOf (glOf gl) defs n df [.wl (ns.map .int)] [] = .ok (.bl true) h') :
    PySem.W.WalkO q loose XP YP l.row.toRowW d [] (fun f vs => PySem.call f vs) := by
  refine Att.attach_call hn hdf fun w s₀ s₁ mg mb fa o pm cd doc a vs ns G Y ho hd hcd hmg hobj hints hlen hg => ?_
  have KX := hY w _ Y
  have O := F w mg _ KX G.T.g
  obtain ⟨f, fd, m1, m2, m3⟩ := (O.dfs df hin).ex
  rw [hdn] at hmg
  have ef : f = fa := by rw [m1] at hmg; exact Value.ref.inj (Option.some.inj hmg)
  subst ef
  obtain ⟨s1, s2⟩ := sc_of (O.dfs df hin).sc
  rw [hnp, hx] at s1
  refine law_top (sp := spM (K w.params) ⟨fun _ => none, l.prog, w⟩ 1 (topOf (glOf gl) defs n df)) (x := x) KX G.T.g G.T.b G.T.builtins G.T.nolimit hg hobj hints (Nat.le_trans hlen (by decide)) (fun base KB GB => ?_) (fun H hO hS => ?_)
  · have O' := F w mg base KB GB
    refine top_ok m2 s1 hr (fun s u => ?_) fun X e1 e2 e3 e4 e5 hr hgu e6 e7 => ⟨e6, rfl, by rw [e6]; exact s1.nd, e7, e1.symm, e2.symm, hr.units, fun _ => hgu, fun y gv hg => ?_, fun y hy hn => by rw [e4]; exact O'.bl y hy hn⟩
    · have := m3 [u] (by rw [hnp]; rfl)
      rw [hnp, hx] at this
      exact .of_eq this
    · cases gv with
      | val v =>
        obtain ⟨u, v', q1, q2, q3⟩ := O'.val y v hg
        exact ⟨u, v', by rw [e4]; exact q1, q2, fun H ι => by rw [e3]; exact q3 H ι⟩
      | fn np =>
        obtain ⟨d', hd', rfl, rfl, hf'⟩ := O'.fn y np hg
        obtain ⟨f', fd', q1, q2, q3, _, q4⟩ := runs_ok (P := l.prog) (w := w) (base := base) (cl := ⟨fun _ => none, l.prog, w⟩) O' rfl rfl n d' hd' hf'
        refine ⟨n, f', fd', _, by rw [e4]; exact q1, by rw [e3]; exact q2, .all fun us hl => q3 us (by rw [hl, (sc_of (O'.dfs d' hd').sc).2]), ?_, hr⟩
        rw [e1, e2, e3, e4, e5]
        exact q4
  · refine ⟨rfl, [.wl (ns.map .int)], [], [], .cons (.wl ?_ (walk_m.reps_ints ns)) .nil, ⟨rfl, List.nodup_nil, fun n a o h => by cases h⟩, ?_⟩
    · rcases hS with (h | ⟨o, h⟩) | h
      · rcases hO a with z | ⟨o, xs, z⟩
        · rw [z] at h; cases h
        · rw [z] at h; cases h
      · exact .inl ⟨o, h⟩
      · exact .inr h
    · obtain ⟨h', e⟩ := main ns hlen
      rw [e]
      intro H' ι' _ _ v rv
      cases rv
      rfl
end Mir
namespace Mir
open PySem L2

/-! ### what a mirror comes to -/
def Wp {α : Type} (r : Res α) (Q : α → MH → Prop) : Prop := match r with
  | .ok a h => Q a h
  | _ => False
section
variable {α β : Type} {r : Res α} {Q Q' : α → MH → Prop}
theorem Wp_ok {a : α} {h : MH} : Wp (.ok a h) Q = Q a h := rfl
theorem Wp_no : Wp (.no : Res α) Q = False := rfl
theorem Wp_ex {c fs h} : Wp (.ex c fs h : Res α) Q = False := rfl
theorem Wp_bind {f : α → MH → Res β} {Q : β → MH → Prop} : Wp (r.bind f) Q = Wp r fun a h => Wp (f a h) Q := by cases r <;> rfl
theorem Wp_nox : Wp r.nox Q = Wp r Q := by cases r <;> rfl
theorem Wp.mono (h : Wp r Q) (i : ∀ a h, Q a h → Q' a h) : Wp r Q' := by cases r <;> first | exact i _ _ h | exact h
theorem Wp.ex (h : Wp r Q) : ∃ a h', r = .ok a h' ∧ Q a h' := by
  cases r with
  | ok a h' => exact ⟨a, h', rfl, h⟩
  | ex => exact h.elim
  | no => exact h.elim
theorem Wp.of {a : α} {h : MH} (e : r = .ok a h) (q : Q a h) : Wp r Q := by rw [e]; exact q
theorem bind_ok {a : α} {h : MH} {f : α → MH → Res β} : (Res.ok a h).bind f = f a h := rfl
theorem bind_no {f : α → MH → Res β} : (Res.no : Res α).bind f = .no := rfl
theorem nox_ok {a : α} {h : MH} : (Res.ok a h).nox = .ok a h := rfl
theorem Wp_ite {c : Prop} [Decidable c] {x y : Res α} : Wp (if c then x else y) Q = if c then Wp x Q else Wp y Q := by split <;> rfl
end
theorem Wp_resF {m : Res (Fl × Ro)} {Q : D → MH → Prop} : Wp (resF m) Q = Wp m fun r h => match r.1 with | .rt d => Q d h | .nx => Q .non h | _ => False := by
  cases m with
  | ok r h => obtain ⟨f, ρ⟩ := r; cases f <;> rfl
  | ex => rfl
  | no => rfl
theorem Wp_seqS {a b : MS} {ρ : Ro} {h : MH} {Q : Fl × Ro → MH → Prop} : Wp (seqS a b ρ h) Q = Wp (a ρ h) fun r h => match r.1 with | .nx => Wp (b r.2 h) Q | _ => Q r h := by
  unfold seqS
  rw [Wp_bind]
  congr 1
  funext r h
  obtain ⟨f, ρ⟩ := r
  cases f <;> rfl
/-! loops -/
theorem forL_inv {chk : MH → Bool} {g : MG} {b : MS} {Q : Fl × Ro → MH → Prop} (all : List D) (I : Nat → Ro → MH → Prop)
    (turn : ∀ i ρ h x, all[i]? = some x → I i ρ h → chk h = true ∧ Wp (g x ρ h) fun ρ1 h1 => Wp (b ρ1 h1) fun r h2 => match r.1 with | .nx => I (i + 1) r.2 h2 | .ct => I (i + 1) r.2 h2 | .bk => Q (.nx, r.2) h2 | .rt d => Q (.rt d, r.2) h2)
    (done : ∀ ρ h, I all.length ρ h → chk h = true ∧ Q (.nx, ρ) h) : ∀ (xs : List D) (i : Nat) (ρ : Ro) (h : MH), all.drop i = xs → i ≤ all.length → I i ρ h → Wp (forL chk g b xs ρ h) Q
  | [], i, ρ, h, e, hl, hi => by
    have : i = all.length := by
      have := congrArg List.length e
      rw [List.length_drop, List.length_nil] at this
      omega
    subst this
    obtain ⟨h1, h2⟩ := done ρ h hi
    rw [forL, if_pos h1]; exact h2
  | x :: xs, i, ρ, h, e, hl, hi => by
    have hlt : i < all.length := by
      have := congrArg List.length e
      rw [List.length_drop, List.length_cons] at this
      omega
    have hx : all[i]? = some x ∧ all.drop (i + 1) = xs := by
      rw [List.drop_eq_getElem_cons hlt] at e
      injection e with e1 e2
      exact ⟨by rw [List.getElem?_eq_getElem hlt, e1], e2⟩
    obtain ⟨h1, h2⟩ := turn i ρ h x hx.1 hi
    rw [forL, if_pos h1, Wp_bind]
    refine h2.mono fun ρ1 h1 q => ?_
    rw [Wp_bind]
    refine q.mono fun r h2 q => ?_
    obtain ⟨f, ρ2⟩ := r
    cases f with
    | nx => exact forL_inv all I turn done xs (i + 1) ρ2 h2 hx.2 hlt q
    | ct => exact forL_inv all I turn done xs (i + 1) ρ2 h2 hx.2 hlt q
    | bk => exact q
    | rt d => exact q
theorem forL_wp {chk : MH → Bool} {g : MG} {b : MS} {Q : Fl × Ro → MH → Prop} {xs : List D} {ρ : Ro} {h : MH} (I : Nat → Ro → MH → Prop) (h0 : I 0 ρ h)
    (turn : ∀ i ρ h x, xs[i]? = some x → I i ρ h → chk h = true ∧ Wp (g x ρ h) fun ρ1 h1 => Wp (b ρ1 h1) fun r h2 => match r.1 with | .nx => I (i + 1) r.2 h2 | .ct => I (i + 1) r.2 h2 | .bk => Q (.nx, r.2) h2 | .rt d => Q (.rt d, r.2) h2)
    (done : ∀ ρ h, I xs.length ρ h → chk h = true ∧ Q (.nx, ρ) h) : Wp (forL chk g b xs ρ h) Q := forL_inv xs I turn done xs 0 ρ h rfl (Nat.zero_le _) h0
theorem lcL_inv {chk : MH → Bool} {g : MG} {t : MT} {e : ME} {ρ0 : Ro} {n : Nat} {Q : D → MH → Prop} (all : List D) (I : Nat → MH → Prop)
    (turn : ∀ i h x, all[i]? = some x → I i h → chk h = true ∧ Wp (g x ρ0 h) fun ρ1 h => Wp (t ρ1 h) fun b h => if b = true then Wp (e ρ1 h) fun y h => ∃ acc, h[n]? = some (.lst acc) ∧ acc.length < sizeLine ∧ I (i + 1) (h.set n (.lst (acc ++ [y]))) else I (i + 1) h)
    (done : ∀ h, I all.length h → chk h = true ∧ Q (.ref n) h) : ∀ (xs : List D) (i : Nat) (h : MH), all.drop i = xs → i ≤ all.length → I i h → Wp (lcL chk g t e ρ0 n xs h) Q
  | [], i, h, e, hl, hi => by
    have : i = all.length := by
      have := congrArg List.length e
      rw [List.length_drop, List.length_nil] at this
      omega
    subst this
    obtain ⟨h1, h2⟩ := done h hi
    rw [lcL, if_pos h1]; exact h2
  | x :: xs, i, h, e, hl, hi => by
    have hlt : i < all.length := by
      have := congrArg List.length e
      rw [List.length_drop, List.length_cons] at this
      omega
    have hx : all[i]? = some x ∧ all.drop (i + 1) = xs := by
      rw [List.drop_eq_getElem_cons hlt] at e
      injection e with e1 e2
      exact ⟨by rw [List.getElem?_eq_getElem hlt, e1], e2⟩
    obtain ⟨h1, h2⟩ := turn i h x hx.1 hi
    rw [lcL, if_pos h1, Wp_bind]
    refine h2.mono fun ρ1 h1 q => ?_
    rw [Wp_bind, Wp_nox]
    refine q.mono fun b h2 q => ?_
    cases b with
    | false =>
      rw [if_neg Bool.false_ne_true] at q
      exact lcL_inv all I turn done xs (i + 1) h2 hx.2 hlt q
    | true =>
      rw [if_pos rfl] at q
      rw [if_pos rfl, Wp_bind, Wp_nox]
      refine q.mono fun y h3 q => ?_
      obtain ⟨acc, e1, e2, q⟩ := q
      rw [e1]
      simp only
      rw [if_pos e2]
      exact lcL_inv all I turn done xs (i + 1) _ hx.2 hlt q
theorem lcL_wp {chk : MH → Bool} {g : MG} {t : MT} {e : ME} {ρ0 : Ro} {n : Nat} {Q : D → MH → Prop} {xs : List D} {h : MH} (I : Nat → MH → Prop) (h0 : I 0 h)
    (turn : ∀ i h x, xs[i]? = some x → I i h → chk h = true ∧ Wp (g x ρ0 h) fun ρ1 h => Wp (t ρ1 h) fun b h => if b = true then Wp (e ρ1 h) fun y h => ∃ acc, h[n]? = some (.lst acc) ∧ acc.length < sizeLine ∧ I (i + 1) (h.set n (.lst (acc ++ [y]))) else I (i + 1) h)
    (done : ∀ h, I xs.length h → chk h = true ∧ Q (.ref n) h) : Wp (lcL chk g t e ρ0 n xs h) Q := lcL_inv xs I turn done xs 0 h rfl (Nat.zero_le _) h0
/-! the heap behind some objects -/
theorem getE {h l : MH} {k : Nat} : (h ++ l)[h.length + k]? = l[k]? := by rw [List.getElem?_append_right (Nat.le_add_right _ _), Nat.add_sub_cancel_left]
theorem getE0 {h l : MH} : (h ++ l)[h.length]? = l[0]? := by rw [List.getElem?_append_right (Nat.le_refl _), Nat.sub_self]
theorem setE {h l : MH} {k : Nat} {o : Ob} : (h ++ l).set (h.length + k) o = h ++ l.set k o := by rw [List.set_append_right _ _ (Nat.le_add_right _ _), Nat.add_sub_cancel_left]
theorem setE0 {h l : MH} {o : Ob} : (h ++ l).set h.length o = h ++ l.set 0 o := by rw [List.set_append_right _ _ (Nat.le_refl _), Nat.sub_self]
theorem getP {h l : MH} {n : Nat} {o : Ob} (e : h[n]? = some o) : (h ++ l)[n]? = some o := by
  rw [List.getElem?_append_left (List.getElem?_eq_some_iff.mp e).1]; exact e
/-! draws -/
structure DrawAt (h : MH) (n : Nat) : Prop where
  ex : ∃ (m : Nat) (cs : List Int) (idx cur seed : Int), h[n]? = some (.lst [.ref m, .int idx, .int cur, .int seed]) ∧ h[m]? = some (.lst (cs.map .int)) ∧ -1 ≤ idx ∧ m < n
/-- a draw: the draw's object alone has turned -/
structure Drawn1 (h h' : MH) (n : Nat) : Prop where
  at_ : DrawAt h' n
  len : h'.length = h.length
  rest : ∀ i, i ≠ n → h'[i]? = h[i]?
end Mir
namespace Mir
open PySem L2
def takeS : MS :=
  (seqS (ifS (testM (binM (compD .Eq) (binM ixD (varM 0) (cM (.int 2))) (cM (.int 0)))) (seqS (asgS (binM (binD .Add) (binM ixD (varM 0) (cM (.int 1))) (cM (.int 1))) (subG (varM 0) (cM (.int 1))))
    (seqS (ifS (testM (binM (compD .Lt) (binM ixD (varM 0) (cM (.int 1))) (callM (bltD "len") (argsE [binM ixD (varM 0) (cM (.int 0))])))) (seqS (asgS (binM ixD (binM ixD (varM 0) (cM (.int 0))) (binM ixD (varM 0) (cM (.int 1)))) (subG (varM 0) (cM (.int 2))))
      nxS) nxS)
    (seqS (ifS (testM (binM (compD .Eq) (binM ixD (varM 0) (cM (.int 2))) (cM (.int 0)))) (seqS (asgS (binM (binD .Mod) (callM (tyD "int") (argsE [binM (binD .Add) (binM (binD .Mult) (binM ixD (varM 0) (cM (.int 3))) (cM (.int 48271))) (cM (.int 11))])) (cM (.int 2147483647))) (subG (varM 0) (cM (.int 3))))
      (seqS (asgS (binM ixD (varM 0) (cM (.int 3))) (subG (varM 0) (cM (.int 2))))
      nxS)) nxS)
    nxS))) nxS)
  (seqS (setS 2 (binM (binD .Mod) (callM (tyD "int") (argsE [binM ixD (varM 0) (cM (.int 2))])) (varM 1)))
  (seqS (asgS (binM (binD .FloorDiv) (binM ixD (varM 0) (cM (.int 2))) (varM 1)) (subG (varM 0) (cM (.int 2))))
  (seqS (retS (varM 2))
  nxS))))
/-- reading and storing in the draw's list -/
theorem ixD_lst {h : MH} {n : Nat} {ds : List D} {i : Int} {d : D} (e : h[n]? = some (.lst ds)) (hi : atI ds i = some d) : ixD (.ref n) (.int i) h = .ok d h := by
  simp only [ixD, ixO, e, hi]
theorem setK_lst {h : MH} {n : Nat} {ds : List D} {i : Int} {j : Nat} {v : D} (e : h[n]? = some (.lst ds)) (hi : ixN ds.length i = some j) : setK (.ref n) (.int i) v h = .ok () (h.set n (.lst (ds.set j v))) := by
  simp only [setK, setI, e, hi]
theorem get_set {h : MH} {n : Nat} {o o' : Ob} (e : h[n]? = some o) : (h.set n o')[n]? = some o' := by
  rw [List.getElem?_set_self (List.getElem?_eq_some_iff.mp e).1]
theorem get_set_ne {h : MH} {n m : Nat} {o' : Ob} (e : m ≠ n) : (h.set n o')[m]? = h[m]? := List.getElem?_set_ne (Ne.symm e)
theorem take_ok {N : List Str} {h : MH} {n : Nat} {many : Int} (hN : N.length = 3) (hd : DrawAt h n) (h0 : 0 < many) (h1 : many < 2 ^ 64) : Wp (runB takeS N [.ref n, .int many] h) fun v h' => ∃ i, v = .int i ∧ 0 ≤ i ∧ i < many ∧ Drawn1 h h' n := by
  obtain ⟨m, cs, idx, cur, seed, e1, e2, hx, hmn⟩ := hd
  have ne : m ≠ n := by
    intro z; subst z; rw [e1] at e2
    have := Ob.lst.inj (Option.some.inj e2)
    cases cs <;> simp at this
  have a0 : ∀ a b c d : D, atI [a, b, c, d] (0 : Int) = some a := fun _ _ _ _ => rfl
  have a1 : ∀ a b c d : D, atI [a, b, c, d] (1 : Int) = some b := fun _ _ _ _ => rfl
  have a2 : ∀ a b c d : D, atI [a, b, c, d] (2 : Int) = some c := fun _ _ _ _ => rfl
  have a3 : ∀ a b c d : D, atI [a, b, c, d] (3 : Int) = some d := fun _ _ _ _ => rfl
  have g1 : ∀ o, (h.set n o)[n]? = some o := fun o => get_set e1
  have g2 : ∀ o, (h.set n o)[m]? = some (Ob.lst (cs.map .int)) := fun o => by rw [get_set_ne ne]; exact e2
  have k1 : ixN 4 (1 : Int) = some 1 := rfl
  have k2 : ixN 4 (2 : Int) = some 2 := rfl
  have k3 : ixN 4 (3 : Int) = some 3 := rfl
  have fin : ∀ (idx' cur' seed' : Int), -1 ≤ idx' → Drawn1 h (h.set n (Ob.lst [.ref m, .int idx', .int cur', .int seed'])) n := fun idx' cur' seed' hx' =>
    ⟨⟨m, cs, idx', cur', seed', g1 _, g2 _, hx', hmn⟩, List.length_set, fun i hi => get_set_ne hi⟩
  have hm0 : ∀ i : Int, 0 ≤ i % many := fun i => Int.emod_nonneg i (by omega)
  have hm1 : ∀ i : Int, i % many < many := fun i => Int.emod_lt_of_pos i h0
  have hz : ∀ c : Int, -1 ≤ c → ¬ (c + 1 < cs.length) ∨ ∃ x, atI (cs.map D.int) (c + 1) = some (.int x) := fun c hc => by
    by_cases q : c + 1 < cs.length
    · right
      unfold atI ixN
      rw [List.length_map, if_pos (by omega), if_pos q]
      simp only [Option.bind_some, List.getElem?_map]
      rw [List.getElem?_eq_getElem (by omega)]
      exact ⟨_, rfl⟩
    · exact .inl q
  have mc : mulC seed 48271 = true := by
    unfold mulC
    simp
  have dm : decide (0 < many) = true := decide_eq_true h0
  have d2 : decide (many < 2 ^ 64) = true := decide_eq_true h1
  have d3 : decide ((0 : Int) < 2147483647) = true := rfl
  by_cases c0 : cur = 0
  · subst c0
    rcases hz idx hx with q | ⟨x, q⟩
    · simp only [runB, startD, hN, resF, takeS, seqS, nxS, ifS, testM, binM, compD, cM, varM, asgS, subG, setK, setI, setS, retS, callM, argsE, nilM, consM, bltD, tyD, lenO, ixD, ixO, e1, e2, g1, g2, a0, a1, a2, a3, bind_ok, eqD, eqO, scalD, ltD, binD, addD, mulD, modD, divD, intD, List.map_cons, List.map_nil, List.cons_append, List.nil_append, List.getElem?_cons_zero, List.getElem?_cons_succ, List.length_cons, List.length_nil, List.replicate, k1, k2, k3, if_true, List.set_cons_zero, List.set_cons_succ, List.set_set, List.length_map, decide_true, decide_false, if_false, Bool.false_eq_true, mc, dm, d2, Wp_ok, eq_self, Bool.and_true, Bool.true_and, d3, q]
      exact ⟨_, rfl, hm0 _, hm1 _, fin _ _ _ (by omega)⟩
    · have q' : idx + 1 < cs.length := by
        unfold atI ixN at q
        rw [List.length_map, if_pos (by omega)] at q
        split at q
        · assumption
        · cases q
      by_cases x0 : x = 0
      · subst x0
        simp only [runB, startD, hN, resF, takeS, seqS, nxS, ifS, testM, binM, compD, cM, varM, asgS, subG, setK, setI, setS, retS, callM, argsE, nilM, consM, bltD, tyD, lenO, ixD, ixO, e1, e2, g1, g2, a0, a1, a2, a3, bind_ok, eqD, eqO, scalD, ltD, binD, addD, mulD, modD, divD, intD, List.map_cons, List.map_nil, List.cons_append, List.nil_append, List.getElem?_cons_zero, List.getElem?_cons_succ, List.length_cons, List.length_nil, List.replicate, k1, k2, k3, if_true, List.set_cons_zero, List.set_cons_succ, List.set_set, List.length_map, decide_true, decide_false, if_false, Bool.false_eq_true, mc, dm, d2, Wp_ok, eq_self, Bool.and_true, Bool.true_and, d3, q, q']
        exact ⟨_, rfl, hm0 _, hm1 _, fin _ _ _ (by omega)⟩
      · simp only [runB, startD, hN, resF, takeS, seqS, nxS, ifS, testM, binM, compD, cM, varM, asgS, subG, setK, setI, setS, retS, callM, argsE, nilM, consM, bltD, tyD, lenO, ixD, ixO, e1, e2, g1, g2, a0, a1, a2, a3, bind_ok, eqD, eqO, scalD, ltD, binD, addD, mulD, modD, divD, intD, List.map_cons, List.map_nil, List.cons_append, List.nil_append, List.getElem?_cons_zero, List.getElem?_cons_succ, List.length_cons, List.length_nil, List.replicate, k1, k2, k3, if_true, List.set_cons_zero, List.set_cons_succ, List.set_set, List.length_map, decide_true, decide_false, if_false, Bool.false_eq_true, mc, dm, d2, Wp_ok, eq_self, Bool.and_true, Bool.true_and, d3, q, q', x0]
        exact ⟨_, rfl, hm0 _, hm1 _, fin _ _ _ (by omega)⟩
  · simp only [runB, startD, hN, resF, takeS, seqS, nxS, ifS, testM, binM, compD, cM, varM, asgS, subG, setK, setI, setS, retS, callM, argsE, nilM, consM, bltD, tyD, lenO, ixD, ixO, e1, e2, g1, g2, a0, a1, a2, a3, bind_ok, eqD, eqO, scalD, ltD, binD, addD, mulD, modD, divD, intD, List.map_cons, List.map_nil, List.cons_append, List.nil_append, List.getElem?_cons_zero, List.getElem?_cons_succ, List.length_cons, List.length_nil, List.replicate, k1, k2, k3, if_true, List.set_cons_zero, List.set_cons_succ, List.set_set, List.length_map, decide_true, decide_false, if_false, Bool.false_eq_true, mc, dm, d2, Wp_ok, eq_self, Bool.and_true, Bool.true_and, d3, c0]
    exact ⟨_, rfl, hm0 _, hm1 _, fin _ _ _ hx⟩

def drawS : MS :=
  (seqS (setS 1 (cM (.int 7)))
  (seqS (forS (seqI (varM 0)) (nameG 2) (seqS (setS 1 (binM (binD .Mod) (callM (tyD "int") (argsE [binM (binD .Add) (binM (binD .Add) (binM (binD .Mult) (varM 1) (cM (.int 48271))) (binM (binD .Mod) (callM (bltD "abs") (argsE [callM (tyD "int") (argsE [varM 2])])) (cM (.int 65521)))) (cM (.int 1))])) (cM (.int 2147483647))))
    nxS))
  (seqS (retS (lstM (argsE [lcM [2] (seqI (varM 0)) (nameG 2) (yesT) (callM (bltD "abs") (argsE [callM (tyD "int") (argsE [varM 2])])), unM negD (cM (.int 1)), cM (.int 0), varM 1])))
  nxS)))
theorem seq_ok {a b : MS} {ρ ρ' : Ro} {h h' : MH} (e : a ρ h = .ok (.nx, ρ') h') : seqS a b ρ h = b ρ' h' := by unfold seqS; rw [e]; rfl
theorem Wp_seq {a b : MS} {ρ : Ro} {h : MH} {Q : Fl × Ro → MH → Prop} (R : Ro → MH → Prop) (e : Wp (a ρ h) fun r h' => r.1 = .nx ∧ R r.2 h') (q : ∀ ρ' h', R ρ' h' → Wp (b ρ' h') Q) : Wp (seqS a b ρ h) Q := by
  rw [Wp_seqS]
  refine e.mono fun r h' ⟨e1, e2⟩ => ?_
  obtain ⟨f, ρ'⟩ := r
  simp only at e1
  subst e1
  exact q _ _ e2
theorem draw_ok {N : List Str} {h : MH} {ns : List Int} (hN : N.length = 3) (hl : ns.length ≤ 63) : Wp (runB drawS N [.wl (ns.map .int)] h) fun v h' => ∃ n, v = .ref n ∧ DrawAt h' n := by
  have d1 : decide ((0 : Int) < 65521) = true := rfl
  have d2 : decide ((0 : Int) < 2147483647) = true := rfl
  have mc : ∀ s : Int, mulC s 48271 = true := fun s => by unfold mulC; simp
  unfold runB
  rw [Wp_resF]
  simp only [startD, hN, List.map_cons, List.map_nil, List.length_cons, List.length_nil, List.replicate, List.cons_append, List.nil_append]
  unfold drawS
  rw [seq_ok (ρ' := [some (.wl (ns.map .int)), some (.int 7), none]) (h' := h) (by simp only [setS, cM, bind_ok, List.set_cons_zero, List.set_cons_succ])]
  refine Wp_seq (fun ρ' h' => ∃ s c, ρ' = [some (.wl (ns.map .int)), some (.int s), c] ∧ h = h') ?_ ?_
  · unfold forS
    rw [Wp_bind]
    simp only [seqI, varM, List.getElem?_cons_zero, bind_ok, Wp_ok]
    refine forL_wp (fun i ρ h' => ∃ s c, ρ = [some (.wl (ns.map .int)), some (.int s), c] ∧ h = h') ⟨7, none, rfl, rfl⟩ ?_ ?_
    · rintro i ρ h' x hx ⟨s, c, rfl, rfl⟩
      rw [List.getElem?_map] at hx
      obtain ⟨z, hz, rfl⟩ := Option.map_eq_some_iff.mp hx
      refine ⟨rfl, ?_⟩
      simp only [nameG, Wp_ok, List.set_cons_zero, List.set_cons_succ, seqS, setS, nxS, binM, binD, callM, argsE, consM, nilM, tyD, bltD, varM, cM, bind_ok, List.getElem?_cons_zero, List.getElem?_cons_succ, mulD, modD, addD, intD, mc, d1, d2, if_true]
      simp [mc, bind_ok, Wp_ok, List.set_cons_zero, List.set_cons_succ, -Int.emod_emod_of_dvd]
    · rintro ρ h' ⟨s, c, rfl, rfl⟩
      exact ⟨rfl, rfl, s, c, rfl, rfl⟩
  · rintro ρ' h' ⟨s, c, rfl, rfl⟩
    rw [Wp_seqS]
    simp only [retS, lstM, argsE, consM, nilM, unM, lcM, seqI, varM, cM, bind_ok, Wp_bind, List.getElem?_cons_zero, Wp_ok, wipeD, List.set_cons_zero, List.set_cons_succ, negD, List.getElem?_cons_succ]
    refine lcL_wp (fun i h' => h' = h ++ [.lst ((ns.take i).map fun c => .int (if c < 0 then -c else c))]) rfl ?_ ?_
    · rintro i h' x hx rfl
      rw [List.getElem?_map] at hx
      obtain ⟨z, hz, rfl⟩ := Option.map_eq_some_iff.mp hx
      have hi : i < ns.length := (List.getElem?_eq_some_iff.mp hz).1
      refine ⟨rfl, ?_⟩
      simp only [nameG, Wp_ok, yesT, if_true, callM, argsE, consM, nilM, tyD, bltD, varM, bind_ok, List.getElem?_cons_zero, List.getElem?_cons_succ, List.set_cons_zero, List.set_cons_succ]
      simp only [if_true, if_false, String.reduceEq, bind_ok, Wp_ok]
      refine ⟨_, getE0, ?_, ?_⟩
      · rw [List.length_map, List.length_take]
        have : (64 : Nat) < sizeLine := by rw [sizeLine_eq]; decide
        omega
      · rw [setE0, List.take_succ, hz]
        simp
    · rintro h' rfl
      refine ⟨rfl, ?_⟩
      have hz : 0 + 1 + 1 + 1 + 1 ≤ sizeLine := by rw [sizeLine_eq]; decide
      simp only [List.length_cons, List.length_nil, hz, if_true, Wp_ok, Wp_bind, bind_ok]
      refine ⟨_, rfl, h.length, ns.map (fun c => if c < 0 then -c else c), -1, 0, s, ?_, ?_, Int.le_refl _, ?_⟩
      · simp
      · simp [List.take_length]
      · simp
end Mir
namespace Mir
open PySem L2
/-! ### a comprehension whose parts leave the heap alone; a loop that looks for a fault -/
theorem lcL_pure {chk : MH → Bool} {g : MG} {t : MT} {e : ME} {ρ0 : Ro} {h : MH} {rx : D → Ro} {p : D → Bool} {f : D → D} : ∀ (xs acc : List D),
    (∀ acc, chk (h ++ [.lst acc]) = true) → (∀ x ∈ xs, ∀ h', g x ρ0 h' = .ok (rx x) h') → (∀ x ∈ xs, ∀ acc, t (rx x) (h ++ [.lst acc]) = .ok (p x) (h ++ [.lst acc])) →
    (∀ x ∈ xs, p x = true → ∀ acc, e (rx x) (h ++ [.lst acc]) = .ok (f x) (h ++ [.lst acc])) → acc.length + xs.length ≤ sizeLine →
    lcL chk g t e ρ0 h.length xs (h ++ [.lst acc]) = .ok (.ref h.length) (h ++ [.lst (acc ++ (xs.filter p).map f)])
  | [], acc, hc, _, _, _, _ => by rw [lcL, if_pos (hc _)]; simp
  | x :: xs, acc, hc, hg, ht, he, hl => by
    have hl' : acc.length + 1 + xs.length ≤ sizeLine := by rw [List.length_cons] at hl; omega
    rw [lcL, if_pos (hc _), hg x List.mem_cons_self, bind_ok, ht x List.mem_cons_self, nox_ok, bind_ok]
    cases hp : p x with
    | false =>
      rw [if_neg Bool.false_ne_true, lcL_pure xs acc hc (fun y hy => hg y (List.mem_cons_of_mem _ hy)) (fun y hy => ht y (List.mem_cons_of_mem _ hy)) (fun y hy => he y (List.mem_cons_of_mem _ hy)) (by omega), List.filter_cons_of_neg (by rw [hp]; simp)]
    | true =>
      have hlt : acc.length < sizeLine := by omega
      rw [if_pos rfl, he x List.mem_cons_self hp, nox_ok, bind_ok, getE0]
      show (if acc.length < sizeLine then _ else _) = _
      rw [if_pos hlt, setE0]
      show lcL chk g t e ρ0 h.length xs (h ++ [.lst (acc ++ [f x])]) = _
      rw [lcL_pure xs (acc ++ [f x]) hc (fun y hy => hg y (List.mem_cons_of_mem _ hy)) (fun y hy => ht y (List.mem_cons_of_mem _ hy)) (fun y hy => he y (List.mem_cons_of_mem _ hy)) (by rw [List.length_append]; exact hl'), List.filter_cons_of_pos hp, List.map_cons, List.append_assoc]
      rfl
theorem lc_pure {vs : List Nat} {m : MI} {chk : MH → Bool} {g : MG} {t : MT} {e : ME} {ρ : Ro} {h : MH} {xs : List D} (rx : D → Ro) (p : D → Bool) (f : D → D) (hm : m ρ h = .ok (xs, chk) h)
    (hc : ∀ acc, chk (h ++ [.lst acc]) = true) (hg : ∀ x ∈ xs, ∀ h', g x (wipeD ρ vs) h' = .ok (rx x) h') (ht : ∀ x ∈ xs, ∀ acc, t (rx x) (h ++ [.lst acc]) = .ok (p x) (h ++ [.lst acc]))
    (he : ∀ x ∈ xs, p x = true → ∀ acc, e (rx x) (h ++ [.lst acc]) = .ok (f x) (h ++ [.lst acc])) (hl : xs.length ≤ sizeLine) : lcM vs m g t e ρ h = .ok (.ref h.length) (h ++ [.lst ((xs.filter p).map f)]) := by
  unfold lcM
  rw [hm, bind_ok]
  have := lcL_pure (chk := chk) (g := g) (t := t) (e := e) (ρ0 := wipeD ρ vs) (h := h) (rx := rx) (p := p) (f := f) xs [] hc hg ht he (by rw [List.length_nil, Nat.zero_add]; exact hl)
  rw [List.nil_append] at this
  exact this
theorem for_all {chk : MH → Bool} {g : MG} {b : MS} {p : D → Bool} {d : D} (I : Ro → MH → Prop) (hc : ∀ ρ h, I ρ h → chk h = true) : ∀ (xs : List D) (ρ : Ro) (h : MH), I ρ h →
    (∀ x ∈ xs, ∀ ρ h, I ρ h → Wp (g x ρ h) fun ρ1 h1 => Wp (b ρ1 h1) fun r h2 => I r.2 h2 ∧ r.1 = if p x = true then .nx else .rt d) →
    Wp (forL chk g b xs ρ h) fun r h' => I r.2 h' ∧ r.1 = if xs.all p = true then .nx else .rt d
  | [], ρ, h, hI, _ => by rw [forL, if_pos (hc _ _ hI)]; exact ⟨hI, rfl⟩
  | x :: xs, ρ, h, hI, st => by
    rw [forL, if_pos (hc _ _ hI), Wp_bind]
    refine (st x List.mem_cons_self ρ h hI).mono fun ρ1 h1 q => ?_
    rw [Wp_bind]
    refine q.mono fun r h2 ⟨q1, q2⟩ => ?_
    obtain ⟨fl, ρ2⟩ := r
    simp only at q1 q2
    subst q2
    cases hp : p x with
    | true =>
      rw [if_pos rfl]
      refine (for_all I hc xs ρ2 h2 q1 fun y hy => st y (List.mem_cons_of_mem _ hy)).mono fun r h3 q => ?_
      rw [List.all_cons, hp, Bool.true_and]; exact q
    | false =>
      rw [if_neg Bool.false_ne_true]
      refine ⟨q1, ?_⟩
      rw [List.all_cons, hp, Bool.false_and]; rfl
/-- the draw's object alone has turned, and what is new lies behind -/
structure Stp (h h' : MH) (n : Nat) : Prop where
  at_ : DrawAt h' n
  len : h.length ≤ h'.length
  rest : ∀ i, i < h.length → i ≠ n → h'[i]? = h[i]?
theorem DrawAt.lt {h : MH} {n : Nat} (d : DrawAt h n) : n < h.length := by
  obtain ⟨m, cs, i, c, s, e1, e2, e3⟩ := d
  exact (List.getElem?_eq_some_iff.mp e1).1
theorem Stp.refl {h : MH} {n : Nat} (d : DrawAt h n) : Stp h h n := ⟨d, Nat.le_refl _, fun _ _ _ => rfl⟩
theorem Stp.trans {h h1 h2 : MH} {n : Nat} (a : Stp h h1 n) (b : Stp h1 h2 n) : Stp h h2 n := ⟨b.at_, Nat.le_trans a.len b.len, fun i hi hn => (b.rest i (Nat.lt_of_lt_of_le hi a.len) hn).trans (a.rest i hi hn)⟩
theorem Stp.of {h h' : MH} {n : Nat} (d : Drawn1 h h' n) : Stp h h' n := ⟨d.at_, Nat.le_of_eq d.len.symm, fun i _ hn => d.rest i hn⟩
theorem DrawAt.app {h g : MH} {n : Nat} (d : DrawAt h n) : DrawAt (h ++ g) n := by
  obtain ⟨m, cs, i, c, s, e1, e2, e3⟩ := d
  exact ⟨m, cs, i, c, s, getP e1, getP e2, e3⟩
theorem Stp.app {h h' g : MH} {n : Nat} (d : Stp h h' n) : Stp h (h' ++ g) n := ⟨d.at_.app, by rw [List.length_append]; exact Nat.le_trans d.len (Nat.le_add_right _ _), fun i hi hn => by
  rw [List.getElem?_append_left (Nat.lt_of_lt_of_le hi d.len)]; exact d.rest i hi hn⟩
theorem DrawAt.put {h : MH} {n q : Nat} {o' : Ob} (d : DrawAt h n) (h1 : n < q) : DrawAt (h.set q o') n := by
  obtain ⟨m, cs, i, c, s, e1, e2, e3, e4⟩ := d
  exact ⟨m, cs, i, c, s, by rw [get_set_ne (by omega)]; exact e1, by rw [get_set_ne (by omega)]; exact e2, e3, e4⟩
/-- a new object is written -/
theorem Stp.put {h h' : MH} {n q : Nat} {o' : Ob} (s : Stp h h' n) (hq : h.length ≤ q) (hn : n < h.length) : Stp h (h'.set q o') n :=
  ⟨s.at_.put (by omega), by rw [List.length_set]; exact s.len, fun i hi hne => by rw [get_set_ne (by omega)]; exact s.rest i hi hne⟩
theorem Drawn1.kept {h h' : MH} {n q : Nat} {o : Ob} (d : Drawn1 h h' n) (e : h[q]? = some o) (hq : q ≠ n) : h'[q]? = some o := (d.rest q hq).trans e
theorem Stp.kept {h h' : MH} {n q : Nat} {o : Ob} (d : Stp h h' n) (e : h[q]? = some o) (hq : q ≠ n) : h'[q]? = some o := (d.rest q (List.getElem?_eq_some_iff.mp e).1 hq).trans e
end Mir
namespace Mir
open PySem L2
/-! ### data without references, as a whole -/
structure Py (k : Nat) (d : D) (p : PyData) : Prop where
  to : ∀ h, toPy k h d = some p
  lay : p.canLay0 = true
  dep : p.depth ≤ k
structure Pys (k : Nat) (ds : List D) (ps : List PyData) : Prop where
  to : ∀ h, ds.mapM (toPy k h) = some ps
  lay : PyData.canLayAll0 ps = true
  dep : PyData.depthAll ps ≤ k
theorem Py.int (k : Nat) (i : Int) : Py (k + 1) (.int i) (.int i) := ⟨fun _ => rfl, rfl, by simp [PyData.depth]⟩
theorem Py.str (k : Nat) {x : Str} (h : PyData.strOk x = true) : Py (k + 1) (.str x) (.str x) := ⟨fun _ => rfl, h, by simp [PyData.depth]⟩
theorem Py.tup {k : Nat} {ds : List D} {ps : List PyData} (q : Pys k ds ps) : Py (k + 1) (.tup ds) (.tuple ps) :=
  ⟨fun h => by show (ds.mapM (toPy k h)).map _ = _; rw [q.to h]; rfl, q.lay, by have := q.dep; simp only [PyData.depth]; omega⟩
theorem Pys.nil (k : Nat) : Pys k [] [] := ⟨fun _ => rfl, rfl, by simp [PyData.depthAll]⟩
theorem Pys.cons {k : Nat} {d : D} {p : PyData} {ds : List D} {ps : List PyData} (a : Py k d p) (b : Pys k ds ps) : Pys k (d :: ds) (p :: ps) :=
  ⟨fun h => by rw [List.mapM_cons, a.to h, b.to h]; rfl, by simp only [PyData.canLayAll0, a.lay, b.lay, Bool.and_self], by have := a.dep; have := b.dep; simp only [PyData.depthAll]; omega⟩
theorem Pys.map {α : Type} {k : Nat} {f : α → D} {g : α → PyData} : ∀ {l : List α}, (∀ a ∈ l, Py k (f a) (g a)) → Pys k (l.map f) (l.map g)
  | [], _ => .nil k
  | a :: l, h => .cons (h a List.mem_cons_self) (Pys.map fun b hb => h b (List.mem_cons_of_mem _ hb))
theorem shaped_of {p : PyData} (h1 : p.canLay0 = true) (h2 : p.depth ≤ 64) : SeqAt.shaped p = true := by
  unfold SeqAt.shaped
  rw [h1, decide_eq_true h2]; rfl
theorem eqO_none {x y : D} {p q : PyData} {h : MH} (hs : scalD x y = none) (hx : toPy 12 h x = some p) (hy : toPy 12 h y = some q) (h1 : SeqAt.shaped p = true) (h2 : SeqAt.shaped q = true) : eqO x y h = some (PyData.eqv p q) := by
  have e1 : toPy pyDepth h x = some p := hx
  have e2 : toPy pyDepth h y = some q := hy
  unfold eqO
  rw [hs, e1, e2]
  exact if_pos ⟨h1, h2⟩
theorem eqO_py {x y : D} {p q : PyData} {h : MH} (hs : scalD x y = none) (hx : Py 12 x p) (hy : Py 12 y q) : eqO x y h = some (PyData.eqv p q) := by
  exact eqO_none hs (hx.to h) (hy.to h) (shaped_of hx.lay (by have := hx.dep; omega)) (shaped_of hy.lay (by have := hy.dep; omega))
theorem toPy_lst {h : MH} {a : Nat} {xs : List D} {ps : List PyData} (ha : h[a]? = some (.lst xs)) (q : Pys 11 xs ps) : toPy 12 h (.ref a) = some (.list ps) := by
  show (match h[a]? with | some (.lst ds) => (ds.mapM (toPy 11 h)).map PyData.list | _ => none) = _
  rw [ha]
  show (xs.mapM (toPy 11 h)).map _ = _
  rw [q.to h]; rfl
theorem eqO_lst {h : MH} {a b : Nat} {xs ys : List D} {ps qs : List PyData} (ha : h[a]? = some (.lst xs)) (hb : h[b]? = some (.lst ys)) (hx : Pys 11 xs ps) (hy : Pys 11 ys qs) : eqO (.ref a) (.ref b) h = some (PyData.eqvAll ps qs) := by
  have z := eqO_none (h := h) (x := .ref a) (y := .ref b) rfl (toPy_lst ha hx) (toPy_lst hb hy) (shaped_of (by simpa [PyData.canLay0] using hx.lay) (by have := hx.dep; simp only [PyData.depth]; omega)) (shaped_of (by simpa [PyData.canLay0] using hy.lay) (by have := hy.dep; simp only [PyData.depth]; omega))
  rw [z]; simp only [PyData.eqv]
theorem eqvAll_self {ps : List PyData} {k : Nat} {xs : List D} (q : Pys k xs ps) : PyData.eqvAll ps ps = true := SeqAt.eqvAll_refl ps q.lay
theorem eqv_self {p : PyData} {k : Nat} {x : D} (q : Py k x p) : PyData.eqv p p = true := SeqAt.eqv_refl p q.lay
theorem eqvAll_nil : ∀ ps : List PyData, PyData.eqvAll ps [] = ps.isEmpty
  | [] => rfl
  | _ :: _ => rfl
theorem Pys.len {k : Nat} {xs : List D} {ps : List PyData} (q : Pys k xs ps) : ps.isEmpty = xs.isEmpty := by
  have := q.to []
  cases xs with
  | nil => cases this; rfl
  | cons x xs =>
    rw [List.mapM_cons] at this
    cases h1 : toPy k [] x with
    | none => rw [h1] at this; cases this
    | some p =>
      rw [h1] at this
      cases h2 : xs.mapM (toPy k []) with
      | none => simp [h2] at this
      | some r => simp [h2] at this; rw [← this]; rfl
end Mir
namespace Law
open PySem L2 Mir
def top (i : Nat) : Stmt := PySem.Challenge.pw_ownanswer_k00_octets_and_texts.main.body.getD i (.Pass ⟨0, 0, 0, 0⟩)
def v_SIGNS : D := .str (PySem.Str.ofString " !\"#$&'()*+,-./0123456789:;<=>?@ABCDEFGHIJKLMNOPQRSTUVWXYZ[\\]^_`abcdefghijklmnopqrstuvwxyz{|}~")
def v_TOKEN_MARKS : D := .str (PySem.Str.ofString "!#$&'*+-.^_|~`")
def v_PERCENT : D := .int 37
def v_TAB : D := .int 9
def glL : List (Str × GV) := [("SIGNS", .val v_SIGNS), ("TOKEN_MARKS", .val v_TOKEN_MARKS), ("PERCENT", .val v_PERCENT), ("TAB", .val v_TAB), ("is_value_sign", .fn 1), ("sign_of", .fn 1), ("to_octets", .fn 1), ("to_text", .fn 1), ("is_digit", .fn 1), ("is_letter", .fn 1), ("is_token_sign", .fn 1), ("is_token", .fn 1), ("lower_octet", .fn 1), ("lower", .fn 1), ("hex_digit", .fn 1), ("values", .fn 2), ("without", .fn 2), ("joined", .fn 1), ("_law_draw", .fn 1), ("_law_take", .fn 2), ("_law_joined", .fn 1), ("_law_word", .fn 2), ("_law_text", .fn 1), ("_law_fields", .fn 2), ("_law_signs_right", .fn 1), ("_law_events", .fn 1), ("law", .fn 1)]
def d_is_value_sign : Df := ⟨"is_value_sign", top 5, ["octet"], 1⟩
def d_sign_of : Df := ⟨"sign_of", top 6, ["octet"], 1⟩
def d_to_octets : Df := ⟨"to_octets", top 7, ["text", "sign"], 1⟩
def d_to_text : Df := ⟨"to_text", top 8, ["octets", "octet"], 1⟩
def d_is_digit : Df := ⟨"is_digit", top 9, ["octet"], 1⟩
def d_is_letter : Df := ⟨"is_letter", top 10, ["octet"], 1⟩
def d_is_token_sign : Df := ⟨"is_token_sign", top 11, ["octet"], 1⟩
def d_is_token : Df := ⟨"is_token", top 12, ["text", "sign"], 1⟩
def d_lower_octet : Df := ⟨"lower_octet", top 13, ["octet"], 1⟩
def d_lower : Df := ⟨"lower", top 14, ["text"], 1⟩
def d_hex_digit : Df := ⟨"hex_digit", top 15, ["octet", "small"], 1⟩
def d_values : Df := ⟨"values", top 16, ["fields", "name", "key", "value"], 2⟩
def d_without : Df := ⟨"without", top 17, ["fields", "names", "field"], 2⟩
def d_joined : Df := ⟨"joined", top 18, ["events", "found", "event"], 1⟩
def d__law_draw : Df := ⟨"_law_draw", top 20, ["_law_script", "_law_seed", "_law_cell"], 1⟩
def d__law_take : Df := ⟨"_law_take", top 21, ["_law_draw_here", "_law_many", "_law_found"], 2⟩
def d__law_joined : Df := ⟨"_law_joined", top 22, ["_law_events_here", "_law_found", "_law_event"], 1⟩
def d__law_word : Df := ⟨"_law_word", top 23, ["_law_draw_here", "_law_most", "_law_signs", "_law_k"], 2⟩
def d__law_text : Df := ⟨"_law_text", top 24, ["_law_draw_here", "_law_signs", "_law_k"], 1⟩
def d__law_fields : Df := ⟨"_law_fields", top 25, ["_law_draw_here", "_law_most", "_law_names", "_law_rows", "_law_k", "_law_name"], 2⟩
def d__law_signs_right : Df := ⟨"_law_signs_right", top 26, ["_law_draw_here", "_law_octet", "_law_letters", "_law_digit", "_law_token", "_law_value", "_law_due", "_law_text_here"], 1⟩
def d__law_events : Df := ⟨"_law_events", top 27, ["_law_draw_here", "_law_events_here", "_law_k"], 1⟩
def d_law : Df := ⟨"law", top 28, ["_law_script", "_law_draw_here", "_law_turn", "_law_row", "_law_text_here", "_law_bad", "_law_word_here", "_law_marks", "_law_plain", "_law_fields_here", "_law_names", "_law_name", "_law_events_here", "_law_before", "_law_k", "_law_octet", "_law_sign"], 1⟩
def defs : List Df := [d_is_value_sign, d_sign_of, d_to_octets, d_to_text, d_is_digit, d_is_letter, d_is_token_sign, d_is_token, d_lower_octet, d_lower, d_hex_digit, d_values, d_without, d_joined, d__law_draw, d__law_take, d__law_joined, d__law_word, d__law_text, d__law_fields, d__law_signs_right, d__law_events, d_law]
def R : Nat → Str → List D → MH → Res D := runsOf (glOf glL) defs
/- is_value_sign: 0 octet -/
def s_is_value_sign (R : Str → List D → MH → Res D) : MS :=
  (seqS (retS (orMs [binM (compD .Eq) (varM 0) (cM v_TAB), andMs [chainM (compD .LtE) (compD .LtE) (cM (.int 32)) (varM 0) (cM (.int 126)), binM (compD .NotEq) (varM 0) (cM v_PERCENT)]]))
  nxS)
theorem e_is_value_sign (R : Str → List D → MH → Res D) : bodyS ⟨glOf glL, R, false⟩ d_is_value_sign.N (defScope d_is_value_sign.st) (defBody d_is_value_sign.st) = s_is_value_sign R := by kernel_rfl
theorem sc_is_value_sign : scC d_is_value_sign.N d_is_value_sign.np (defScope d_is_value_sign.st) = true := by decide +kernel
theorem r_is_value_sign (n : Nat) (ds : List D) (h : MH) : R (n + 1) "is_value_sign" ds h = runB (s_is_value_sign (R n)) d_is_value_sign.N ds h := by
  rw [← e_is_value_sign]; kernel_rfl
/- sign_of: 0 octet -/
def s_sign_of (R : Str → List D → MH → Res D) : MS :=
  (seqS (ifS (testM (binM (compD .Eq) (varM 0) (cM v_TAB))) (seqS (retS (cM (.str (PySem.Str.ofString "\t"))))
    nxS) nxS)
  (seqS (ifS (testM (binM (compD .Lt) (varM 0) (cM v_PERCENT))) (seqS (retS (binM ixD (cM v_SIGNS) (binM (binD .Sub) (varM 0) (cM (.int 32)))))
    nxS) nxS)
  (seqS (retS (binM ixD (cM v_SIGNS) (binM (binD .Sub) (varM 0) (cM (.int 33)))))
  nxS)))
theorem e_sign_of (R : Str → List D → MH → Res D) : bodyS ⟨glOf glL, R, false⟩ d_sign_of.N (defScope d_sign_of.st) (defBody d_sign_of.st) = s_sign_of R := by kernel_rfl
theorem sc_sign_of : scC d_sign_of.N d_sign_of.np (defScope d_sign_of.st) = true := by decide +kernel
theorem r_sign_of (n : Nat) (ds : List D) (h : MH) : R (n + 1) "sign_of" ds h = runB (s_sign_of (R n)) d_sign_of.N ds h := by
  rw [← e_sign_of]; kernel_rfl
/- to_octets: 0 text, 1 sign -/
def s_to_octets (R : Str → List D → MH → Res D) : MS :=
  (seqS (retS (callM (tyD "tuple") (argsE [lcM [1] (seqI (varM 0)) (nameG 1) (yesT) (callM (bltD "ord") (argsE [varM 1]))])))
  nxS)
theorem e_to_octets (R : Str → List D → MH → Res D) : bodyS ⟨glOf glL, R, false⟩ d_to_octets.N (defScope d_to_octets.st) (defBody d_to_octets.st) = s_to_octets R := by kernel_rfl
theorem sc_to_octets : scC d_to_octets.N d_to_octets.np (defScope d_to_octets.st) = true := by decide +kernel
theorem r_to_octets (n : Nat) (ds : List D) (h : MH) : R (n + 1) "to_octets" ds h = runB (s_to_octets (R n)) d_to_octets.N ds h := by
  rw [← e_to_octets]; kernel_rfl
/- to_text: 0 octets, 1 octet -/
def s_to_text (R : Str → List D → MH → Res D) : MS :=
  (seqS (forS (seqI (varM 0)) (nameG 1) (seqS (ifS (notT (truM (callN 1 (R "is_value_sign") (argsE [varM 1])))) (seqS (retS (cM (.non)))
      nxS) nxS)
    nxS))
  (seqS (retS (bmE "join" (cM (.str (PySem.Str.ofString ""))) (argsE [lcM [1] (seqI (varM 0)) (nameG 1) (yesT) (callN 1 (R "sign_of") (argsE [varM 1]))])))
  nxS))
theorem e_to_text (R : Str → List D → MH → Res D) : bodyS ⟨glOf glL, R, false⟩ d_to_text.N (defScope d_to_text.st) (defBody d_to_text.st) = s_to_text R := by kernel_rfl
theorem sc_to_text : scC d_to_text.N d_to_text.np (defScope d_to_text.st) = true := by decide +kernel
theorem r_to_text (n : Nat) (ds : List D) (h : MH) : R (n + 1) "to_text" ds h = runB (s_to_text (R n)) d_to_text.N ds h := by
  rw [← e_to_text]; kernel_rfl
/- is_digit: 0 octet -/
def s_is_digit (R : Str → List D → MH → Res D) : MS :=
  (seqS (retS (chainM (compD .LtE) (compD .LtE) (cM (.int 48)) (varM 0) (cM (.int 57))))
  nxS)
theorem e_is_digit (R : Str → List D → MH → Res D) : bodyS ⟨glOf glL, R, false⟩ d_is_digit.N (defScope d_is_digit.st) (defBody d_is_digit.st) = s_is_digit R := by kernel_rfl
theorem sc_is_digit : scC d_is_digit.N d_is_digit.np (defScope d_is_digit.st) = true := by decide +kernel
theorem r_is_digit (n : Nat) (ds : List D) (h : MH) : R (n + 1) "is_digit" ds h = runB (s_is_digit (R n)) d_is_digit.N ds h := by
  rw [← e_is_digit]; kernel_rfl
/- is_letter: 0 octet -/
def s_is_letter (R : Str → List D → MH → Res D) : MS :=
  (seqS (retS (orMs [chainM (compD .LtE) (compD .LtE) (cM (.int 65)) (varM 0) (cM (.int 90)), chainM (compD .LtE) (compD .LtE) (cM (.int 97)) (varM 0) (cM (.int 122))]))
  nxS)
theorem e_is_letter (R : Str → List D → MH → Res D) : bodyS ⟨glOf glL, R, false⟩ d_is_letter.N (defScope d_is_letter.st) (defBody d_is_letter.st) = s_is_letter R := by kernel_rfl
theorem sc_is_letter : scC d_is_letter.N d_is_letter.np (defScope d_is_letter.st) = true := by decide +kernel
theorem r_is_letter (n : Nat) (ds : List D) (h : MH) : R (n + 1) "is_letter" ds h = runB (s_is_letter (R n)) d_is_letter.N ds h := by
  rw [← e_is_letter]; kernel_rfl
/- is_token_sign: 0 octet -/
def s_is_token_sign (R : Str → List D → MH → Res D) : MS :=
  (seqS (ifS (orTs [truM (callN 1 (R "is_digit") (argsE [varM 0])), truM (callN 1 (R "is_letter") (argsE [varM 0]))]) (seqS (retS (cM (.bl true)))
    nxS) nxS)
  (seqS (retS (andMs [callN 1 (R "is_value_sign") (argsE [varM 0]), binM (compD .In) (callN 1 (R "sign_of") (argsE [varM 0])) (cM v_TOKEN_MARKS)]))
  nxS))
theorem e_is_token_sign (R : Str → List D → MH → Res D) : bodyS ⟨glOf glL, R, false⟩ d_is_token_sign.N (defScope d_is_token_sign.st) (defBody d_is_token_sign.st) = s_is_token_sign R := by kernel_rfl
theorem sc_is_token_sign : scC d_is_token_sign.N d_is_token_sign.np (defScope d_is_token_sign.st) = true := by decide +kernel
theorem r_is_token_sign (n : Nat) (ds : List D) (h : MH) : R (n + 1) "is_token_sign" ds h = runB (s_is_token_sign (R n)) d_is_token_sign.N ds h := by
  rw [← e_is_token_sign]; kernel_rfl
/- is_token: 0 text, 1 sign -/
def s_is_token (R : Str → List D → MH → Res D) : MS :=
  (seqS (ifS (testM (binM (compD .Eq) (varM 0) (cM (.str (PySem.Str.ofString ""))))) (seqS (retS (cM (.bl false)))
    nxS) nxS)
  (seqS (forS (seqI (varM 0)) (nameG 1) (seqS (ifS (notT (truM (callN 1 (R "is_token_sign") (argsE [callM (bltD "ord") (argsE [varM 1])])))) (seqS (retS (cM (.bl false)))
      nxS) nxS)
    nxS))
  (seqS (retS (cM (.bl true)))
  nxS)))
theorem e_is_token (R : Str → List D → MH → Res D) : bodyS ⟨glOf glL, R, false⟩ d_is_token.N (defScope d_is_token.st) (defBody d_is_token.st) = s_is_token R := by kernel_rfl
theorem sc_is_token : scC d_is_token.N d_is_token.np (defScope d_is_token.st) = true := by decide +kernel
theorem r_is_token (n : Nat) (ds : List D) (h : MH) : R (n + 1) "is_token" ds h = runB (s_is_token (R n)) d_is_token.N ds h := by
  rw [← e_is_token]; kernel_rfl
/- lower_octet: 0 octet -/
def s_lower_octet (R : Str → List D → MH → Res D) : MS :=
  (seqS (ifS (testM (chainM (compD .LtE) (compD .LtE) (cM (.int 65)) (varM 0) (cM (.int 90)))) (seqS (retS (binM (binD .Add) (varM 0) (cM (.int 32))))
    nxS) nxS)
  (seqS (retS (varM 0))
  nxS))
theorem e_lower_octet (R : Str → List D → MH → Res D) : bodyS ⟨glOf glL, R, false⟩ d_lower_octet.N (defScope d_lower_octet.st) (defBody d_lower_octet.st) = s_lower_octet R := by kernel_rfl
theorem sc_lower_octet : scC d_lower_octet.N d_lower_octet.np (defScope d_lower_octet.st) = true := by decide +kernel
theorem r_lower_octet (n : Nat) (ds : List D) (h : MH) : R (n + 1) "lower_octet" ds h = runB (s_lower_octet (R n)) d_lower_octet.N ds h := by
  rw [← e_lower_octet]; kernel_rfl
/- lower: 0 text -/
def s_lower (R : Str → List D → MH → Res D) : MS :=
  (seqS (retS (bmE "lower" (varM 0) (argsE [])))
  nxS)
theorem e_lower (R : Str → List D → MH → Res D) : bodyS ⟨glOf glL, R, false⟩ d_lower.N (defScope d_lower.st) (defBody d_lower.st) = s_lower R := by kernel_rfl
theorem sc_lower : scC d_lower.N d_lower.np (defScope d_lower.st) = true := by decide +kernel
theorem r_lower (n : Nat) (ds : List D) (h : MH) : R (n + 1) "lower" ds h = runB (s_lower (R n)) d_lower.N ds h := by
  rw [← e_lower]; kernel_rfl
/- hex_digit: 0 octet, 1 small -/
def s_hex_digit (R : Str → List D → MH → Res D) : MS :=
  (seqS (ifS (truM (callN 1 (R "is_digit") (argsE [varM 0]))) (seqS (retS (binM (binD .Sub) (varM 0) (cM (.int 48))))
    nxS) nxS)
  (seqS (setS 1 (callN 1 (R "lower_octet") (argsE [varM 0])))
  (seqS (ifS (testM (chainM (compD .LtE) (compD .LtE) (cM (.int 97)) (varM 1) (cM (.int 102)))) (seqS (retS (binM (binD .Sub) (varM 1) (cM (.int 87))))
    nxS) nxS)
  (seqS (retS (unM negD (cM (.int 1))))
  nxS))))
theorem e_hex_digit (R : Str → List D → MH → Res D) : bodyS ⟨glOf glL, R, false⟩ d_hex_digit.N (defScope d_hex_digit.st) (defBody d_hex_digit.st) = s_hex_digit R := by kernel_rfl
theorem sc_hex_digit : scC d_hex_digit.N d_hex_digit.np (defScope d_hex_digit.st) = true := by decide +kernel
theorem r_hex_digit (n : Nat) (ds : List D) (h : MH) : R (n + 1) "hex_digit" ds h = runB (s_hex_digit (R n)) d_hex_digit.N ds h := by
  rw [← e_hex_digit]; kernel_rfl
/- values: 0 fields, 1 name, 2 key, 3 value -/
def s_values (R : Str → List D → MH → Res D) : MS :=
  (seqS (retS (lcM [2, 3] (seqI (varM 0)) (tupG [2, 3]) (testM (binM (compD .Eq) (varM 2) (varM 1))) (varM 3)))
  nxS)
theorem e_values (R : Str → List D → MH → Res D) : bodyS ⟨glOf glL, R, false⟩ d_values.N (defScope d_values.st) (defBody d_values.st) = s_values R := by kernel_rfl
theorem sc_values : scC d_values.N d_values.np (defScope d_values.st) = true := by decide +kernel
theorem r_values (n : Nat) (ds : List D) (h : MH) : R (n + 1) "values" ds h = runB (s_values (R n)) d_values.N ds h := by
  rw [← e_values]; kernel_rfl
/- without: 0 fields, 1 names, 2 field -/
def s_without (R : Str → List D → MH → Res D) : MS :=
  (seqS (retS (callM (tyD "tuple") (argsE [lcM [2] (seqI (varM 0)) (nameG 2) (testM (binM (compD .NotIn) (binM ixD (varM 2) (cM (.int 0))) (varM 1))) (varM 2)])))
  nxS)
theorem e_without (R : Str → List D → MH → Res D) : bodyS ⟨glOf glL, R, false⟩ d_without.N (defScope d_without.st) (defBody d_without.st) = s_without R := by kernel_rfl
theorem sc_without : scC d_without.N d_without.np (defScope d_without.st) = true := by decide +kernel
theorem r_without (n : Nat) (ds : List D) (h : MH) : R (n + 1) "without" ds h = runB (s_without (R n)) d_without.N ds h := by
  rw [← e_without]; kernel_rfl
/- joined: 0 events, 1 found, 2 event -/
def s_joined (R : Str → List D → MH → Res D) : MS :=
  (seqS (setS 1 (lstM (argsE [])))
  (seqS (forS (seqI (varM 0)) (nameG 2) (seqS (ifS (andTs [testM (binM (compD .Eq) (binM ixD (varM 2) (cM (.int 0))) (cM (.str (PySem.Str.ofString "body")))), testM (binM (compD .NotEq) (varM 1) (lstM (argsE []))), testM (binM (compD .Eq) (binM ixD (binM ixD (varM 1) (unM negD (cM (.int 1)))) (cM (.int 0))) (cM (.str (PySem.Str.ofString "body"))))]) (seqS (asgS (tupM (argsE [cM (.str (PySem.Str.ofString "body")), binM (binD .Add) (binM ixD (binM ixD (varM 1) (unM negD (cM (.int 1)))) (cM (.int 1))) (binM ixD (varM 2) (cM (.int 1)))])) (subG (varM 1) (unM negD (cM (.int 1)))))
      nxS) (seqS (dropS (bmE "append" (varM 1) (argsE [varM 2])))
      nxS))
    nxS))
  (seqS (retS (varM 1))
  nxS)))
theorem e_joined (R : Str → List D → MH → Res D) : bodyS ⟨glOf glL, R, false⟩ d_joined.N (defScope d_joined.st) (defBody d_joined.st) = s_joined R := by kernel_rfl
theorem sc_joined : scC d_joined.N d_joined.np (defScope d_joined.st) = true := by decide +kernel
theorem r_joined (n : Nat) (ds : List D) (h : MH) : R (n + 1) "joined" ds h = runB (s_joined (R n)) d_joined.N ds h := by
  rw [← e_joined]; kernel_rfl
/- _law_draw: 0 _law_script, 1 _law_seed, 2 _law_cell -/
def s__law_draw (R : Str → List D → MH → Res D) : MS :=
  (seqS (setS 1 (cM (.int 7)))
  (seqS (forS (seqI (varM 0)) (nameG 2) (seqS (setS 1 (binM (binD .Mod) (callM (tyD "int") (argsE [binM (binD .Add) (binM (binD .Add) (binM (binD .Mult) (varM 1) (cM (.int 48271))) (binM (binD .Mod) (callM (bltD "abs") (argsE [callM (tyD "int") (argsE [varM 2])])) (cM (.int 65521)))) (cM (.int 1))])) (cM (.int 2147483647))))
    nxS))
  (seqS (retS (lstM (argsE [lcM [2] (seqI (varM 0)) (nameG 2) (yesT) (callM (bltD "abs") (argsE [callM (tyD "int") (argsE [varM 2])])), unM negD (cM (.int 1)), cM (.int 0), varM 1])))
  nxS)))
theorem e__law_draw (R : Str → List D → MH → Res D) : bodyS ⟨glOf glL, R, false⟩ d__law_draw.N (defScope d__law_draw.st) (defBody d__law_draw.st) = s__law_draw R := by kernel_rfl
theorem sc__law_draw : scC d__law_draw.N d__law_draw.np (defScope d__law_draw.st) = true := by decide +kernel
theorem r__law_draw (n : Nat) (ds : List D) (h : MH) : R (n + 1) "_law_draw" ds h = runB (s__law_draw (R n)) d__law_draw.N ds h := by
  rw [← e__law_draw]; kernel_rfl
/- _law_take: 0 _law_draw_here, 1 _law_many, 2 _law_found -/
def s__law_take (R : Str → List D → MH → Res D) : MS :=
  (seqS (ifS (testM (binM (compD .Eq) (binM ixD (varM 0) (cM (.int 2))) (cM (.int 0)))) (seqS (asgS (binM (binD .Add) (binM ixD (varM 0) (cM (.int 1))) (cM (.int 1))) (subG (varM 0) (cM (.int 1))))
    (seqS (ifS (testM (binM (compD .Lt) (binM ixD (varM 0) (cM (.int 1))) (callM (bltD "len") (argsE [binM ixD (varM 0) (cM (.int 0))])))) (seqS (asgS (binM ixD (binM ixD (varM 0) (cM (.int 0))) (binM ixD (varM 0) (cM (.int 1)))) (subG (varM 0) (cM (.int 2))))
      nxS) nxS)
    (seqS (ifS (testM (binM (compD .Eq) (binM ixD (varM 0) (cM (.int 2))) (cM (.int 0)))) (seqS (asgS (binM (binD .Mod) (callM (tyD "int") (argsE [binM (binD .Add) (binM (binD .Mult) (binM ixD (varM 0) (cM (.int 3))) (cM (.int 48271))) (cM (.int 11))])) (cM (.int 2147483647))) (subG (varM 0) (cM (.int 3))))
      (seqS (asgS (binM ixD (varM 0) (cM (.int 3))) (subG (varM 0) (cM (.int 2))))
      nxS)) nxS)
    nxS))) nxS)
  (seqS (setS 2 (binM (binD .Mod) (callM (tyD "int") (argsE [binM ixD (varM 0) (cM (.int 2))])) (varM 1)))
  (seqS (asgS (binM (binD .FloorDiv) (binM ixD (varM 0) (cM (.int 2))) (varM 1)) (subG (varM 0) (cM (.int 2))))
  (seqS (retS (varM 2))
  nxS))))
theorem e__law_take (R : Str → List D → MH → Res D) : bodyS ⟨glOf glL, R, false⟩ d__law_take.N (defScope d__law_take.st) (defBody d__law_take.st) = s__law_take R := by kernel_rfl
theorem sc__law_take : scC d__law_take.N d__law_take.np (defScope d__law_take.st) = true := by decide +kernel
theorem r__law_take (n : Nat) (ds : List D) (h : MH) : R (n + 1) "_law_take" ds h = runB (s__law_take (R n)) d__law_take.N ds h := by
  rw [← e__law_take]; kernel_rfl
/- _law_joined: 0 _law_events_here, 1 _law_found, 2 _law_event -/
def s__law_joined (R : Str → List D → MH → Res D) : MS :=
  (seqS (setS 1 (lstM (argsE [])))
  (seqS (forS (seqI (varM 0)) (nameG 2) (seqS (ifS (andTs [testM (binM (compD .Eq) (binM ixD (varM 2) (cM (.int 0))) (cM (.str (PySem.Str.ofString "body")))), testM (binM (compD .NotEq) (varM 1) (lstM (argsE []))), testM (binM (compD .Eq) (binM ixD (binM ixD (varM 1) (binM (binD .Sub) (callM (bltD "len") (argsE [varM 1])) (cM (.int 1)))) (cM (.int 0))) (cM (.str (PySem.Str.ofString "body"))))]) (seqS (asgS (tupM (argsE [cM (.str (PySem.Str.ofString "body")), binM (binD .Add) (binM ixD (binM ixD (varM 1) (binM (binD .Sub) (callM (bltD "len") (argsE [varM 1])) (cM (.int 1)))) (cM (.int 1))) (binM ixD (varM 2) (cM (.int 1)))])) (subG (varM 1) (binM (binD .Sub) (callM (bltD "len") (argsE [varM 1])) (cM (.int 1)))))
      nxS) (seqS (dropS (bmE "append" (varM 1) (argsE [varM 2])))
      nxS))
    nxS))
  (seqS (retS (varM 1))
  nxS)))
theorem e__law_joined (R : Str → List D → MH → Res D) : bodyS ⟨glOf glL, R, false⟩ d__law_joined.N (defScope d__law_joined.st) (defBody d__law_joined.st) = s__law_joined R := by kernel_rfl
theorem sc__law_joined : scC d__law_joined.N d__law_joined.np (defScope d__law_joined.st) = true := by decide +kernel
theorem r__law_joined (n : Nat) (ds : List D) (h : MH) : R (n + 1) "_law_joined" ds h = runB (s__law_joined (R n)) d__law_joined.N ds h := by
  rw [← e__law_joined]; kernel_rfl
/- _law_word: 0 _law_draw_here, 1 _law_most, 2 _law_signs, 3 _law_k -/
def s__law_word (R : Str → List D → MH → Res D) : MS :=
  (seqS (setS 2 (cM (.str (PySem.Str.ofString "abcdefghijklmnopqrstuvwxyz0123456789-_.!#$&'*+^|~"))))
  (seqS (retS (bmE "join" (cM (.str (PySem.Str.ofString ""))) (argsE [lcM [3] (rangeI1 (argsE [binM (binD .Add) (cM (.int 1)) (callN 2 (R "_law_take") (argsE [varM 0, varM 1]))])) (nameG 3) (yesT) (binM ixD (varM 2) (callN 2 (R "_law_take") (argsE [varM 0, cM (.int 49)])))])))
  nxS))
theorem e__law_word (R : Str → List D → MH → Res D) : bodyS ⟨glOf glL, R, false⟩ d__law_word.N (defScope d__law_word.st) (defBody d__law_word.st) = s__law_word R := by kernel_rfl
theorem sc__law_word : scC d__law_word.N d__law_word.np (defScope d__law_word.st) = true := by decide +kernel
theorem r__law_word (n : Nat) (ds : List D) (h : MH) : R (n + 1) "_law_word" ds h = runB (s__law_word (R n)) d__law_word.N ds h := by
  rw [← e__law_word]; kernel_rfl
/- _law_text: 0 _law_draw_here, 1 _law_signs, 2 _law_k -/
def s__law_text (R : Str → List D → MH → Res D) : MS :=
  (seqS (setS 1 (cM (.str (PySem.Str.ofString "abc XYZ 019 ,;=()<>@/?\"'\t{}~-"))))
  (seqS (retS (bmE "strip" (bmE "join" (cM (.str (PySem.Str.ofString ""))) (argsE [lcM [2] (rangeI1 (argsE [callN 2 (R "_law_take") (argsE [varM 0, cM (.int 12)])])) (nameG 2) (yesT) (binM ixD (varM 1) (callN 2 (R "_law_take") (argsE [varM 0, callM (bltD "len") (argsE [varM 1])])))])) (argsE [cM (.str (PySem.Str.ofString " \t"))])))
  nxS))
theorem e__law_text (R : Str → List D → MH → Res D) : bodyS ⟨glOf glL, R, false⟩ d__law_text.N (defScope d__law_text.st) (defBody d__law_text.st) = s__law_text R := by kernel_rfl
theorem sc__law_text : scC d__law_text.N d__law_text.np (defScope d__law_text.st) = true := by decide +kernel
theorem r__law_text (n : Nat) (ds : List D) (h : MH) : R (n + 1) "_law_text" ds h = runB (s__law_text (R n)) d__law_text.N ds h := by
  rw [← e__law_text]; kernel_rfl
/- _law_fields: 0 _law_draw_here, 1 _law_most, 2 _law_names, 3 _law_rows, 4 _law_k, 5 _law_name -/
def s__law_fields (R : Str → List D → MH → Res D) : MS :=
  (seqS (setS 2 (lstM (argsE [cM (.str (PySem.Str.ofString "accept")), cM (.str (PySem.Str.ofString "x")), cM (.str (PySem.Str.ofString "cookie")), cM (.str (PySem.Str.ofString "via")), cM (.str (PySem.Str.ofString "date")), cM (.str (PySem.Str.ofString "set-cookie")), cM (.str (PySem.Str.ofString "content-type")), cM (.str (PySem.Str.ofString "a-long-name-of-thirty-nine-signs-abcdef"))])))
  (seqS (setS 3 (lstM (argsE [])))
  (seqS (forS (rangeI1 (argsE [callN 2 (R "_law_take") (argsE [varM 0, binM (binD .Add) (varM 1) (cM (.int 1))])])) (nameG 4) (seqS (setS 5 (binM ixD (varM 2) (callN 2 (R "_law_take") (argsE [varM 0, cM (.int 8)]))))
    (seqS (ifS (testM (binM (compD .Eq) (callN 2 (R "_law_take") (argsE [varM 0, cM (.int 3)])) (cM (.int 0)))) (seqS (setS 5 (binM (binD .Add) (cM (.str (PySem.Str.ofString "x"))) (callN 2 (R "_law_word") (argsE [varM 0, cM (.int 5)]))))
      nxS) nxS)
    (seqS (dropS (bmE "append" (varM 3) (argsE [tupM (argsE [varM 5, callN 1 (R "_law_text") (argsE [varM 0])])])))
    nxS))))
  (seqS (retS (varM 3))
  nxS))))
theorem e__law_fields (R : Str → List D → MH → Res D) : bodyS ⟨glOf glL, R, false⟩ d__law_fields.N (defScope d__law_fields.st) (defBody d__law_fields.st) = s__law_fields R := by kernel_rfl
theorem sc__law_fields : scC d__law_fields.N d__law_fields.np (defScope d__law_fields.st) = true := by decide +kernel
theorem r__law_fields (n : Nat) (ds : List D) (h : MH) : R (n + 1) "_law_fields" ds h = runB (s__law_fields (R n)) d__law_fields.N ds h := by
  rw [← e__law_fields]; kernel_rfl
/- _law_signs_right: 0 _law_draw_here, 1 _law_octet, 2 _law_letters, 3 _law_digit, 4 _law_token, 5 _law_value, 6 _law_due, 7 _law_text_here -/
def s__law_signs_right (R : Str → List D → MH → Res D) : MS :=
  (seqS (setS 1 (callN 2 (R "_law_take") (argsE [varM 0, cM (.int 256)])))
  (seqS (setS 2 (orMs [chainM (compD .LtE) (compD .LtE) (cM (.int 65)) (varM 1) (cM (.int 90)), chainM (compD .LtE) (compD .LtE) (cM (.int 97)) (varM 1) (cM (.int 122))]))
  (seqS (setS 3 (chainM (compD .LtE) (compD .LtE) (cM (.int 48)) (varM 1) (cM (.int 57))))
  (seqS (setS 4 (orMs [varM 2, varM 3, binM (compD .In) (varM 1) (lstM (argsE [cM (.int 33), cM (.int 35), cM (.int 36), cM (.int 38), cM (.int 39), cM (.int 42), cM (.int 43), cM (.int 45), cM (.int 46), cM (.int 94), cM (.int 95), cM (.int 96), cM (.int 124), cM (.int 126)]))]))
  (seqS (setS 5 (orMs [binM (compD .Eq) (varM 1) (cM (.int 9)), andMs [chainM (compD .LtE) (compD .LtE) (cM (.int 32)) (varM 1) (cM (.int 126)), binM (compD .NotEq) (varM 1) (cM (.int 37))]]))
  (seqS (ifS (orTs [testM (binM (compD .NotEq) (callN 1 (R "is_token_sign") (argsE [varM 1])) (varM 4)), testM (binM (compD .NotEq) (callN 1 (R "is_value_sign") (argsE [varM 1])) (varM 5))]) (seqS (retS (cM (.bl false)))
    nxS) nxS)
  (seqS (setS 6 (unM negD (cM (.int 1))))
  (seqS (ifS (truM (varM 3)) (seqS (setS 6 (binM (binD .Sub) (varM 1) (cM (.int 48))))
    nxS) nxS)
  (seqS (ifS (testM (chainM (compD .LtE) (compD .LtE) (cM (.int 65)) (varM 1) (cM (.int 70)))) (seqS (setS 6 (binM (binD .Sub) (varM 1) (cM (.int 55))))
    nxS) nxS)
  (seqS (ifS (testM (chainM (compD .LtE) (compD .LtE) (cM (.int 97)) (varM 1) (cM (.int 102)))) (seqS (setS 6 (binM (binD .Sub) (varM 1) (cM (.int 87))))
    nxS) nxS)
  (seqS (ifS (testM (binM (compD .NotEq) (callN 1 (R "hex_digit") (argsE [varM 1])) (varM 6))) (seqS (retS (cM (.bl false)))
    nxS) nxS)
  (seqS (setS 7 (callN 1 (R "to_text") (argsE [tupM (argsE [varM 1])])))
  (seqS (ifS (notT (truM (varM 5))) (seqS (retS (binM (compD .Is) (varM 7) (cM (.non))))
    nxS) nxS)
  (seqS (retS (andMs [callM (bltD "isinstance") (argsE [varM 7, cM (.ty "str")]), binM (compD .Eq) (callM (bltD "len") (argsE [varM 7])) (cM (.int 1)), binM (compD .Eq) (callM (bltD "ord") (argsE [varM 7])) (varM 1), binM (compD .Eq) (callN 1 (R "is_token") (argsE [varM 7])) (varM 4)]))
  nxS))))))))))))))
theorem e__law_signs_right (R : Str → List D → MH → Res D) : bodyS ⟨glOf glL, R, false⟩ d__law_signs_right.N (defScope d__law_signs_right.st) (defBody d__law_signs_right.st) = s__law_signs_right R := by kernel_rfl
theorem sc__law_signs_right : scC d__law_signs_right.N d__law_signs_right.np (defScope d__law_signs_right.st) = true := by decide +kernel
theorem r__law_signs_right (n : Nat) (ds : List D) (h : MH) : R (n + 1) "_law_signs_right" ds h = runB (s__law_signs_right (R n)) d__law_signs_right.N ds h := by
  rw [← e__law_signs_right]; kernel_rfl
/- _law_events: 0 _law_draw_here, 1 _law_events_here, 2 _law_k -/
def s__law_events (R : Str → List D → MH → Res D) : MS :=
  (seqS (setS 1 (lstM (argsE [])))
  (seqS (forS (rangeI1 (argsE [callN 2 (R "_law_take") (argsE [varM 0, cM (.int 11)])])) (nameG 2) (seqS (ifS (testM (binM (compD .Gt) (callN 2 (R "_law_take") (argsE [varM 0, cM (.int 3)])) (cM (.int 0)))) (seqS (dropS (bmE "append" (varM 1) (argsE [tupM (argsE [cM (.str (PySem.Str.ofString "body")), callM (tyD "tuple") (argsE [lstM (argsE [varM 2, callN 2 (R "_law_take") (argsE [varM 0, cM (.int 256)])])])])])))
      nxS) (seqS (dropS (bmE "append" (varM 1) (argsE [tupM (argsE [cM (.str (PySem.Str.ofString "end")), tupM (argsE [])])])))
      nxS))
    nxS))
  (seqS (retS (varM 1))
  nxS)))
theorem e__law_events (R : Str → List D → MH → Res D) : bodyS ⟨glOf glL, R, false⟩ d__law_events.N (defScope d__law_events.st) (defBody d__law_events.st) = s__law_events R := by kernel_rfl
theorem sc__law_events : scC d__law_events.N d__law_events.np (defScope d__law_events.st) = true := by decide +kernel
theorem r__law_events (n : Nat) (ds : List D) (h : MH) : R (n + 1) "_law_events" ds h = runB (s__law_events (R n)) d__law_events.N ds h := by
  rw [← e__law_events]; kernel_rfl
/- law: 0 _law_script, 1 _law_draw_here, 2 _law_turn, 3 _law_row, 4 _law_text_here, 5 _law_bad, 6 _law_word_here, 7 _law_marks, 8 _law_plain, 9 _law_fields_here, 10 _law_names, 11 _law_name, 12 _law_events_here, 13 _law_before, 14 _law_k, 15 _law_octet, 16 _law_sign -/
def s_law (R : Str → List D → MH → Res D) : MS :=
  (seqS (setS 1 (callN 1 (R "_law_draw") (argsE [varM 0])))
  (seqS (forS (rangeI1 (argsE [cM (.int 6)])) (nameG 2) (seqS (ifS (notT (truM (callN 1 (R "_law_signs_right") (argsE [varM 1])))) (seqS (retS (cM (.bl false)))
      nxS) nxS)
    nxS))
  (seqS (setS 3 (callM (tyD "tuple") (argsE [lcM [14] (rangeI1 (argsE [callN 2 (R "_law_take") (argsE [varM 1, cM (.int 41)])])) (nameG 14) (yesT) (binM ixD (lstM (argsE [callN 2 (R "_law_take") (argsE [varM 1, cM (.int 256)]), binM (binD .Add) (cM (.int 32)) (callN 2 (R "_law_take") (argsE [varM 1, cM (.int 95)])), cM (.int 97)])) (callN 2 (R "_law_take") (argsE [varM 1, cM (.int 3)])))])))
  (seqS (setS 4 (callN 1 (R "to_text") (argsE [varM 3])))
  (seqS (setS 5 (lcM [15] (seqI (varM 3)) (nameG 15) (orTs [testM (binM (compD .Eq) (varM 15) (cM (.int 37))), testM (binM (compD .Gt) (varM 15) (cM (.int 126))), andTs [testM (binM (compD .Lt) (varM 15) (cM (.int 32))), testM (binM (compD .NotEq) (varM 15) (cM (.int 9)))]]) (varM 15)))
  (seqS (ifS (testM (binM (compD .NotEq) (binM (compD .Is) (varM 4) (cM (.non))) (binM (compD .NotEq) (varM 5) (lstM (argsE []))))) (seqS (retS (cM (.bl false)))
    nxS) nxS)
  (seqS (ifS (andTs [testM (binM (compD .IsNot) (varM 4) (cM (.non))), orTs [testM (binM (compD .NotEq) (callN 1 (R "to_octets") (argsE [varM 4])) (varM 3)), testM (binM (compD .NotEq) (lcM [16] (seqI (varM 4)) (nameG 16) (yesT) (callM (bltD "ord") (argsE [varM 16]))) (callM (tyD "list") (argsE [varM 3])))]]) (seqS (retS (cM (.bl false)))
    nxS) nxS)
  (seqS (setS 6 (binM (binD .Add) (callN 1 (R "_law_text") (argsE [varM 1])) (callN 2 (R "_law_word") (argsE [varM 1, cM (.int 3)]))))
  (seqS (setS 7 (cM (.str (PySem.Str.ofString "!#$&'*+-.^_|~"))))
  (seqS (setS 8 (lcM [16] (seqI (varM 6)) (nameG 16) (notT (orTs [testM (binM (compD .In) (varM 16) (varM 7)), testM (chainM (compD .LtE) (compD .LtE) (cM (.str (PySem.Str.ofString "a"))) (varM 16) (cM (.str (PySem.Str.ofString "z")))), testM (chainM (compD .LtE) (compD .LtE) (cM (.str (PySem.Str.ofString "A"))) (varM 16) (cM (.str (PySem.Str.ofString "Z")))), testM (chainM (compD .LtE) (compD .LtE) (cM (.str (PySem.Str.ofString "0"))) (varM 16) (cM (.str (PySem.Str.ofString "9"))))])) (varM 16)))
  (seqS (ifS (orTs [testM (binM (compD .NotEq) (callN 1 (R "is_token") (argsE [varM 6])) (binM (compD .Eq) (varM 8) (lstM (argsE [])))), truM (callN 1 (R "is_token") (argsE [cM (.str (PySem.Str.ofString ""))])), testM (binM (compD .NotEq) (callN 1 (R "lower") (argsE [varM 6])) (bmE "lower" (varM 6) (argsE [])))]) (seqS (retS (cM (.bl false)))
    nxS) nxS)
  (seqS (setS 9 (callM (tyD "tuple") (argsE [callN 2 (R "_law_fields") (argsE [varM 1, cM (.int 6)])])))
  (seqS (setS 10 (binM (binD .Add) (sliceM (lcM [3] (seqI (varM 9)) (nameG 3) (yesT) (binM ixD (varM 3) (cM (.int 0)))) (noPart) (partM (cM (.int 2)))) (lstM (argsE [cM (.str (PySem.Str.ofString "none"))]))))
  (seqS (forS (seqI (varM 10)) (nameG 11) (seqS (ifS (testM (binM (compD .NotEq) (callN 2 (R "values") (argsE [varM 9, varM 11])) (lcM [3] (seqI (varM 9)) (nameG 3) (testM (binM (compD .Eq) (binM ixD (varM 3) (cM (.int 0))) (varM 11))) (binM ixD (varM 3) (cM (.int 1)))))) (seqS (retS (cM (.bl false)))
      nxS) nxS)
    nxS))
  (seqS (ifS (testM (binM (compD .NotEq) (callN 2 (R "without") (argsE [varM 9, varM 10])) (callM (tyD "tuple") (argsE [lcM [3] (seqI (varM 9)) (nameG 3) (testM (binM (compD .NotIn) (binM ixD (varM 3) (cM (.int 0))) (varM 10))) (varM 3)])))) (seqS (retS (cM (.bl false)))
    nxS) nxS)
  (seqS (setS 12 (callN 1 (R "_law_events") (argsE [varM 1])))
  (seqS (setS 13 (callM reprD (argsE [varM 12])))
  (seqS (retS (andMs [binM (compD .Eq) (callN 1 (R "joined") (argsE [varM 12])) (callN 1 (R "_law_joined") (argsE [varM 12])), binM (compD .Eq) (callM reprD (argsE [varM 12])) (varM 13)]))
  nxS))))))))))))))))))
theorem e_law (R : Str → List D → MH → Res D) : bodyS ⟨glOf glL, R, true⟩ d_law.N (defScope d_law.st) (defBody d_law.st) = s_law R := by kernel_rfl
theorem sc_law : scC d_law.N d_law.np (defScope d_law.st) = true := by decide +kernel
theorem r_law (n : Nat) (ds : List D) (h : MH) : topOf (glOf glL) defs n d_law ds h = runB (s_law (R n)) d_law.N ds h := by
  rw [← e_law]; kernel_rfl
end Law
namespace Law
open PySem L2 Mir
def one (c : Nat) : Str := ⟨#[c]⟩
def V (o : Int) : Bool := decide (o = 9) || ((decide (32 ≤ o) && decide (o ≤ 126)) && !decide (o = 37))
def dig (o : Int) : Bool := decide (48 ≤ o) && decide (o ≤ 57)
def ltr (o : Int) : Bool := (decide (65 ≤ o) && decide (o ≤ 90)) || (decide (97 ≤ o) && decide (o ≤ 122))
def mks : List Int := [33, 35, 36, 38, 39, 42, 43, 45, 46, 94, 95, 96, 124, 126]
def Tk (o : Int) : Bool := ltr o || dig o || mks.contains o
def hexF (o : Int) : Int := if dig o = true then o - 48 else if (decide (65 ≤ o) && decide (o ≤ 70)) = true then o - 55 else if (decide (97 ≤ o) && decide (o ≤ 102)) = true then o - 87 else -1
section
variable (n : Nat) (h : MH) (o : Int)
theorem chain_ok {a c : Int} {ρ : Ro} {i : Nat} (hi : ρ[i]? = some (some (.int o))) : chainM leD leD (cM (.int a)) (varM i) (cM (.int c)) ρ h = .ok (.bl (decide (a ≤ o) && decide (o ≤ c))) h := by
  by_cases q : a ≤ o
  · simp only [chainM, cM, varM, hi, bind_ok, compD, leD, decide_eq_true q, Bool.true_and]
  · simp only [chainM, cM, varM, hi, bind_ok, compD, leD, decide_eq_false q, Bool.false_and]
theorem vs_ok : R (n + 1) "is_value_sign" [.int o] h = .ok (.bl (V o)) h := by
  have hN : d_is_value_sign.N = (["octet"] : List Str) := rfl
  have c := chain_ok (h := h) o (a := 32) (c := 126) (ρ := [some (.int o)]) (i := 0) rfl
  rw [r_is_value_sign]
  unfold s_is_value_sign V
  rw [hN]
  cases q : decide (o = 9) <;> cases q1 : (decide (32 ≤ o) && decide (o ≤ 126)) <;> cases q2 : decide (o = 37) <;>
    simp only [runB, resF, startD, seqS, retS, orMs, Mir.orM, andMs, Mir.andM, binM, varM, cM, bind_ok, compD, eqD, neD, eqO, scalD, c, q, q1, q2, v_TAB, v_PERCENT, List.map_cons, List.map_nil, List.cons_append, List.nil_append, List.length_cons, List.length_nil, Nat.zero_add, Nat.sub_self, List.replicate, List.getElem?_cons_zero, Bool.false_or, Bool.true_or, Bool.false_and, Bool.true_and, Bool.not_true, Bool.not_false]
theorem dg_ok : R (n + 1) "is_digit" [.int o] h = .ok (.bl (dig o)) h := by
  have hN : d_is_digit.N = (["octet"] : List Str) := rfl
  rw [r_is_digit]
  unfold s_is_digit runB
  rw [hN]
  have c := chain_ok (h := h) o (a := 48) (c := 57) (ρ := [some (.int o)]) (i := 0) rfl
  simp only [resF, startD, seqS, retS, compD, c, bind_ok, List.map_cons, List.map_nil, List.cons_append, List.nil_append, List.length_cons, List.length_nil, Nat.zero_add, Nat.sub_self, List.replicate]
  rfl
theorem lt_ok : R (n + 1) "is_letter" [.int o] h = .ok (.bl (ltr o)) h := by
  have hN : d_is_letter.N = (["octet"] : List Str) := rfl
  rw [r_is_letter]
  unfold s_is_letter runB ltr
  rw [hN]
  have c := chain_ok (h := h) o (a := 65) (c := 90) (ρ := [some (.int o)]) (i := 0) rfl
  have c2 := chain_ok (h := h) o (a := 97) (c := 122) (ρ := [some (.int o)]) (i := 0) rfl
  cases q : (decide (65 ≤ o) && decide (o ≤ 90)) <;>
  simp only [resF, startD, seqS, retS, orMs, Mir.orM, compD, c, c2, q, bind_ok, List.map_cons, List.map_nil, List.cons_append, List.nil_append, List.length_cons, List.length_nil, Nat.zero_add, Nat.sub_self, List.replicate, Bool.false_or, Bool.true_or]
def sgL : List Nat := (PySem.Str.ofString " !\"#$&'()*+,-./0123456789:;<=>?@ABCDEFGHIJKLMNOPQRSTUVWXYZ[\\]^_`abcdefghijklmnopqrstuvwxyz{|}~").cps.toList
theorem sg_all : ((List.range 127).all fun k => !(V k) || k == 9 || (if k < 37 then atI sgL ((k : Int) - 32) == some k else atI sgL ((k : Int) - 33) == some k)) = true := by kernel_rfl
theorem V_nat {o : Int} (hV : V o = true) : ∃ k : Nat, o = k ∧ k < 127 := by
  unfold V at hV
  simp only [Bool.or_eq_true, Bool.and_eq_true, decide_eq_true_eq] at hV
  refine ⟨o.toNat, ?_, ?_⟩ <;> omega
theorem sg_ok (hV : V o = true) : R (n + 1) "sign_of" [.int o] h = .ok (.str (one o.toNat)) h := by
  obtain ⟨k, rfl, hk⟩ := V_nat hV
  have hN : d_sign_of.N = (["octet"] : List Str) := rfl
  have hs := List.all_eq_true.mp sg_all k (List.mem_range.mpr hk)
  have hsz : (PySem.Str.ofString " !\"#$&'()*+,-./0123456789:;<=>?@ABCDEFGHIJKLMNOPQRSTUVWXYZ[\\]^_`abcdefghijklmnopqrstuvwxyz{|}~").length ≤ sizeLine := by rw [sizeLine_eq]; decide +kernel
  rw [hV] at hs
  rw [r_sign_of]
  unfold s_sign_of
  rw [hN]
  by_cases q : (k : Int) = 9
  · have : k = 9 := by omega
    subst this
    simp only [runB, resF, startD, seqS, ifS, testM, nxS, retS, binM, varM, cM, bind_ok, compD, eqD, eqO, scalD, v_TAB, List.map_cons, List.map_nil, List.cons_append, List.nil_append, List.length_cons, List.length_nil, Nat.zero_add, Nat.sub_self, List.replicate, List.getElem?_cons_zero]
    rfl
  · have q' : (k == 9) = false := by simp; omega
    rw [q'] at hs
    simp only [Bool.not_true, Bool.false_or] at hs
    by_cases q2 : k < 37
    · rw [if_pos q2] at hs
      have e : atI sgL ((k : Int) - 32) = some k := by simpa using hs
      have d : decide ((k : Int) < 37) = true := decide_eq_true (by omega)
      unfold sgL at e
      simp only [runB, resF, startD, seqS, ifS, testM, nxS, retS, binM, varM, cM, bind_ok, compD, eqD, eqO, scalD, ltD, binD, subD, intD, ixD, ixO, v_TAB, v_PERCENT, v_SIGNS, hsz, e, q, d, List.map_cons, List.map_nil, List.cons_append, List.nil_append, List.length_cons, List.length_nil, Nat.zero_add, Nat.sub_self, List.replicate, List.getElem?_cons_zero, decide_false, Bool.false_eq_true, if_false, if_true, Option.map_some, Int.toNat_natCast, one]
    · rw [if_neg q2] at hs
      have e : atI sgL ((k : Int) - 33) = some k := by simpa using hs
      have d : decide ((k : Int) < 37) = false := decide_eq_false (by omega)
      unfold sgL at e
      simp only [runB, resF, startD, seqS, ifS, testM, nxS, retS, binM, varM, cM, bind_ok, compD, eqD, eqO, scalD, ltD, binD, subD, intD, ixD, ixO, v_TAB, v_PERCENT, v_SIGNS, hsz, e, q, d, List.map_cons, List.map_nil, List.cons_append, List.nil_append, List.length_cons, List.length_nil, Nat.zero_add, Nat.sub_self, List.replicate, List.getElem?_cons_zero, decide_false, Bool.false_eq_true, if_false, if_true, Option.map_some, Int.toNat_natCast, one]
def mkL : List Nat := (PySem.Str.ofString "!#$&'*+-.^_|~`").cps.toList
theorem occ_all : ((List.range 127).all fun k => !(V k) || (decide (k ∈ mkL) == mks.contains (k : Int))) = true := by decide +kernel
theorem mk_all : (mks.all fun o => V o) = true := by decide +kernel
theorem tks_ok : R (n + 2) "is_token_sign" [.int o] h = .ok (.bl (Tk o)) h := by
  have hN : d_is_token_sign.N = (["octet"] : List Str) := rfl
  rw [r_is_token_sign]
  unfold s_is_token_sign Tk
  rw [hN]
  have e1 : callN 1 (R (n + 1) "is_digit") (argsE [varM 0]) [some (.int o)] h = .ok (.bl (dig o)) h := by
    simp only [callN, argsE, consM, nilM, varM, bind_ok, List.getElem?_cons_zero, List.length_cons, List.length_nil, Nat.zero_add, if_true, dg_ok]
  have e2 : callN 1 (R (n + 1) "is_letter") (argsE [varM 0]) [some (.int o)] h = .ok (.bl (ltr o)) h := by
    simp only [callN, argsE, consM, nilM, varM, bind_ok, List.getElem?_cons_zero, List.length_cons, List.length_nil, Nat.zero_add, if_true, lt_ok]
  have e3 : callN 1 (R (n + 1) "is_value_sign") (argsE [varM 0]) [some (.int o)] h = .ok (.bl (V o)) h := by
    simp only [callN, argsE, consM, nilM, varM, bind_ok, List.getElem?_cons_zero, List.length_cons, List.length_nil, Nat.zero_add, if_true, vs_ok]
  cases q1 : dig o with
  | true => simp only [runB, resF, startD, seqS, ifS, orTs, orT, truM, truD, e1, q1, bind_ok, if_true, retS, cM, List.map_cons, List.map_nil, List.cons_append, List.nil_append, List.length_cons, List.length_nil, Nat.zero_add, Nat.sub_self, List.replicate, Bool.or_true, Bool.true_or]
  | false =>
    cases q2 : ltr o with
    | true => simp only [runB, resF, startD, seqS, ifS, orTs, orT, truM, truD, e1, e2, q1, q2, bind_ok, if_true, if_false, Bool.false_eq_true, retS, cM, List.map_cons, List.map_nil, List.cons_append, List.nil_append, List.length_cons, List.length_nil, Nat.zero_add, Nat.sub_self, List.replicate, Bool.or_true, Bool.true_or]
    | false =>
      cases q3 : V o with
      | false =>
        have q4 : mks.contains o = false := by
          cases q4 : mks.contains o with
          | false => rfl
          | true =>
            have := List.all_eq_true.mp mk_all o (by simpa using q4)
            rw [q3] at this; cases this
        simp only [runB, resF, startD, seqS, ifS, orTs, orT, truM, truD, e1, e2, e3, q1, q2, q3, q4, bind_ok, if_true, if_false, Bool.false_eq_true, nxS, retS, andMs, Mir.andM, List.map_cons, List.map_nil, List.cons_append, List.nil_append, List.length_cons, List.length_nil, Nat.zero_add, Nat.sub_self, List.replicate, Bool.or_false, Bool.false_or]
      | true =>
        have e4 : callN 1 (R (n + 1) "sign_of") (argsE [varM 0]) [some (.int o)] h = .ok (.str (one o.toNat)) h := by
          simp only [callN, argsE, consM, nilM, varM, bind_ok, List.getElem?_cons_zero, List.length_cons, List.length_nil, Nat.zero_add, if_true, sg_ok n h o q3]
        obtain ⟨k, rfl, hk⟩ := V_nat q3
        have oc := List.all_eq_true.mp occ_all k (List.mem_range.mpr hk)
        rw [q3] at oc
        have oc2 : decide (k ∈ mkL) = mks.contains (k : Int) := by
          rw [Bool.not_true, Bool.false_or] at oc
          exact eq_of_beq oc
        have oc' : (!(Builtin.Str.occurrences (PySem.Str.ofString "!#$&'*+-.^_|~`") (one k) 0 (PySem.Str.ofString "!#$&'*+-.^_|~`").length 1).isEmpty) = mks.contains (k : Int) := (StrLaws.found_one _ k).trans oc2
        simp only [runB, resF, startD, seqS, ifS, orTs, orT, truM, truD, e1, e2, e3, e4, q1, q2, q3, bind_ok, if_true, if_false, Bool.false_eq_true, nxS, retS, andMs, Mir.andM, binM, cM, compD, inD, inO, v_TOKEN_MARKS, Int.toNat_natCast, oc', List.map_cons, List.map_nil, List.cons_append, List.nil_append, List.length_cons, List.length_nil, Nat.zero_add, Nat.sub_self, List.replicate, Bool.or_false, Bool.false_or]
end
end Law
namespace Law
open PySem L2 Mir
theorem joinL_ones : ∀ cs : List Nat, TL.joinL [] (cs.map fun c => [c]) = cs
  | [] => rfl
  | [c] => rfl
  | c :: d :: r => by
    have := joinL_ones (d :: r)
    show [c] ++ ([] ++ TL.joinL [] ((d :: r).map fun c => [c])) = _
    rw [this]; rfl
theorem join_ones (cs : List Nat) : Txt.join (PySem.Str.ofString "") (cs.map one) = ⟨cs.toArray⟩ := by
  have e := SX.join_S [] (cs.map fun c => [c])
  rw [joinL_ones, List.map_map] at e
  exact e
theorem call1 {g : List D → MH → Res D} {m : ME} {ρ : Ro} {h h1 : MH} {x : D} (e : m ρ h = .ok x h1) : callN 1 g (argsE [m]) ρ h = g [x] h1 := by
  simp only [callN, argsE, consM, nilM, e, bind_ok, List.length_cons, List.length_nil, Nat.zero_add, if_true]
theorem call2 {g : List D → MH → Res D} {m m' : ME} {ρ : Ro} {h h1 h2 : MH} {x y : D} (e : m ρ h = .ok x h1) (e' : m' ρ h1 = .ok y h2) : callN 2 g (argsE [m, m']) ρ h = g [x, y] h2 := by
  simp only [callN, argsE, consM, nilM, e, e', bind_ok, List.length_cons, List.length_nil, Nat.zero_add, Nat.reduceAdd, if_true]
theorem var_ok {ρ : Ro} {i : Nat} {d : D} {h : MH} (e : ρ[i]? = some (some d)) : varM i ρ h = .ok d h := by simp only [varM, e]
theorem ret_ok {e : ME} {b : MS} {ρ : Ro} {h h' : MH} {d : D} (q : e ρ h = .ok d h') : seqS (retS e) b ρ h = .ok (.rt d, ρ) h' := by simp only [seqS, retS, q, bind_ok]
theorem ret_run {e : ME} {b : MS} {N : List Str} {ds : List D} {h h' : MH} {d : D} (q : e (startD N ds) h = .ok d h') : runB (seqS (retS e) b) N ds h = .ok d h' := by unfold runB; rw [ret_ok q]; rfl
theorem seq_rt {a b : MS} {ρ ρ' : Ro} {h h' : MH} {d : D} (e : a ρ h = .ok (.rt d, ρ') h') : seqS a b ρ h = .ok (.rt d, ρ') h' := by unfold seqS; rw [e]; rfl
/-- a row of octets as values -/
def rowD (l : List Int) : List D := l.map .int
def charsOf (l : List Int) : Str := ⟨(l.map Int.toNat).toArray⟩
theorem ord_one {c : Nat} {h : MH} : callM (bltD "ord") (fun _ h => .ok [.str (one c)] h) [] h = .ok (.int c) h := rfl
theorem sg_signs (x : Str) : signs x = x.cps.toList.map fun c => .str (one c) := rfl
theorem ord_ok {ρ : Ro} {i c : Nat} {h : MH} (e : ρ[i]? = some (some (.str (one c)))) : callM (bltD "ord") (argsE [varM i]) ρ h = .ok (.int c) h := by
  simp only [callM, argsE, consM, nilM, varM, e, bind_ok]
  rfl
theorem callM1 {g : List D → MH → Res D} {m : ME} {ρ : Ro} {h h1 : MH} {x : D} (e : m ρ h = .ok x h1) : callM g (argsE [m]) ρ h = g [x] h1 := by simp only [callM, argsE, consM, nilM, e, bind_ok]
theorem tuple_of {m : ME} {ρ : Ro} {h h1 : MH} {x : D} {ds : List D} (e : m ρ h = .ok x h1) (s : seqO x h1 = some ds) : callM (tyD "tuple") (argsE [m]) ρ h = .ok (.tup ds) h1 := by
  rw [callM1 e]; unfold tyD; rw [if_neg (by decide), if_pos rfl]; simp only [s]
theorem list_of {m : ME} {ρ : Ro} {h h1 : MH} {x : D} {ds : List D} (e : m ρ h = .ok x h1) (s : seqO x h1 = some ds) : callM (tyD "list") (argsE [m]) ρ h = .ok (.ref h1.length) (h1 ++ [.lst ds]) := by
  rw [callM1 e]; unfold tyD; rw [if_neg (by decide), if_neg (by decide), if_pos rfl]; simp only [s]
theorem seqO_new {h : MH} {ds : List D} : seqO (.ref h.length) (h ++ [.lst ds]) = some ds := by
  have : (h ++ [Ob.lst ds])[h.length]? = some (.lst ds) := by rw [getE0]; rfl
  simp only [seqO, this]
theorem filter_yes {ds : List D} : ds.filter (fun _ => true) = ds := List.filter_eq_self.mpr fun _ _ => rfl
def ordF : D → D
  | .str y => .int (y.cps.toList.getD 0 0 : Nat)
  | _ => .non
/-- [ord(c) for c in x] -/
theorem ords_ok {ρ : Ro} {i j : Nat} {x : Str} {h : MH} (hi : ρ[i]? = some (some (.str x))) (hj : j < ρ.length) (hl : x.cps.toList.length ≤ sizeLine) :
    lcM [j] (seqI (varM i)) (nameG j) yesT (callM (bltD "ord") (argsE [varM j])) ρ h = .ok (.ref h.length) (h ++ [.lst (x.cps.toList.map fun (c : Nat) => .int c)]) := by
  have e := lc_pure (vs := [j]) (m := seqI (varM i)) (g := nameG j) (t := yesT) (e := callM (bltD "ord") (argsE [varM j])) (ρ := ρ) (h := h) (xs := signs x) (chk := always)
    (fun d => (wipeD ρ [j]).set j (some d)) (fun _ => true) ordF (by simp only [seqI, var_ok hi, bind_ok]) (fun _ => rfl) (fun d _ h' => rfl) (fun _ _ _ => rfl) (fun d hd _ acc => ?_) (by rw [sg_signs, List.length_map]; exact hl)
  · rw [filter_yes, sg_signs, List.map_map] at e
    exact e
  · rw [sg_signs] at hd
    obtain ⟨c, _, rfl⟩ := List.mem_map.mp hd
    rw [ord_ok (c := c) (by rw [List.getElem?_set_self (by simpa [wipeD] using hj)])]
    rfl
theorem to_octets_ok (n : Nat) (x : Str) (h : MH) (hl : x.cps.toList.length ≤ sizeLine) : ∃ g, R (n + 1) "to_octets" [.str x] h = .ok (.tup (x.cps.toList.map fun (c : Nat) => .int c)) (h ++ g) := by
  rw [r_to_octets]
  exact ⟨_, ret_run (tuple_of (ords_ok (ρ := startD d_to_octets.N [.str x]) (i := 0) (j := 1) rfl (show 1 < 2 from by decide) hl) seqO_new)⟩
/-! to_text -/
def sgF : D → D
  | .int i => .str (one i.toNat)
  | _ => .non
theorem seqI_tup {ρ : Ro} {i : Nat} {ds : List D} {h : MH} (hi : ρ[i]? = some (some (.tup ds))) : seqI (varM i) ρ h = .ok (ds, always) h := by simp only [seqI, var_ok hi, bind_ok]
theorem join_strs {ys : List Str} : strsO (ys.map D.str) = some ys := by
  induction ys with
  | nil => rfl
  | cons y r ih => show (strsO (r.map D.str)).map (y :: ·) = _; rw [ih]; rfl
theorem sum_ones : ∀ cs : List Nat, (cs.map ((fun x : Str => x.length) ∘ one)).sum = cs.length
  | [] => rfl
  | c :: r => by rw [List.map_cons, List.sum_cons, sum_ones r, List.length_cons]; exact Nat.add_comm 1 _
/-- ''.join(m), m a list of single signs -/
theorem join_of {m : ME} {ρ : Ro} {h h1 : MH} {x : D} {cs : List Nat} (e : m ρ h = .ok x h1) (s : seqO x h1 = some (cs.map fun c => .str (one c))) (hl : cs.length ≤ 16777216) : bmE "join" (cM (.str (PySem.Str.ofString ""))) (argsE [m]) ρ h = .ok (.str ⟨cs.toArray⟩) h1 := by
  have h3 : bmTab "str" (PySem.Str.ofString "join") = some joinD := by kernel_rfl
  have s2 : (cs.map fun c => D.str (one c)) = (cs.map one).map D.str := by rw [List.map_map]; rfl
  have s3 : ((cs.map one).map (·.length)).sum = cs.length := by
    rw [List.map_map]
    exact sum_ones cs
  have z0 : (PySem.Str.ofString "").length = 0 := rfl
  simp only [bmE, cM, isTy, beq_self_eq_true, if_true, h3, bmM, bind_ok, argsE, consM, nilM, e, joinD, s, s2, Option.bind_some, join_strs, s3, z0, Nat.mul_zero, Nat.add_zero, hl, join_ones]
theorem to_text_ok (n : Nat) (l : List Int) (h : MH) (hl : l.length ≤ 16777216) : ∃ g, R (n + 2) "to_text" [.tup (rowD l)] h = .ok (if l.all V = true then .str (charsOf l) else .non) (h ++ g) := by
  rw [r_to_text]
  have hN : d_to_text.N = (["octets", "octet"] : List Str) := rfl
  have loop := for_all (chk := always) (g := nameG 1) (b := (seqS (ifS (notT (truM (callN 1 (R (n + 1) "is_value_sign") (argsE [varM 1])))) (seqS (retS (cM (.non))) nxS) nxS) nxS)) (p := fun d => match d with | .int o => V o | _ => false) (d := .non)
    (fun ρ h' => (∃ c, ρ = [some (.tup (rowD l)), c]) ∧ h = h') (fun _ _ _ => rfl) (rowD l) [some (.tup (rowD l)), none] h ⟨⟨_, rfl⟩, rfl⟩ (fun x hx ρ h' hI => by
      obtain ⟨⟨c, rfl⟩, rfl⟩ := hI
      obtain ⟨o, _, rfl⟩ := List.mem_map.mp hx
      have e : callN 1 (R (n + 1) "is_value_sign") (argsE [varM 1]) [some (.tup (rowD l)), some (.int o)] h = .ok (.bl (V o)) h := by rw [call1 (var_ok rfl), vs_ok]
      simp only [nameG, Wp_ok, List.set_cons_succ, List.set_cons_zero]
      by_cases q : V o = true
      · simp only [seqS, ifS, notT, truM, truD, e, q, bind_ok, Bool.not_true, if_true, if_false, Bool.false_eq_true, nxS, Wp_ok]
        exact ⟨⟨⟨_, rfl⟩, trivial⟩, trivial⟩
      · rw [Bool.not_eq_true] at q
        simp only [seqS, ifS, notT, truM, truD, e, q, bind_ok, Bool.not_false, if_true, if_false, Bool.false_eq_true, retS, cM, Wp_ok]
        exact ⟨⟨⟨_, rfl⟩, trivial⟩, trivial⟩)
  obtain ⟨r, h', e, ⟨⟨c, q1⟩, rfl⟩, q2⟩ := loop.ex
  obtain ⟨fl, ρ'⟩ := r
  simp only at q1 q2
  subst q1
  have ea : (rowD l).all (fun d => match d with | .int o => V o | _ => false) = l.all V := by unfold rowD; rw [List.all_map]; rfl
  rw [ea] at q2
  unfold s_to_text runB
  rw [hN]
  have ef : forS (seqI (varM 0)) (nameG 1) (seqS (ifS (notT (truM (callN 1 (R (n + 1) "is_value_sign") (argsE [varM 1])))) (seqS (retS (cM (.non))) nxS) nxS) nxS) [some (.tup (rowD l)), none] h = .ok (fl, [some (.tup (rowD l)), c]) h := by
    unfold forS
    rw [seqI_tup rfl, bind_ok]
    exact e
  cases hv : l.all V with
  | false =>
    rw [hv] at q2
    rw [if_neg Bool.false_ne_true] at q2
    subst q2
    refine ⟨[], ?_⟩
    show resF (seqS _ _ [some (.tup (rowD l)), none] h) = _
    rw [seq_rt ef, List.append_nil]
    rfl
  | true =>
    rw [hv] at q2
    rw [if_pos rfl] at q2
    subst q2
    have lc := lc_pure (vs := [1]) (m := seqI (varM 0)) (g := nameG 1) (t := yesT) (e := callN 1 (R (n + 1) "sign_of") (argsE [varM 1])) (ρ := [some (.tup (rowD l)), c]) (h := h) (xs := rowD l) (chk := always)
      (fun d => [some (.tup (rowD l)), some d]) (fun _ => true) sgF (seqI_tup rfl) (fun _ => rfl) (fun d _ h' => rfl) (fun _ _ _ => rfl) (fun d hd _ acc => by
        obtain ⟨o, ho, rfl⟩ := List.mem_map.mp hd
        rw [call1 (var_ok rfl), sg_ok n _ o (List.all_eq_true.mp hv o ho)]
        rfl) (by unfold rowD; rw [List.length_map, sizeLine_eq]; exact hl)
    rw [filter_yes] at lc
    have em : (rowD l).map sgF = (l.map Int.toNat).map fun c => .str (one c) := by unfold rowD; rw [List.map_map, List.map_map]; rfl
    rw [em] at lc
    refine ⟨[.lst ((l.map Int.toNat).map fun c => .str (one c))], ?_⟩
    show resF (seqS _ _ [some (.tup (rowD l)), none] h) = _
    rw [seq_ok ef, ret_ok (join_of lc seqO_new (by rw [List.length_map]; exact hl))]
    rfl
end Law
namespace Law
open PySem L2 Mir
theorem set_ok {i : Nat} {e : ME} {ρ : Ro} {h h' : MH} {d : D} (q : e ρ h = .ok d h') : setS i e ρ h = .ok (.nx, ρ.set i (some d)) h' := by simp only [setS, q, bind_ok]
theorem bin_ok {g : D → D → MH → Res D} {a b : ME} {ρ : Ro} {h h1 h2 : MH} {x y : D} (e1 : a ρ h = .ok x h1) (e2 : b ρ h1 = .ok y h2) : binM g a b ρ h = g x y h2 := by simp only [binM, e1, e2, bind_ok]
theorem test_of {a : ME} {ρ : Ro} {h h' : MH} {b : Bool} (e : a ρ h = .ok (.bl b) h') : testM a ρ h = .ok b h' := by simp only [testM, e, bind_ok]
theorem truB_of {a : ME} {ρ : Ro} {h h' : MH} {b : Bool} (e : a ρ h = .ok (.bl b) h') : truM a ρ h = .ok b h' := by simp only [truM, e, bind_ok, truD]
theorem not_of {a : MT} {ρ : Ro} {h h' : MH} {b : Bool} (e : a ρ h = .ok b h') : notT a ρ h = .ok (!b) h' := by simp only [notT, e, bind_ok]
theorem if_t {t : MT} {a b : MS} {ρ : Ro} {h h' : MH} (e : t ρ h = .ok true h') : ifS t a b ρ h = a ρ h' := by simp only [ifS, e, bind_ok, if_true]
theorem if_f {t : MT} {a b : MS} {ρ : Ro} {h h' : MH} (e : t ρ h = .ok false h') : ifS t a b ρ h = b ρ h' := by simp only [ifS, e, bind_ok, Bool.false_eq_true, if_false]
theorem orM_of {a b : ME} {ρ : Ro} {h h1 h2 : MH} {x y : Bool} (e1 : a ρ h = .ok (.bl x) h1) (e2 : x = false → b ρ h1 = .ok (.bl y) h2) (e3 : x = true → h1 = h2) : Mir.orM a b ρ h = .ok (.bl (x || y)) h2 := by
  cases x with
  | true => simp only [Mir.orM, e1, bind_ok, e3 rfl, Bool.true_or]
  | false => simp only [Mir.orM, e1, bind_ok, e2 rfl, Bool.false_or]
theorem andM_of {a b : ME} {ρ : Ro} {h h1 h2 : MH} {x y : Bool} (e1 : a ρ h = .ok (.bl x) h1) (e2 : x = true → b ρ h1 = .ok (.bl y) h2) (e3 : x = false → h1 = h2) : Mir.andM a b ρ h = .ok (.bl (x && y)) h2 := by
  cases x with
  | false => simp only [Mir.andM, e1, bind_ok, e3 rfl, Bool.false_and]
  | true => simp only [Mir.andM, e1, bind_ok, e2 rfl, Bool.true_and]
theorem orT_of {a b : MT} {ρ : Ro} {h h1 h2 : MH} {x y : Bool} (e1 : a ρ h = .ok x h1) (e2 : x = false → b ρ h1 = .ok y h2) (e3 : x = true → h1 = h2) : orT a b ρ h = .ok (x || y) h2 := by
  cases x with
  | true => simp only [orT, e1, bind_ok, e3 rfl, Bool.true_or, if_true]
  | false => simp only [orT, e1, bind_ok, e2 rfl, Bool.false_or, Bool.false_eq_true, if_false]
theorem andT_of {a b : MT} {ρ : Ro} {h h1 h2 : MH} {x y : Bool} (e1 : a ρ h = .ok x h1) (e2 : x = true → b ρ h1 = .ok y h2) (e3 : x = false → h1 = h2) : andT a b ρ h = .ok (x && y) h2 := by
  cases x with
  | false => simp only [andT, e1, bind_ok, e3 rfl, Bool.false_and, Bool.false_eq_true, if_false]
  | true => simp only [andT, e1, bind_ok, e2 rfl, Bool.true_and, if_true]
theorem cE_str {a b : Str} {h : MH} : compD .Eq (.str a) (.str b) h = .ok (.bl (decide (a = b))) h := rfl
theorem cE_int {a b : Int} {h : MH} : compD .Eq (.int a) (.int b) h = .ok (.bl (decide (a = b))) h := rfl
theorem cE_bl {a b : Bool} {h : MH} : compD .Eq (.bl a) (.bl b) h = .ok (.bl (decide (a = b))) h := rfl
theorem cN_int {a b : Int} {h : MH} : compD .NotEq (.int a) (.int b) h = .ok (.bl (!decide (a = b))) h := rfl
theorem cN_str {a b : Str} {h : MH} : compD .NotEq (.str a) (.str b) h = .ok (.bl (!decide (a = b))) h := rfl
theorem cN_bl {a b : Bool} {h : MH} : compD .NotEq (.bl a) (.bl b) h = .ok (.bl (!decide (a = b))) h := rfl
theorem ne_bl {a b : Bool} {h : MH} : neD (.bl a) (.bl b) h = .ok (.bl (!decide (a = b))) h := rfl
theorem ne_int {a b : Int} {h : MH} : neD (.int a) (.int b) h = .ok (.bl (!decide (a = b))) h := rfl
theorem eq_int {a b : Int} {h : MH} : eqD (.int a) (.int b) h = .ok (.bl (decide (a = b))) h := rfl
theorem eq_str {a b : Str} {h : MH} : eqD (.str a) (.str b) h = .ok (.bl (decide (a = b))) h := rfl
theorem eq_bl {a b : Bool} {h : MH} : eqD (.bl a) (.bl b) h = .ok (.bl (decide (a = b))) h := rfl
theorem run_of {m : MS} {N : List Str} {ds : List D} {h h' : MH} {d : D} {ρ : Ro} (e : m (startD N ds) h = .ok (.rt d, ρ) h') : runB m N ds h = .ok d h' := by unfold runB; rw [e]; rfl
/-! is_token -/
def tokF (x : Str) : Bool := !decide (x = PySem.Str.ofString "") && x.cps.toList.all fun c => Tk c
theorem is_token_ok (n : Nat) (x : Str) (h : MH) : R (n + 3) "is_token" [.str x] h = .ok (.bl (tokF x)) h := by
  rw [r_is_token]
  unfold tokF
  by_cases hx : x = PySem.Str.ofString ""
  · rw [decide_eq_true hx]
    refine run_of (ρ := [some (.str x), none]) ?_
    refine seq_rt ?_
    rw [if_t (h' := h) (test_of (b := true) (by rw [bin_ok (var_ok rfl) rfl, cE_str, decide_eq_true hx]))]
    rfl
  · rw [decide_eq_false hx, Bool.not_false, Bool.true_and]
    have loop := for_all (chk := always) (g := nameG 1) (b := (seqS (ifS (notT (truM (callN 1 (R (n + 2) "is_token_sign") (argsE [callM (bltD "ord") (argsE [varM 1])])))) (seqS (retS (cM (.bl false))) nxS) nxS) nxS)) (p := fun d => match d with | .str y => Tk (y.cps.toList.getD 0 0 : Nat) | _ => false) (d := .bl false)
      (fun ρ h' => (∃ c, ρ = [some (.str x), c]) ∧ h = h') (fun _ _ _ => rfl) (signs x) [some (.str x), none] h ⟨⟨_, rfl⟩, rfl⟩ (fun d hd ρ h' hI => by
        obtain ⟨⟨c, rfl⟩, rfl⟩ := hI
        rw [sg_signs] at hd
        obtain ⟨k, _, rfl⟩ := List.mem_map.mp hd
        have e : truM (callN 1 (R (n + 2) "is_token_sign") (argsE [callM (bltD "ord") (argsE [varM 1])])) [some (.str x), some (.str (one k))] h = .ok (Tk k) h := truB_of (by rw [call1 (ord_ok rfl), tks_ok])
        simp only [nameG, Wp_ok, List.set_cons_succ, List.set_cons_zero]
        refine Wp.mono (Q := fun r h2 => ((∃ c, r.2 = [some (.str x), c]) ∧ h = h2) ∧ r.1 = if Tk k = true then .nx else .rt (.bl false)) ?_ fun _ _ z => z
        by_cases q : Tk k = true
        · rw [seq_ok (if_f (by rw [not_of e, q]; rfl)), if_pos q]; exact ⟨⟨⟨_, rfl⟩, rfl⟩, rfl⟩
        · rw [Bool.not_eq_true] at q
          rw [seq_rt (h' := h) (ρ' := [some (.str x), some (.str (one k))]) (d := .bl false) (by rw [if_t (by rw [not_of e, q]; rfl)]; rfl), q, if_neg Bool.false_ne_true]; exact ⟨⟨⟨_, rfl⟩, rfl⟩, rfl⟩)
    obtain ⟨r, h', e, ⟨⟨c, q1⟩, rfl⟩, q2⟩ := loop.ex
    obtain ⟨fl, ρ'⟩ := r
    simp only at q1 q2
    subst q1
    have ea : (signs x).all (fun d => match d with | .str y => Tk (y.cps.toList.getD 0 0 : Nat) | _ => false) = x.cps.toList.all fun c => Tk c := by rw [sg_signs, List.all_map]; rfl
    rw [ea] at q2
    have ef : forS (seqI (varM 0)) (nameG 1) (seqS (ifS (notT (truM (callN 1 (R (n + 2) "is_token_sign") (argsE [callM (bltD "ord") (argsE [varM 1])])))) (seqS (retS (cM (.bl false))) nxS) nxS) nxS) [some (.str x), none] h = .ok (fl, [some (.str x), c]) h := by
      unfold forS
      have : seqI (varM 0) [some (.str x), none] h = .ok (signs x, always) h := rfl
      rw [this, bind_ok]
      exact e
    refine run_of (ρ := [some (.str x), c]) ?_
    show s_is_token (R (n + 2)) [some (.str x), none] h = _
    unfold s_is_token
    rw [seq_ok (if_f (h' := h) (test_of (b := false) (by rw [bin_ok (var_ok rfl) rfl, cE_str, decide_eq_false hx])))]
    cases hv : x.cps.toList.all fun c => Tk c with
    | false =>
      rw [hv, if_neg Bool.false_ne_true] at q2
      subst q2
      exact seq_rt ef
    | true =>
      rw [hv, if_pos rfl] at q2
      subst q2
      rw [seq_ok ef]
      rfl
/-! hex_digit -/
theorem lo_ok (n : Nat) (o : Int) (h : MH) : R (n + 1) "lower_octet" [.int o] h = .ok (.int (if (decide (65 ≤ o) && decide (o ≤ 90)) = true then o + 32 else o)) h := by
  rw [r_lower_octet]
  have c : testM (chainM (compD .LtE) (compD .LtE) (cM (.int 65)) (varM 0) (cM (.int 90))) [some (.int o)] h = .ok (decide (65 ≤ o) && decide (o ≤ 90)) h := test_of (chain_ok (h := h) o (a := 65) (c := 90) (ρ := [some (.int o)]) (i := 0) rfl)
  refine run_of (ρ := [some (.int o)]) ?_
  show s_lower_octet (R n) [some (.int o)] h = _
  unfold s_lower_octet
  cases q : (decide (65 ≤ o) && decide (o ≤ 90)) with
  | true => rw [q] at c; rw [seq_rt (by rw [if_t c]; rfl)]; rfl
  | false => rw [q] at c; rw [seq_ok (if_f c)]; rfl
theorem hex_ok (n : Nat) (o : Int) (h : MH) : R (n + 2) "hex_digit" [.int o] h = .ok (.int (hexF o)) h := by
  rw [r_hex_digit]
  refine run_of (ρ := if dig o = true then [some (.int o), none] else [some (.int o), some (.int (if (decide (65 ≤ o) && decide (o ≤ 90)) = true then o + 32 else o))]) ?_
  show s_hex_digit (R (n + 1)) [some (.int o), none] h = _
  unfold s_hex_digit hexF
  have c : truM (callN 1 (R (n + 1) "is_digit") (argsE [varM 0])) [some (.int o), none] h = .ok (dig o) h := truB_of (by rw [call1 (var_ok rfl), dg_ok])
  by_cases q : dig o = true
  · rw [q] at c
    rw [if_pos q, if_pos q, seq_rt (by rw [if_t c]; rfl)]
  · have q' : dig o = false := by simpa using q
    rw [q'] at c
    rw [if_neg q, if_neg q, seq_ok (if_f c), seq_ok (set_ok (by rw [call1 (var_ok rfl), lo_ok]))]
    generalize hs : (if (decide (65 ≤ o) && decide (o ≤ 90)) = true then o + 32 else o) = t
    have c2 : testM (chainM (compD .LtE) (compD .LtE) (cM (.int 97)) (varM 1) (cM (.int 102))) [some (.int o), some (.int t)] h = .ok (decide (97 ≤ t) && decide (t ≤ 102)) h := test_of (chain_ok (h := h) t (a := 97) (c := 102) (ρ := [some (.int o), some (.int t)]) (i := 1) rfl)
    show seqS _ _ [some (.int o), some (.int t)] h = _
    by_cases z : (decide (97 ≤ t) && decide (t ≤ 102)) = true
    · rw [z] at c2
      rw [seq_rt (by rw [if_t c2]; rfl)]
      have : t - 87 = (if (decide (65 ≤ o) && decide (o ≤ 70)) = true then o - 55 else if (decide (97 ≤ o) && decide (o ≤ 102)) = true then o - 87 else -1) := by
        simp only [Bool.and_eq_true, decide_eq_true_eq] at hs z ⊢
        subst hs
        split at z <;> split <;> first | omega | (split <;> omega)
      rw [← this]
    · have z' : (decide (97 ≤ t) && decide (t ≤ 102)) = false := by simpa using z
      rw [z'] at c2
      rw [seq_ok (if_f c2)]
      have : -1 = (if (decide (65 ≤ o) && decide (o ≤ 70)) = true then o - 55 else if (decide (97 ≤ o) && decide (o ≤ 102)) = true then o - 87 else -1) := by
        simp only [Bool.and_eq_true, decide_eq_true_eq] at hs z ⊢
        subst hs
        split at z <;> split <;> first | omega | (split <;> omega)
      rw [← this]
      rfl
end Law
namespace Law
open PySem L2 Mir
theorem Wp_set {i : Nat} {e : ME} {B : MS} {ρ : Ro} {h : MH} {Q : Fl × Ro → MH → Prop} : Wp (seqS (setS i e) B ρ h) Q = Wp (e ρ h) fun d h1 => Wp (B (ρ.set i (some d)) h1) Q := by
  rw [Wp_seqS]; unfold setS; rw [Wp_bind]; rfl
theorem Wp_so {a b : MS} {ρ ρ' : Ro} {h h' : MH} {Q : Fl × Ro → MH → Prop} (e : a ρ h = .ok (.nx, ρ') h') (q : Wp (b ρ' h') Q) : Wp (seqS a b ρ h) Q := by rw [seq_ok e]; exact q
theorem orMs_of {a b : ME} {r : List ME} {ρ : Ro} {h h1 h2 : MH} {x y : Bool} (e1 : a ρ h = .ok (.bl x) h1) (e2 : x = false → orMs (b :: r) ρ h1 = .ok (.bl y) h2) (e3 : x = true → h1 = h2) : orMs (a :: b :: r) ρ h = .ok (.bl (x || y)) h2 := orM_of e1 e2 e3
theorem andMs_of {a b : ME} {r : List ME} {ρ : Ro} {h h1 h2 : MH} {x y : Bool} (e1 : a ρ h = .ok (.bl x) h1) (e2 : x = true → andMs (b :: r) ρ h1 = .ok (.bl y) h2) (e3 : x = false → h1 = h2) : andMs (a :: b :: r) ρ h = .ok (.bl (x && y)) h2 := andM_of e1 e2 e3
theorem orTs_of {a b : MT} {r : List MT} {ρ : Ro} {h h1 h2 : MH} {x y : Bool} (e1 : a ρ h = .ok x h1) (e2 : x = false → orTs (b :: r) ρ h1 = .ok y h2) (e3 : x = true → h1 = h2) : orTs (a :: b :: r) ρ h = .ok (x || y) h2 := orT_of e1 e2 e3
theorem andTs_of {a b : MT} {r : List MT} {ρ : Ro} {h h1 h2 : MH} {x y : Bool} (e1 : a ρ h = .ok x h1) (e2 : x = true → andTs (b :: r) ρ h1 = .ok y h2) (e3 : x = false → h1 = h2) : andTs (a :: b :: r) ρ h = .ok (x && y) h2 := andT_of e1 e2 e3
theorem chainC {h : MH} {o a c : Int} {ρ : Ro} {i : Nat} (hi : ρ[i]? = some (some (.int o))) : chainM (compD .LtE) (compD .LtE) (cM (.int a)) (varM i) (cM (.int c)) ρ h = .ok (.bl (decide (a ≤ o) && decide (o ≤ c))) h := chain_ok h o hi
theorem any_eqF (o : Int) : ∀ l : List Int, (l.map D.int).any (fun d => eqF d (.int o)) = l.contains o
  | [] => rfl
  | a :: l => by
    rw [List.map_cons, List.any_cons, any_eqF o l, List.contains_cons]
    have : eqF (.int a) (.int o) = (o == a) := by
      show (a == o) = _
      by_cases q : a = o
      · subst q; simp
      · have : ¬ o = a := fun z => q z.symm
        rw [beq_eq_false_iff_ne.mpr q, beq_eq_false_iff_ne.mpr this]
    rw [this]
theorem flat_ints : ∀ l : List Int, (l.map D.int).all flatD = true
  | [] => rfl
  | _ :: l => by rw [List.map_cons, List.all_cons, flat_ints l]; rfl
theorem take_E (m : Nat) (ds : List D) (h : MH) : R (m + 1) "_law_take" ds h = runB takeS d__law_take.N ds h := r__law_take m ds h
theorem draw_E (m : Nat) (ds : List D) (h : MH) : R (m + 1) "_law_draw" ds h = runB drawS d__law_draw.N ds h := r__law_draw m ds h
/-- take(draw, k) -/
theorem tkW (m : Nat) {me : ME} {ρ : Ro} {h : MH} {n : Nat} {i : Nat} {k : Int} (hi : ρ[i]? = some (some (.ref n))) (hk : me ρ h = .ok (.int k) h) (hd : DrawAt h n) (h0 : 0 < k) (h1 : k < 2 ^ 64) :
    Wp (callN 2 (R (m + 1) "_law_take") (argsE [varM i, me]) ρ h) fun v h' => ∃ j, v = .int j ∧ 0 ≤ j ∧ j < k ∧ Drawn1 h h' n := by
  rw [call2 (var_ok hi) hk, take_E]
  exact take_ok rfl hd h0 h1
theorem tkE (m : Nat) {ρ : Ro} {h : MH} {n : Nat} {i : Nat} {k : Int} (hi : ρ[i]? = some (some (.ref n))) (hd : DrawAt h n) (h0 : 0 < k) (h1 : k < 2 ^ 64) :
    Wp (callN 2 (R (m + 1) "_law_take") (argsE [varM i, cM (.int k)]) ρ h) fun v h' => ∃ j, v = .int j ∧ 0 ≤ j ∧ j < k ∧ Drawn1 h h' n := tkW m hi rfl hd h0 h1
theorem inL (o : Int) {h : MH} : inD (.int o) (.ref h.length) (h ++ [.lst (mks.map .int)]) = .ok (.bl (mks.contains o)) (h ++ [.lst (mks.map .int)]) := by
  simp only [inD, inO, seqO_new, flat_ints, any_eqF, flatD, and_self, if_true]
theorem right_ok (m : Nat) {h : MH} {n : Nat} (hd : DrawAt h n) : Wp (R (m + 4) "_law_signs_right" [.ref n] h) fun v h' => v = .bl true ∧ Stp h h' n := by
  rw [r__law_signs_right]
  unfold runB
  rw [Wp_resF]
  show Wp (s__law_signs_right (R (m + 3)) [some (.ref n), none, none, none, none, none, none, none] h) _
  unfold s__law_signs_right
  rw [Wp_set]
  refine (tkE (m + 2) (i := 0) (k := 256) rfl hd (by decide) (by decide)).mono fun v h1 ⟨o, e, o0, o1, d1⟩ => ?_
  subst e
  have S1 : Stp h h1 n := .of d1
  change Wp (seqS (setS 2 _) _ [some (.ref n), some (.int o), none, none, none, none, none, none] h1) _
  refine Wp_so (set_ok (orMs_of (chainC (o := o) rfl) (fun _ => chainC (o := o) rfl) fun _ => rfl)) ?_
  change Wp (seqS (setS 3 _) _ [some (.ref n), some (.int o), some (.bl (ltr o)), none, none, none, none, none] h1) _
  refine Wp_so (set_ok (chainC (o := o) rfl)) ?_
  change Wp (seqS (setS 4 _) _ [some (.ref n), some (.int o), some (.bl (ltr o)), some (.bl (dig o)), none, none, none, none] h1) _
  have e4 : ∃ g, orMs [varM 2, varM 3, binM (compD .In) (varM 1) (lstM (argsE [cM (.int 33), cM (.int 35), cM (.int 36), cM (.int 38), cM (.int 39), cM (.int 42), cM (.int 43), cM (.int 45), cM (.int 46), cM (.int 94), cM (.int 95), cM (.int 96), cM (.int 124), cM (.int 126)]))]
      [some (.ref n), some (.int o), some (.bl (ltr o)), some (.bl (dig o)), none, none, none, none] h1 = .ok (.bl (Tk o)) (h1 ++ g) := by
    have hz : (14 : Nat) ≤ sizeLine := by rw [sizeLine_eq]; decide
    have el : lstM (argsE [cM (.int 33), cM (.int 35), cM (.int 36), cM (.int 38), cM (.int 39), cM (.int 42), cM (.int 43), cM (.int 45), cM (.int 46), cM (.int 94), cM (.int 95), cM (.int 96), cM (.int 124), cM (.int 126)]) [some (.ref n), some (.int o), some (.bl (ltr o)), some (.bl (dig o)), none, none, none, none] h1 = .ok (.ref h1.length) (h1 ++ [.lst (mks.map .int)]) := by
      simp only [lstM, argsE, consM, nilM, cM, bind_ok, List.length_cons, List.length_nil, Nat.zero_add, Nat.reduceAdd, hz, if_true]
      rfl
    unfold Tk
    cases q1 : ltr o with
    | true => exact ⟨[], by rw [List.append_nil]; exact orMs_of (x := true) (y := false) rfl (fun z => by cases z) fun _ => rfl⟩
    | false =>
      cases q2 : dig o with
      | true => exact ⟨[], by rw [List.append_nil]; exact orMs_of (x := false) (y := true) rfl (fun _ => orMs_of (x := true) (y := false) rfl (fun z => by cases z) fun _ => rfl) fun z => by cases z⟩
      | false =>
        rw [q1, q2] at el
        exact ⟨_, orMs_of (x := false) rfl (fun _ => orMs_of (x := false) rfl (fun _ => (bin_ok (var_ok rfl) el).trans (inL o)) fun z => by cases z) fun z => by cases z⟩
  obtain ⟨g, e4⟩ := e4
  refine Wp_so (set_ok e4) ?_
  have S2 : Stp h (h1 ++ g) n := S1.app
  generalize h1 ++ g = h2 at S2
  change Wp (seqS (setS 5 _) _ [some (.ref n), some (.int o), some (.bl (ltr o)), some (.bl (dig o)), some (.bl (Tk o)), none, none, none] h2) _
  refine Wp_so (set_ok (orMs_of (x := decide (o = 9)) ((bin_ok (var_ok rfl) rfl).trans cE_int) (fun _ => andMs_of (x := decide (32 ≤ o) && decide (o ≤ 126)) (chainC (o := o) rfl) (fun _ => (bin_ok (var_ok rfl) rfl).trans cN_int) fun _ => rfl) fun _ => rfl)) ?_
  change Wp (seqS (ifS _ _ _) _ [some (.ref n), some (.int o), some (.bl (ltr o)), some (.bl (dig o)), some (.bl (Tk o)), some (.bl (V o)), none, none] h2) _
  refine Wp_so (if_f (orTs_of (x := false) (y := false) (h1 := h2) (h2 := h2)
    (test_of (by rw [bin_ok ((call1 (var_ok rfl)).trans (tks_ok (m + 1) h2 o)) (var_ok rfl), cN_bl, decide_eq_true rfl]; rfl))
    (fun _ => test_of (by rw [bin_ok ((call1 (var_ok rfl)).trans (vs_ok (m + 2) h2 o)) (var_ok rfl), cN_bl, decide_eq_true rfl]; rfl)) fun z => by cases z)) ?_
  refine Wp_so (set_ok (d := .int (-1)) (h' := h2) rfl) ?_
  change Wp (seqS (ifS _ _ _) _ [some (.ref n), some (.int o), some (.bl (ltr o)), some (.bl (dig o)), some (.bl (Tk o)), some (.bl (V o)), some (.int (-1)), none] h2) _
  have i1 : ∀ r, ifS (truM (varM 3)) (seqS (setS 6 (binM (binD .Sub) (varM 1) (cM (.int 48)))) nxS) nxS [some (.ref n), some (.int o), some (.bl (ltr o)), some (.bl (dig o)), some (.bl (Tk o)), some (.bl (V o)), some (.int r), none] h2
      = .ok (.nx, [some (.ref n), some (.int o), some (.bl (ltr o)), some (.bl (dig o)), some (.bl (Tk o)), some (.bl (V o)), some (.int (if dig o = true then o - 48 else r)), none]) h2 := fun r => by
    by_cases q : dig o = true
    · rw [if_t (truB_of (b := true) (by rw [← q]; rfl)), if_pos q]; rfl
    · rw [if_f (truB_of (b := false) (by rw [← (by simpa using q : dig o = false)]; rfl)), if_neg q]; rfl
  have i2 : ∀ (a c f r : Int), ifS (testM (chainM (compD .LtE) (compD .LtE) (cM (.int a)) (varM 1) (cM (.int c)))) (seqS (setS 6 (binM (binD .Sub) (varM 1) (cM (.int f)))) nxS) nxS [some (.ref n), some (.int o), some (.bl (ltr o)), some (.bl (dig o)), some (.bl (Tk o)), some (.bl (V o)), some (.int r), none] h2
      = .ok (.nx, [some (.ref n), some (.int o), some (.bl (ltr o)), some (.bl (dig o)), some (.bl (Tk o)), some (.bl (V o)), some (.int (if (decide (a ≤ o) && decide (o ≤ c)) = true then o - f else r)), none]) h2 := fun a c f r => by
    by_cases q : (decide (a ≤ o) && decide (o ≤ c)) = true
    · rw [if_t (test_of (b := true) (by rw [← q]; exact chainC rfl)), if_pos q]; rfl
    · rw [if_f (test_of (b := false) (by rw [← (by simpa using q : (decide (a ≤ o) && decide (o ≤ c)) = false)]; exact chainC rfl)), if_neg q]; rfl
  refine Wp_so (i1 _) (Wp_so (i2 _ _ _ _) (Wp_so (i2 _ _ _ _) ?_))
  have hh : (if (decide (97 ≤ o) && decide (o ≤ 102)) = true then o - 87 else if (decide (65 ≤ o) && decide (o ≤ 70)) = true then o - 55 else if dig o = true then o - 48 else -1) = hexF o := by
    unfold hexF dig
    simp only [Bool.and_eq_true, decide_eq_true_eq]
    split <;> split <;> first | omega | (split <;> first | omega | (split <;> omega))
  rw [hh]
  refine Wp_so (if_f (test_of (by rw [bin_ok ((call1 (var_ok rfl)).trans (hex_ok (m + 1) o h2)) (var_ok rfl), cN_int, decide_eq_true rfl]; rfl))) ?_
  obtain ⟨g3, e7⟩ := to_text_ok (m + 1) [o] h2 (show 1 ≤ 16777216 from by decide)
  have hz : (1 : Nat) ≤ sizeLine := by rw [sizeLine_eq]; decide
  have e7' : callN 1 (R (m + 3) "to_text") (argsE [tupM (argsE [varM 1])]) [some (.ref n), some (.int o), some (.bl (ltr o)), some (.bl (dig o)), some (.bl (Tk o)), some (.bl (V o)), some (.int (hexF o)), none] h2 = _ := (call1 (x := .tup (rowD [o])) (h1 := h2) (by
    simp only [tupM, argsE, consM, nilM, varM, bind_ok, List.getElem?_cons_zero, List.getElem?_cons_succ, List.length_cons, List.length_nil, Nat.zero_add, hz, if_true]; rfl)).trans e7
  refine Wp_so (set_ok e7') ?_
  have S3 : Stp h (h2 ++ g3) n := S2.app
  generalize h2 ++ g3 = h3 at S3
  have ev : [o].all V = V o := by rw [List.all_cons, List.all_nil, Bool.and_true]
  rw [ev]
  cases q : V o with
  | false =>
    rw [if_neg Bool.false_ne_true]
    rw [seq_rt (by rw [if_t (not_of (b := false) (truB_of rfl))]; rfl), Wp_ok]
    exact ⟨rfl, S3⟩
  | true =>
    rw [if_pos rfl]
    refine Wp_so (if_f (not_of (b := true) (truB_of rfl))) ?_
    have k1 : kitB "str" "str" = some true := by kernel_rfl
    have hz2 : (charsOf [o]).length ≤ sizeLine := hz
    have eo : ((o.toNat : Nat) : Int) = o := by omega
    have et : tokF (charsOf [o]) = Tk o := by
      unfold tokF
      have : ¬ charsOf [o] = PySem.Str.ofString "" := fun z => by have := congrArg (fun s : Str => s.cps.size) z; simp [charsOf] at this; exact absurd this (by decide)
      rw [decide_eq_false this]
      show (true && (Tk (o.toNat : Nat) && true)) = _
      rw [eo, Bool.and_true, Bool.true_and]
    rw [ret_ok (d := .bl true) (h' := h3) ?_, Wp_ok]
    · exact ⟨rfl, S3⟩
    refine andMs_of (x := true) (y := true) (h1 := h3) ?_ (fun _ => andMs_of (x := true) (y := true) (h1 := h3) ?_ (fun _ => andMs_of (x := true) (y := true) (h1 := h3) ?_ (fun _ => ?_) fun z => by cases z) fun z => by cases z) fun z => by cases z
    · simp [callM, argsE, consM, nilM, varM, cM, bind_ok, bltD, tyN, k1]
    · refine (bin_ok (x := .int 1) (h1 := h3) ?_ rfl).trans rfl
      simp [callM, argsE, consM, nilM, varM, bind_ok, bltD, lenO, hz2]
      rfl
    · refine (bin_ok (x := .int o) (h1 := h3) ?_ (var_ok rfl)).trans (by rw [cE_int, decide_eq_true rfl])
      have := ord_ok (ρ := [some (.ref n), some (.int o), some (.bl (ltr o)), some (.bl (dig o)), some (.bl (Tk o)), some (.bl true), some (.int (hexF o)), some (.str (charsOf [o]))]) (i := 7) (c := o.toNat) (h := h3) rfl
      rw [eo] at this
      exact this
    · refine (bin_ok (x := .bl (Tk o)) (h1 := h3) ?_ (var_ok rfl)).trans (by rw [cE_bl, decide_eq_true rfl])
      rw [call1 (var_ok rfl), is_token_ok m, et]
end Law
namespace Law
open PySem L2 Mir
/-- a text of the law's own signs -/
structure Gd (x : Str) (k : Nat) : Prop where
  sg : ∀ c ∈ x.cps.toList, c < 128 ∧ c ≠ 96
  len : x.cps.toList.length ≤ k
def wsS : Str := PySem.Str.ofString "abcdefghijklmnopqrstuvwxyz0123456789-_.!#$&'*+^|~"
def tsS : Str := PySem.Str.ofString "abc XYZ 019 ,;=()<>@/?\"'\t{}~-"
theorem ws_all : (wsS.cps.toList.all fun c => decide (c < 128) && !decide (c = 96)) = true ∧ wsS.cps.toList.length = 49 := by constructor <;> decide +kernel
theorem ts_all : (tsS.cps.toList.all fun c => decide (c < 128) && !decide (c = 96)) = true ∧ tsS.cps.toList.length = 29 := by constructor <;> decide +kernel
theorem drawL (m : Nat) {S : Str} {K : Int} {i j n : Nat} {me : ME} {ρ0 : Ro} {xs : List D} {h : MH} (hS : S.length ≤ sizeLine) (hK : K = (S.cps.toList.length : Nat)) (h0 : 0 < K) (h1 : K < 2 ^ 64)
    (hj0 : j ≠ 0) (hji : j ≠ i) (r0 : ρ0[0]? = some (some (.ref n))) (ri : ρ0[i]? = some (some (.str S))) (hme : ∀ x h', me (ρ0.set j (some x)) h' = .ok (.int K) h') (hd : DrawAt h n) (hn : xs.length ≤ 1000) :
    Wp (lcL always (nameG j) yesT (binM ixD (varM i) (callN 2 (R (m + 1) "_law_take") (argsE [varM 0, me]))) ρ0 h.length xs (h ++ [.lst []])) fun v h' => v = .ref h.length ∧ ∃ cs : List Nat, h'[h.length]? = some (.lst (cs.map fun c => .str (one c))) ∧ cs.length = xs.length ∧ (∀ c ∈ cs, c ∈ S.cps.toList) ∧ Stp h h' n := by
  refine lcL_wp (fun k h' => ∃ cs : List Nat, h'[h.length]? = some (.lst (cs.map fun c => .str (one c))) ∧ cs.length = k ∧ (∀ c ∈ cs, c ∈ S.cps.toList) ∧ Stp h h' n) ⟨[], by rw [getE0]; rfl, rfl, (fun c hc => by cases hc), (Stp.refl hd).app⟩ ?_ ?_
  · rintro k h' x hx ⟨cs, e1, e2, e3, e4⟩
    have hk : k < xs.length := (List.getElem?_eq_some_iff.mp hx).1
    refine ⟨rfl, ?_⟩
    simp only [nameG, Wp_ok, yesT, if_true]
    unfold binM
    rw [Wp_bind]
    have ri' : (ρ0.set j (some x))[i]? = some (some (.str S)) := by rw [List.getElem?_set_ne hji]; exact ri
    have r0' : (ρ0.set j (some x))[0]? = some (some (.ref n)) := by rw [List.getElem?_set_ne hj0]; exact r0
    rw [var_ok ri', Wp_ok, Wp_bind]
    refine (tkW m r0' (hme x h') e4.at_ h0 h1).mono fun v h2 ⟨o, e, o0, o1, d⟩ => ?_
    subst e
    have ho : o.toNat < S.cps.toList.length := by omega
    have ea : atI S.cps.toList o = some (S.cps.toList[o.toNat]) := by
      unfold atI ixN
      rw [if_pos o0, if_pos (by omega)]
      simp only [Option.bind_some]
      rw [List.getElem?_eq_getElem ho]
    simp only [ixD, ixO, hS, if_true, ea, Option.map_some, Wp_ok]
    have e1' := d.kept e1 (by have := hd.lt; omega)
    refine ⟨_, e1', by rw [List.length_map, sizeLine_eq]; omega, cs ++ [S.cps.toList[o.toNat]], ?_, by rw [List.length_append, e2]; rfl, ?_, (e4.trans (.of d)).put (Nat.le_refl _) hd.lt⟩
    · rw [get_set e1', List.map_append]; rfl
    · intro c hc
      rcases List.mem_append.mp hc with hc | hc
      · exact e3 c hc
      · rw [List.mem_singleton] at hc; subst hc; exact List.getElem_mem ho
  · rintro h' ⟨cs, e1, e2, e3, e4⟩
    exact ⟨rfl, rfl, cs, e1, e2, e3, e4⟩
theorem bm_str1 {nm : Str} {g : D → List D → MH → Res D} {o a : ME} {ρ : Ro} {h h1 h2 : MH} {x : Str} {y : D} (hg : bmTab "str" nm = some g) (e : o ρ h = .ok (.str x) h1) (e2 : a ρ h1 = .ok y h2) : bmE nm o (argsE [a]) ρ h = g (.str x) [y] h2 := by
  have t : isTy "str" (.str x) h1 = true := rfl
  simp only [bmE, e, t, if_true, hg, bmM, bind_ok, argsE, consM, nilM, e2]
theorem bm_str0 {nm : Str} {g : D → List D → MH → Res D} {o : ME} {ρ : Ro} {h h1 : MH} {x : Str} (hg : bmTab "str" nm = some g) (e : o ρ h = .ok (.str x) h1) : bmE nm o (argsE []) ρ h = g (.str x) [] h1 := by
  have t : isTy "str" (.str x) h1 = true := rfl
  simp only [bmE, e, t, if_true, hg, bmM, bind_ok, argsE, nilM]
theorem bm_lst1 {nm : Str} {g : D → List D → MH → Res D} {o a : ME} {ρ : Ro} {h h1 h2 : MH} {n : Nat} {ds : List D} {y : D} (hg : bmTab "list" nm = some g) (e : o ρ h = .ok (.ref n) h1) (hn : h1[n]? = some (.lst ds)) (e2 : a ρ h1 = .ok y h2) : bmE nm o (argsE [a]) ρ h = g (.ref n) [y] h2 := by
  have t1 : isTy "str" (.ref n) h1 = false := by simp only [isTy, hn]; decide
  have t2 : isTy "list" (.ref n) h1 = true := by simp only [isTy, hn]; decide
  simp only [bmE, e, t1, t2, if_true, if_false, Bool.false_eq_true, hg, bmM, bind_ok, argsE, consM, nilM, e2]
theorem Wp_join {me : ME} {ρ : Ro} {h : MH} {Q : D → MH → Prop} {k : Nat} (hk : k ≤ 16777216) (e : Wp (me ρ h) fun v h' => ∃ cs : List Nat, seqO v h' = some (cs.map fun c => .str (one c)) ∧ cs.length ≤ k ∧ Q (.str ⟨cs.toArray⟩) h') :
    Wp (bmE "join" (cM (.str (PySem.Str.ofString ""))) (argsE [me]) ρ h) Q := by
  obtain ⟨v, h', e, cs, e1, e2, q⟩ := e.ex
  rw [join_of e e1 (by omega)]
  exact q
theorem Wp_ret {e : ME} {b : MS} {ρ : Ro} {h : MH} {Q : Fl × Ro → MH → Prop} (q : Wp (e ρ h) fun d h' => Q (.rt d, ρ) h') : Wp (seqS (retS e) b ρ h) Q := by
  obtain ⟨d, h', e, q⟩ := q.ex
  rw [ret_ok e]
  exact q
theorem bnd_ok {i : Int} (h0 : 0 ≤ i) (h1 : i < 2 ^ 62) : bnd62 i = true := by unfold bnd62; rw [decide_eq_true (by omega), decide_eq_true h1]; rfl
theorem len_from (lo c : Int) (n : Nat) : (Mir.intsFrom lo c n).length = n := by unfold Mir.intsFrom; rw [List.length_map, List.length_range]
theorem word_ok (m : Nat) {h : MH} {n : Nat} {most : Int} (hd : DrawAt h n) (h0 : 0 < most) (h1 : most ≤ 100) : Wp (R (m + 2) "_law_word" [.ref n, .int most] h) fun v h' => ∃ x, v = .str x ∧ Gd x 100 ∧ Stp h h' n ∧ 1 ≤ x.cps.toList.length := by
  rw [r__law_word]
  unfold runB
  rw [Wp_resF]
  show Wp (s__law_word (R (m + 1)) [some (.ref n), some (.int most), none, none] h) _
  unfold s__law_word
  refine Wp_so (set_ok rfl) ?_
  change Wp (seqS _ _ [some (.ref n), some (.int most), some (.str wsS), none] h) _
  refine Wp_ret (Wp_join (k := 100) (by decide) ?_)
  unfold lcM rangeI1
  simp only [argsE, consM, nilM, binM, cM, bind_ok, Wp_bind]
  have tk := tkW m (me := varM 1) (ρ := [some (.ref n), some (.int most), some (.str wsS), none]) (i := 0) (k := most) rfl (var_ok rfl) hd h0 (by omega)
  refine tk.mono fun v h2 ⟨o, e, o0, o1, d⟩ => ?_
  subst e
  simp only [binD, addD, bind_ok, Wp_ok]
  rw [if_pos (bnd_ok (by omega) (by omega)), Wp_ok]
  have dl := drawL m (S := wsS) (K := 49) (i := 2) (j := 3) (n := n) (me := cM (.int 49)) (ρ0 := [some (.ref n), some (.int most), some (.str wsS), none]) (xs := Mir.intsFrom 0 1 (1 + o).toNat) (h := h2) (by rw [sizeLine_eq]; decide +kernel) (by rw [ws_all.2]; rfl) (by decide) (by decide) (by decide) (by decide) rfl rfl (fun _ _ => rfl) d.at_ (by rw [len_from]; omega)
  refine dl.mono fun v h3 ⟨e, cs, e1, e2, e3, e4⟩ => ?_
  subst e
  rw [len_from] at e2
  refine ⟨cs, by simp only [seqO, e1], by omega, _, rfl, ⟨fun c hc => ?_, by show cs.length ≤ 100; omega⟩, (Stp.of d).trans e4, by show 1 ≤ cs.length; omega⟩
  have := List.all_eq_true.mp ws_all.1 c (e3 c hc)
  simpa using this
theorem strip_gd {x y : Str} {k : Nat} (g : Gd x k) : Gd (Txt.stripChars x y) k := by
  unfold Txt.stripChars Txt.stripBy
  split
  · exact g
  · unfold stripped Builtin.Str.strSub
    constructor
    · intro c hc
      refine g.sg c ?_
      simp only [Array.toList_extract, List.extract_eq_drop_take] at hc
      exact List.mem_of_mem_drop (List.mem_of_mem_take hc)
    · simp only [Array.toList_extract, List.extract_eq_drop_take]
      refine Nat.le_trans ?_ g.len
      rw [List.length_take, List.length_drop]
      omega
theorem text_ok (m : Nat) {h : MH} {n : Nat} (hd : DrawAt h n) : Wp (R (m + 2) "_law_text" [.ref n] h) fun v h' => ∃ x, v = .str x ∧ Gd x 100 ∧ Stp h h' n := by
  rw [r__law_text]
  unfold runB
  rw [Wp_resF]
  show Wp (s__law_text (R (m + 1)) [some (.ref n), none, none] h) _
  unfold s__law_text
  refine Wp_so (set_ok rfl) ?_
  change Wp (seqS _ _ [some (.ref n), some (.str tsS), none] h) _
  have hz : tsS.length ≤ sizeLine := by rw [sizeLine_eq]; decide +kernel
  have hz2 : tsS.length = 29 := by decide +kernel
  refine Wp_ret ?_
  have wj : Wp (bmE "join" (cM (.str (PySem.Str.ofString ""))) (argsE [lcM [2] (rangeI1 (argsE [callN 2 (R (m + 1) "_law_take") (argsE [varM 0, cM (.int 12)])])) (nameG 2) (yesT) (binM ixD (varM 1) (callN 2 (R (m + 1) "_law_take") (argsE [varM 0, callM (bltD "len") (argsE [varM 1])])))]) [some (.ref n), some (.str tsS), none] h) fun v h' => ∃ x, v = .str x ∧ Gd x 100 ∧ Stp h h' n := by
    refine Wp_join (k := 100) (by decide) ?_
    unfold lcM rangeI1
    simp only [argsE, consM, nilM, bind_ok, Wp_bind]
    have tk := tkW m (me := cM (.int 12)) (ρ := [some (.ref n), some (.str tsS), none]) (i := 0) (k := 12) rfl rfl hd (by decide) (by decide)
    refine tk.mono fun v h2 ⟨o, e, o0, o1, d⟩ => ?_
    subst e
    simp only [bind_ok, Wp_ok]
    rw [if_pos (bnd_ok (by omega) (by omega)), Wp_ok]
    have dl := drawL m (S := tsS) (K := 29) (i := 1) (j := 2) (n := n) (me := callM (bltD "len") (argsE [varM 1])) (ρ0 := [some (.ref n), some (.str tsS), none]) (xs := Mir.intsFrom 0 1 o.toNat) (h := h2) hz (by rw [ts_all.2]; rfl) (by decide) (by decide) (by decide) (by decide) rfl rfl (fun x h' => by
      rw [callM1 (x := .str tsS) (h1 := h') rfl]
      simp only [bltD, lenO, hz, if_true, hz2]
      rfl) d.at_ (by rw [len_from]; omega)
    refine dl.mono fun v h3 ⟨e, cs, e1, e2, e3, e4⟩ => ?_
    subst e
    rw [len_from] at e2
    refine ⟨cs, by simp only [seqO, e1], by omega, _, rfl, ⟨fun c hc => ?_, by show cs.length ≤ 100; omega⟩, (Stp.of d).trans e4⟩
    have := List.all_eq_true.mp ts_all.1 c (e3 c hc)
    simpa using this
  obtain ⟨v, h', e, x, e1, e2, e3⟩ := wj.ex
  subst e1
  have h3 : bmTab "str" (PySem.Str.ofString "strip") = some stripD := by kernel_rfl
  have hx : x.length ≤ sizeLine := by rw [sizeLine_eq]; have := e2.len; show x.cps.size ≤ _; rw [← Array.length_toList]; omega
  rw [bm_str1 h3 e rfl]
  simp only [stripD, hx, if_true, Wp_ok]
  exact ⟨_, rfl, strip_gd e2, e3⟩
end Law
namespace Law
open PySem L2 Mir
theorem Wp_drop {e : ME} {B : MS} {ρ : Ro} {h : MH} {Q : Fl × Ro → MH → Prop} : Wp (seqS (dropS e) B ρ h) Q = Wp (e ρ h) fun _ h1 => Wp (B ρ h1) Q := by
  rw [Wp_seqS]; unfold dropS; rw [Wp_bind]; rfl
theorem Wp_for1 {e : ME} {g : MG} {b : MS} {ρ : Ro} {h : MH} {Q : Fl × Ro → MH → Prop} (q : Wp (e ρ h) fun v h1 => ∃ o, v = .int o ∧ bnd62 o = true ∧ Wp (forL always g b (Mir.intsFrom 0 1 o.toNat) ρ h1) Q) : Wp (forS (rangeI1 (argsE [e])) g b ρ h) Q := by
  obtain ⟨v, h1, e1, o, e2, e3, q⟩ := q.ex
  subst e2
  unfold forS rangeI1
  simp only [argsE, consM, nilM, e1, bind_ok, e3, if_true]
  exact q
theorem Wp_bin {g : D → D → MH → Res D} {a b : ME} {ρ : Ro} {h : MH} {Q : D → MH → Prop} : Wp (binM g a b ρ h) Q = Wp (a ρ h) fun x h1 => Wp (b ρ h1) fun y h2 => Wp (g x y h2) Q := by
  unfold binM; rw [Wp_bind]; congr 1; funext x h1; rw [Wp_bind]
theorem Wp_test {a : ME} {ρ : Ro} {h : MH} {Q : Bool → MH → Prop} : Wp (testM a ρ h) Q = Wp (a ρ h) fun x h1 => match x with | .bl b => Q b h1 | _ => False := by
  unfold testM; rw [Wp_bind]; congr 1; funext x h1; cases x <;> rfl
theorem Wp_if {t : MT} {a b : MS} {ρ : Ro} {h : MH} {Q : Fl × Ro → MH → Prop} : Wp (ifS t a b ρ h) Q = Wp (t ρ h) fun c h1 => Wp (if c = true then a ρ h1 else b ρ h1) Q := by
  unfold ifS; rw [Wp_bind]
theorem app_tab : bmTab "list" (PySem.Str.ofString "append") = some appendD := by kernel_rfl
/-- xs.append(e) -/
theorem Wp_app {i q : Nat} {e : ME} {ρ : Ro} {h : MH} {ds : List D} {Q : D → MH → Prop} (hi : ρ[i]? = some (some (.ref q))) (hq : h[q]? = some (.lst ds))
    (he : Wp (e ρ h) fun d h1 => ∃ es, h1[q]? = some (.lst es) ∧ es.length < 1000 ∧ Q .non (h1.set q (.lst (es ++ [d])))) : Wp (bmE "append" (varM i) (argsE [e]) ρ h) Q := by
  obtain ⟨d, h1, e1, es, e2, e3, q1⟩ := he.ex
  have hl : es.length < sizeLine := by rw [sizeLine_eq]; omega
  rw [bm_lst1 app_tab (var_ok hi) hq e1]
  simp only [appendD, e2, hl, if_true, Wp_ok]
  exact q1
theorem tup2 {a b : ME} {ρ : Ro} {h h1 h2 : MH} {x y : D} (e1 : a ρ h = .ok x h1) (e2 : b ρ h1 = .ok y h2) : tupM (argsE [a, b]) ρ h = .ok (.tup [x, y]) h2 := by
  have hz : (0 + 1 + 1 : Nat) ≤ sizeLine := by rw [sizeLine_eq]; decide
  simp only [tupM, argsE, consM, nilM, e1, e2, bind_ok, List.length_cons, List.length_nil, hz, if_true]
theorem lst2 {a b : ME} {ρ : Ro} {h h1 h2 : MH} {x y : D} (e1 : a ρ h = .ok x h1) (e2 : b ρ h1 = .ok y h2) : lstM (argsE [a, b]) ρ h = .ok (.ref h2.length) (h2 ++ [.lst [x, y]]) := by
  have hz : (0 + 1 + 1 : Nat) ≤ sizeLine := by rw [sizeLine_eq]; decide
  simp only [lstM, argsE, consM, nilM, e1, e2, bind_ok, List.length_cons, List.length_nil, hz, if_true]
theorem tup0 {ρ : Ro} {h : MH} : tupM (argsE []) ρ h = .ok (.tup []) h := by
  have hz : (0 : Nat) ≤ sizeLine := Nat.zero_le _
  simp only [tupM, argsE, nilM, bind_ok, List.length_nil, hz, if_true]
theorem cG_int {a b : Int} {h : MH} : compD .Gt (.int a) (.int b) h = .ok (.bl (decide (b < a))) h := rfl
theorem cst_ok {d : D} {ρ : Ro} {h : MH} : cM d ρ h = .ok d h := rfl
theorem lst0 {ρ : Ro} {h : MH} : lstM (argsE []) ρ h = .ok (.ref h.length) (h ++ [.lst []]) := by
  have hz : (0 : Nat) ≤ sizeLine := Nat.zero_le _
  simp only [lstM, argsE, nilM, bind_ok, List.length_nil, hz, if_true]
/-! fields -/
def fldD (p : Str × Str) : D := .tup [.str p.1, .str p.2]
structure FOk (p : Str × Str) : Prop where
  a : Gd p.1 200
  b : Gd p.2 200
def nmL : List Str := ["accept", "x", "cookie", "via", "date", "set-cookie", "content-type", "a-long-name-of-thirty-nine-signs-abcdef"]
theorem nm_all : (nmL.all fun x => (x.cps.toList.all fun c => decide (c < 128) && !decide (c = 96)) && decide (x.cps.toList.length ≤ 200)) = true := by decide +kernel
theorem nm_gd {x : Str} (h : x ∈ nmL) : Gd x 200 := by
  have := List.all_eq_true.mp nm_all x h
  rw [Bool.and_eq_true] at this
  exact ⟨fun c hc => by simpa using List.all_eq_true.mp this.1 c hc, of_decide_eq_true this.2⟩
theorem Gd.mono {x : Str} {j k : Nat} (g : Gd x j) (h : j ≤ k) : Gd x k := ⟨g.sg, Nat.le_trans g.len h⟩
theorem Gd.cat {x y : Str} {j k : Nat} (g : Gd x j) (g' : Gd y k) : Gd (x ++ y) (j + k) := by
  have e : (x ++ y).cps.toList = x.cps.toList ++ y.cps.toList := TL.tl_append x y
  constructor
  · intro c hc
    rw [e] at hc
    rcases List.mem_append.mp hc with z | z
    · exact g.sg c z
    · exact g'.sg c z
  · rw [e, List.length_append]
    have := g.len; have := g'.len; omega
theorem Gd.size {x : Str} {k : Nat} (g : Gd x k) : x.length ≤ k := by show x.cps.size ≤ k; rw [← Array.length_toList]; exact g.len
def FI (n a q : Nat) (h : MH) (most : Int) (k : Nat) (ρ : Ro) (h' : MH) : Prop := ∃ (fs : List (Str × Str)) (c4 c5 : Option D), ρ = [some (.ref n), some (.int most), some (.ref a), some (.ref q), c4, c5] ∧ h'[a]? = some (.lst (nmL.map .str)) ∧ h'[q]? = some (.lst (fs.map fldD)) ∧ fs.length = k ∧ (∀ p ∈ fs, FOk p) ∧ Stp h h' n
theorem fields_ok (m : Nat) {h : MH} {n : Nat} (hd : DrawAt h n) : Wp (R (m + 3) "_law_fields" [.ref n, .int 6] h) fun v h' => ∃ (q : Nat) (fs : List (Str × Str)), v = .ref q ∧ h'[q]? = some (.lst (fs.map fldD)) ∧ fs.length ≤ 6 ∧ (∀ p ∈ fs, FOk p) ∧ Stp h h' n := by
  rw [r__law_fields]
  unfold runB
  rw [Wp_resF]
  show Wp (s__law_fields (R (m + 2)) [some (.ref n), some (.int 6), none, none, none, none] h) _
  unfold s__law_fields
  have hz : (8 : Nat) ≤ sizeLine := by rw [sizeLine_eq]; decide
  refine Wp_so (set_ok (d := .ref h.length) (h' := h ++ [.lst (nmL.map .str)]) (by
    simp only [lstM, argsE, consM, nilM, cM, bind_ok, List.length_cons, List.length_nil, Nat.zero_add, Nat.reduceAdd, hz, if_true]; rfl)) ?_
  refine Wp_so (set_ok lst0) ?_
  have hl1 : (h ++ [Ob.lst (nmL.map D.str)]).length = h.length + 1 := by simp
  have hlt := hd.lt
  change Wp (seqS _ _ [some (.ref n), some (.int 6), some (.ref h.length), some (.ref (h ++ [Ob.lst (nmL.map D.str)]).length), none, none] _) _
  rw [hl1]
  have S0 : Stp h (h ++ [Ob.lst (nmL.map D.str)] ++ [Ob.lst []]) n := ((Stp.refl hd).app).app
  have ga : (h ++ [Ob.lst (nmL.map D.str)] ++ [Ob.lst []])[h.length]? = some (.lst (nmL.map .str)) := by rw [List.append_assoc, getE0]; rfl
  have gq : (h ++ [Ob.lst (nmL.map D.str)] ++ [Ob.lst []])[h.length + 1]? = some (.lst []) := by rw [List.append_assoc, getE]; rfl
  generalize h ++ [Ob.lst (nmL.map D.str)] ++ [Ob.lst []] = H at S0 ga gq
  refine Wp_seq (fun ρ h' => ∃ k ≤ 6, FI n h.length (h.length + 1) h 6 k ρ h') ?_ ?_
  · refine Wp_for1 ?_
    have tk := tkW (m + 1) (me := binM (binD .Add) (varM 1) (cM (.int 1))) (ρ := [some (.ref n), some (.int 6), some (.ref h.length), some (.ref (h.length + 1)), none, none]) (i := 0) (k := 7) rfl rfl S0.at_ (by decide) (by decide)
    refine tk.mono fun v h2 ⟨o, e, o0, o1, d⟩ => ?_
    refine ⟨o, e, bnd_ok (by omega) (by omega), ?_⟩
    refine forL_wp (fun k ρ h' => FI n h.length (h.length + 1) h 6 k ρ h') ⟨[], _, _, rfl, d.kept ga (by omega), d.kept gq (by omega), rfl, (fun p hp => by cases hp), S0.trans (.of d)⟩ ?_ ?_
    · rintro k ρ h3 x hx ⟨fs, c4, c5, rfl, e1, e2, e3, e4, S⟩
      have hk : k < o.toNat := by have := (List.getElem?_eq_some_iff.mp hx).1; rw [len_from] at this; exact this
      refine ⟨rfl, ?_⟩
      simp only [nameG, Wp_ok, List.set_cons_zero, List.set_cons_succ]
      -- the name
      rw [Wp_set, Wp_bin, var_ok rfl, Wp_ok]
      refine (tkE (m + 1) (i := 0) (k := 8) rfl S.at_ (by decide) (by decide)).mono fun v h4 ⟨j, ej, j0, j1, d4⟩ => ?_
      subst ej
      have hj : j.toNat < nmL.length := by show j.toNat < 8; omega
      have ea : atI (nmL.map D.str) j = some (.str nmL[j.toNat]) := by
        unfold atI ixN
        rw [if_pos j0, if_pos (by show j < 8; omega)]
        simp [hj]
      have e1' := d4.kept e1 (by omega)
      have e2' := d4.kept e2 (by omega)
      simp only [ixD, ixO, e1', ea, Wp_ok]
      have S4 := S.trans (.of d4)
      have gnm : Gd nmL[j.toNat] 200 := nm_gd (List.getElem_mem hj)
      generalize nmL[j.toNat] = nm at gnm
      change Wp (seqS _ _ [some (.ref n), some (.int 6), some (.ref h.length), some (.ref (h.length + 1)), some x, some (.str nm)] h4) _
      -- perhaps another
      refine Wp_seq (fun ρ h' => ∃ nm, Gd nm 200 ∧ ρ = [some (.ref n), some (.int 6), some (.ref h.length), some (.ref (h.length + 1)), some x, some (.str nm)] ∧ h'[h.length]? = some (.lst (nmL.map .str)) ∧ h'[h.length + 1]? = some (.lst (fs.map fldD)) ∧ Stp h h' n) ?_ ?_
      · rw [Wp_if, Wp_test, Wp_bin]
        refine (tkE (m + 1) (i := 0) (k := 3) rfl S4.at_ (by decide) (by decide)).mono fun v h5 ⟨i, ei, i0, i1, d5⟩ => ?_
        subst ei
        have S5 := S4.trans (.of d5)
        have f1 := d5.kept e1' (by omega)
        have f2 := d5.kept e2' (by omega)
        simp only [cM, Wp_ok, cE_int]
        by_cases hi : i = 0
        · rw [decide_eq_true hi, if_pos rfl, Wp_set, Wp_bin]
          show Wp (callN 2 (R (m + 2) "_law_word") (argsE [varM 0, cM (.int 5)]) _ h5) _
          rw [call2 (var_ok rfl) rfl]
          refine (word_ok m S5.at_ (by decide) (by decide)).mono fun v h6 ⟨y, ey, gy, S6, _⟩ => ?_
          subst ey
          have gx : Gd (PySem.Str.ofString "x") 1 := ⟨(nm_gd (by decide +kernel)).sg, by decide +kernel⟩
          have hs : (PySem.Str.ofString "x").length + y.length ≤ sizeLine := by rw [sizeLine_eq]; have := gx.size; have := gy.size; omega
          simp only [binD, addD, hs, if_true, Wp_ok, nxS, List.set_cons_zero, List.set_cons_succ]
          exact ⟨trivial, _, (gx.cat gy).mono (by decide), rfl, S6.kept f1 (by omega), S6.kept f2 (by omega), S5.trans S6⟩
        · rw [decide_eq_false hi, if_neg Bool.false_ne_true]
          exact ⟨rfl, nm, gnm, rfl, f1, f2, S5⟩
      · rintro ρ h5 ⟨nm, gnm, rfl, f1, f2, S5⟩
        rw [Wp_drop]
        refine Wp_app (q := h.length + 1) rfl f2 ?_
        have tx := text_ok m S5.at_
        obtain ⟨v, h6, e6, y, ey, gy, S6⟩ := tx.ex
        subst ey
        have et := tup2 (a := varM 5) (b := callN 1 (R (m + 2) "_law_text") (argsE [varM 0])) (ρ := [some (.ref n), some (.int 6), some (.ref h.length), some (.ref (h.length + 1)), some x, some (.str nm)]) (h := h5) (var_ok rfl) ((call1 (var_ok rfl)).trans e6)
        rw [et, Wp_ok]
        have f2' := S6.kept f2 (by omega)
        refine ⟨_, f2', by rw [List.length_map]; omega, ?_⟩
        simp only [nxS, Wp_ok]
        refine ⟨fs ++ [(nm, y)], _, _, rfl, by rw [get_set_ne (by omega)]; exact S6.kept f1 (by omega), by rw [get_set f2', List.map_append]; rfl, by rw [List.length_append, e3]; rfl, ?_, (S5.trans S6).put (by omega) hlt⟩
        intro p hp
        rcases List.mem_append.mp hp with z | z
        · exact e4 p z
        · rw [List.mem_singleton] at z; subst z; exact ⟨gnm, gy.mono (by decide)⟩
    · intro ρ h3 hI
      exact ⟨rfl, rfl, o.toNat, by omega, by rw [len_from] at hI; exact hI⟩
  · rintro ρ h' ⟨k, hk, fs, c4, c5, rfl, e1, e2, e3, e4, S⟩
    refine Wp_ret ?_
    rw [var_ok rfl, Wp_ok]
    exact ⟨_, fs, rfl, e2, by omega, e4, S⟩

/-! events -/
abbrev Ev := Bool × List Int
def evD (e : Ev) : D := .tup [.str (if e.1 then "body" else "end"), .tup (e.2.map .int)]
def EvOk (e : Ev) : Prop := (∃ a b : Int, 0 ≤ a ∧ a < 11 ∧ 0 ≤ b ∧ b < 256 ∧ e = (true, [a, b])) ∨ e = (false, [])
theorem events_ok (m : Nat) {h : MH} {n : Nat} (hd : DrawAt h n) : Wp (R (m + 2) "_law_events" [.ref n] h) fun v h' => ∃ (q : Nat) (es : List Ev), v = .ref q ∧ h'[q]? = some (.lst (es.map evD)) ∧ es.length ≤ 10 ∧ (∀ e ∈ es, EvOk e) ∧ Stp h h' n := by
  rw [r__law_events]
  unfold runB
  rw [Wp_resF]
  show Wp (s__law_events (R (m + 1)) [some (.ref n), none, none] h) _
  unfold s__law_events
  refine Wp_so (set_ok lst0) ?_
  change Wp (seqS _ _ [some (.ref n), some (.ref h.length), none] _) _
  have hlt := hd.lt
  have S0 : Stp h (h ++ [Ob.lst []]) n := (Stp.refl hd).app
  have gq : (h ++ [Ob.lst []])[h.length]? = some (.lst []) := by rw [getE0]; rfl
  generalize h ++ [Ob.lst []] = H at S0 gq
  refine Wp_seq (fun ρ h' => ∃ (es : List Ev) (c : Option D), ρ = [some (.ref n), some (.ref h.length), c] ∧ h'[h.length]? = some (.lst (es.map evD)) ∧ es.length ≤ 10 ∧ (∀ e ∈ es, EvOk e) ∧ Stp h h' n) ?_ ?_
  · refine Wp_for1 ?_
    refine (tkE m (i := 0) (k := 11) rfl S0.at_ (by decide) (by decide)).mono fun v h2 ⟨o, e, o0, o1, d⟩ => ?_
    refine ⟨o, e, bnd_ok (by omega) (by omega), ?_⟩
    refine forL_wp (fun k ρ h' => ∃ (es : List Ev) (c : Option D), ρ = [some (.ref n), some (.ref h.length), c] ∧ h'[h.length]? = some (.lst (es.map evD)) ∧ es.length = k ∧ (∀ e ∈ es, EvOk e) ∧ Stp h h' n) ⟨[], _, rfl, d.kept gq (by omega), rfl, (fun p hp => by cases hp), S0.trans (.of d)⟩ ?_ ?_
    · rintro k ρ h3 x hx ⟨es, c, rfl, e1, e2, e3, S⟩
      have hk : k < o.toNat := by have := (List.getElem?_eq_some_iff.mp hx).1; rw [len_from] at this; exact this
      refine ⟨rfl, ?_⟩
      unfold Mir.intsFrom at hx
      rw [List.getElem?_map] at hx
      obtain ⟨z, hz, rfl⟩ := Option.map_eq_some_iff.mp hx
      have hzk : z = k := by rw [List.getElem?_range hk] at hz; exact (Option.some.inj hz).symm
      subst hzk
      simp only [nameG, Wp_ok, List.set_cons_zero, List.set_cons_succ]
      refine Wp_seq (fun ρ h' => ∃ (es : List Ev), ρ = [some (.ref n), some (.ref h.length), some (.int (0 + (z : Int) * 1))] ∧ h'[h.length]? = some (.lst (es.map evD)) ∧ es.length = z + 1 ∧ (∀ e ∈ es, EvOk e) ∧ Stp h h' n) ?_ ?_
      · rw [Wp_if, Wp_test, Wp_bin]
        refine (tkE m (i := 0) (k := 3) rfl S.at_ (by decide) (by decide)).mono fun v h4 ⟨j, ej, j0, j1, d4⟩ => ?_
        subst ej
        have S4 := S.trans (.of d4)
        have f1 := d4.kept e1 (by omega)
        rw [cst_ok, Wp_ok, cG_int, Wp_ok]
        by_cases hj : 0 < j
        · rw [decide_eq_true hj]
          show Wp (if true = true then _ else _) _
          rw [if_pos rfl, Wp_drop]
          refine Wp_app (q := h.length) rfl f1 ?_
          obtain ⟨v, h5, e5, b, eb, b0, b1, d5⟩ := (tkE m (ρ := [some (.ref n), some (.ref h.length), some (.int (0 + (z : Int) * 1))]) (i := 0) (k := 256) rfl S4.at_ (by decide) (by decide)).ex
          subst eb
          rw [tup2 cst_ok (tuple_of (lst2 (var_ok rfl) e5) seqO_new), Wp_ok]
          have f2 : (h5 ++ [Ob.lst [.int (0 + (z : Int) * 1), .int b]])[h.length]? = some (.lst (es.map evD)) := getP (d5.kept f1 (by omega))
          refine ⟨_, f2, by rw [List.length_map]; omega, ?_⟩
          simp only [nxS, Wp_ok]
          refine ⟨trivial, es ++ [(true, [0 + (z : Int) * 1, b])], trivial, by rw [get_set f2, List.map_append]; rfl, by rw [List.length_append, e2]; rfl, ?_, ((S4.trans (.of d5)).app).put (Nat.le_refl _) hlt⟩
          intro e he
          rcases List.mem_append.mp he with q | q
          · exact e3 e q
          · rw [List.mem_singleton] at q; subst q; exact .inl ⟨_, b, by omega, by omega, b0, b1, rfl⟩
        · rw [decide_eq_false hj]
          show Wp (if false = true then _ else _) _
          rw [if_neg Bool.false_ne_true, Wp_drop]
          refine Wp_app (q := h.length) rfl f1 ?_
          rw [tup2 cst_ok tup0, Wp_ok]
          refine ⟨_, f1, by rw [List.length_map]; omega, ?_⟩
          simp only [nxS, Wp_ok]
          refine ⟨trivial, es ++ [(false, [])], trivial, by rw [get_set f1, List.map_append]; rfl, by rw [List.length_append, e2]; rfl, ?_, S4.put (Nat.le_refl _) hlt⟩
          intro e he
          rcases List.mem_append.mp he with q | q
          · exact e3 e q
          · rw [List.mem_singleton] at q; subst q; exact .inr rfl
      · rintro ρ h4 ⟨es, rfl, q1, q2, q3, q4⟩
        exact ⟨es, _, rfl, q1, q2, q3, q4⟩
    · rintro ρ h3 ⟨es, c, rfl, e1, e2, e3, S⟩
      rw [len_from] at e2
      exact ⟨rfl, rfl, es, c, rfl, e1, by omega, e3, S⟩
  · rintro ρ h' ⟨es, c, rfl, e1, e2, e3, S⟩
    refine Wp_ret ?_
    rw [var_ok rfl, Wp_ok]
    exact ⟨_, es, rfl, e1, e2, e3, S⟩
end Law
namespace Law
open PySem L2 Mir
theorem strOk_of {x : Str} {k : Nat} (g : Gd x k) : PyData.strOk x = true := by
  unfold PyData.strOk
  rw [← Array.all_toList, List.all_eq_true]
  intro c hc
  have := (g.sg c hc).1
  exact decide_eq_true (by omega)
/-! joined -/
def stepE (acc : List Ev) (e : Ev) : List Ev := match e.1, acc.getLast? with
  | true, some (true, l) => acc.dropLast ++ [(true, l ++ e.2)]
  | _, _ => acc ++ [e]
def joinE (es : List Ev) : List Ev := es.foldl stepE []
def J (ix : ME) : MS := (seqS (ifS (andTs [testM (binM (compD .Eq) (binM ixD (varM 2) (cM (.int 0))) (cM (.str (PySem.Str.ofString "body")))), testM (binM (compD .NotEq) (varM 1) (lstM (argsE []))), testM (binM (compD .Eq) (binM ixD (binM ixD (varM 1) ix) (cM (.int 0))) (cM (.str (PySem.Str.ofString "body"))))]) (seqS (asgS (tupM (argsE [cM (.str (PySem.Str.ofString "body")), binM (binD .Add) (binM ixD (binM ixD (varM 1) ix) (cM (.int 1))) (binM ixD (varM 2) (cM (.int 1)))])) (subG (varM 1) ix))
      nxS) (seqS (dropS (bmE "append" (varM 1) (argsE [varM 2])))
      nxS))
    nxS)
theorem ev_py (e : Ev) : ∃ p, Py 11 (evD e) p := by
  obtain ⟨b, l⟩ := e
  have h2 : Py 10 (.tup (l.map .int)) (.tuple (l.map .int)) := .tup (Pys.map fun a _ => Py.int 8 a)
  cases b
  · exact ⟨_, .tup (.cons (Py.str 9 (x := PySem.Str.ofString "end") (by decide +kernel)) (.cons h2 (.nil _)))⟩
  · exact ⟨_, .tup (.cons (Py.str 9 (x := PySem.Str.ofString "body") (by decide +kernel)) (.cons h2 (.nil _)))⟩
theorem evs_py : ∀ l : List Ev, ∃ ps, Pys 11 (l.map evD) ps
  | [] => ⟨_, .nil _⟩
  | e :: l => let ⟨p, hp⟩ := ev_py e; let ⟨ps, hps⟩ := evs_py l; ⟨_, .cons hp hps⟩
theorem ev0 {e : Ev} {h : MH} : ixD (evD e) (.int 0) h = .ok (.str (if e.1 then "body" else "end")) h := rfl
theorem ev1 {e : Ev} {h : MH} : ixD (evD e) (.int 1) h = .ok (.tup (e.2.map .int)) h := rfl
theorem body_eq (b : Bool) : decide ((if b then (PySem.Str.ofString "body") else PySem.Str.ofString "end") = PySem.Str.ofString "body") = b := by cases b <;> decide +kernel
/-- what the index gives -/
def IxOk (ix : ME) : Prop := ∀ (a0 c : Option D) (q : Nat) (h : MH) (ds : List D), h[q]? = some (.lst ds) → ds ≠ [] → ∃ i, ix [a0, some (.ref q), c] h = .ok (.int i) h ∧ ixN ds.length i = some (ds.length - 1)
theorem andTs2_of {a b : MT} {ρ : Ro} {h h1 h2 : MH} {x y : Bool} (e1 : a ρ h = .ok x h1) (e2 : x = true → b ρ h1 = .ok y h2) (e3 : x = false → h1 = h2) : andTs [a, b] ρ h = .ok (x && y) h2 := andT_of e1 e2 e3
theorem drop_ok {e : ME} {ρ : Ro} {h h' : MH} {d : D} (q : e ρ h = .ok d h') : dropS e ρ h = .ok (.nx, ρ) h' := by simp only [dropS, q, bind_ok]
theorem J_ok {ix : ME} (hix : IxOk ix) {a0 : Option D} {q : Nat} {h : MH} {acc : List Ev} {e : Ev} (hq : h[q]? = some (.lst (acc.map evD))) (hl : acc.length < 1000) (hb : ∀ b ∈ acc, b.2.length ≤ 1000) (he : e.2.length ≤ 1000) :
    ∃ g, J ix [a0, some (.ref q), some (evD e)] h = .ok (.nx, [a0, some (.ref q), some (evD e)]) ((h ++ g).set q (.lst ((stepE acc e).map evD))) := by
  have app : ∀ g, (h ++ g)[q]? = some (.lst (acc.map evD)) := fun g => getP hq
  have doApp : ∀ g, seqS (dropS (bmE "append" (varM 1) (argsE [varM 2]))) nxS [a0, some (.ref q), some (evD e)] (h ++ g) = .ok (.nx, [a0, some (.ref q), some (evD e)]) ((h ++ g).set q (.lst ((acc ++ [e]).map evD))) := fun g => by
    have hz : (acc.map evD).length < sizeLine := by rw [List.length_map, sizeLine_eq]; omega
    rw [seq_ok (drop_ok (d := .non) (h' := (h ++ g).set q (.lst (acc.map evD ++ [evD e]))) (by
      rw [bm_lst1 app_tab (var_ok rfl) (app g) (var_ok rfl)]
      simp only [appendD, app g, hz, if_true])), List.map_append]
    rfl
  have t1 : ∀ g, testM (binM (compD .Eq) (binM ixD (varM 2) (cM (.int 0))) (cM (.str (PySem.Str.ofString "body")))) [a0, some (.ref q), some (evD e)] (h ++ g) = .ok e.1 (h ++ g) := fun g => test_of (by
    rw [bin_ok ((bin_ok (var_ok rfl) cst_ok).trans ev0) cst_ok, cE_str]
    exact congrArg (fun b => Res.ok (D.bl b) (h ++ g)) (body_eq e.1))
  have h0 := t1 []
  rw [List.append_nil] at h0
  cases c1 : e.1 with
  | false =>
    refine ⟨[], ?_⟩
    have es : stepE acc e = acc ++ [e] := by unfold stepE; rw [c1]
    have dA := doApp []
    rw [List.append_nil] at dA ⊢
    rw [es]
    unfold J
    rw [seq_ok (b := nxS) (ρ' := [a0, some (.ref q), some (evD e)]) (by rw [if_f (h' := h) (andTs_of (x := false) (y := false) (h2 := h) (by rw [h0, c1]) (fun z => by cases z) fun _ => rfl)]; exact dA)]
    rfl
  | true =>
    obtain ⟨ps, hps⟩ := evs_py acc
    have hemp : ps.isEmpty = acc.isEmpty := by rw [hps.len]; cases acc <;> rfl
    have t2 : testM (binM (compD .NotEq) (varM 1) (lstM (argsE []))) [a0, some (.ref q), some (evD e)] h = .ok (!acc.isEmpty) (h ++ [.lst []]) := test_of (by
      rw [bin_ok (var_ok rfl) lst0]
      show neD _ _ _ = _
      have := eqO_lst (h := h ++ [.lst []]) (app [.lst []]) (show (h ++ [Ob.lst []])[h.length]? = some (.lst []) by rw [getE0]; rfl) hps (Pys.nil 11)
      unfold neD
      rw [this, eqvAll_nil, hemp])
    by_cases hn : acc = []
    · subst hn
      refine ⟨[.lst []], ?_⟩
      have es : stepE [] e = [] ++ [e] := by unfold stepE; rw [c1]; rfl
      rw [es]
      unfold J
      rw [seq_ok (b := nxS) (ρ' := [a0, some (.ref q), some (evD e)]) (by rw [if_f (h' := h ++ [.lst []]) (andTs_of (x := true) (y := false) (by rw [h0, c1]) (fun _ => andTs_of (x := false) (y := false) (h2 := h ++ [.lst []]) t2 (fun z => by cases z) fun _ => rfl) fun z => by cases z)]; exact doApp [.lst []])]
      rfl
    · have hd : acc.map evD ≠ [] := fun z => hn (List.map_eq_nil_iff.mp z)
      obtain ⟨i, e1, e2⟩ := hix a0 (some (evD e)) q (h ++ [.lst []]) _ (app [.lst []]) hd
      have hem : acc.isEmpty = false := by cases acc <;> first | exact absurd rfl hn | rfl
      rw [hem] at t2
      have hla : acc = acc.dropLast ++ [acc.getLast hn] := (List.dropLast_concat_getLast hn).symm
      generalize hb1 : acc.getLast hn = b at hla
      have hbm : b ∈ acc := by rw [hla]; simp
      have hlen : acc.length - 1 = acc.dropLast.length := by rw [List.length_dropLast]
      have at1 : atI (acc.map evD) i = some (evD b) := by
        unfold atI
        rw [e2]
        simp only [Option.bind_some, List.length_map, List.getElem?_map]
        have : acc[acc.length - 1]? = some b := by rw [hlen]; conv => lhs; rw [hla]; simp
        rw [this]; rfl
      have ixe : binM ixD (varM 1) ix [a0, some (.ref q), some (evD e)] (h ++ [.lst []]) = .ok (evD b) (h ++ [.lst []]) := by
        rw [bin_ok (var_ok rfl) e1]
        exact ixD_lst (app _) at1
      have t3 : testM (binM (compD .Eq) (binM ixD (binM ixD (varM 1) ix) (cM (.int 0))) (cM (.str (PySem.Str.ofString "body")))) [a0, some (.ref q), some (evD e)] (h ++ [.lst []]) = .ok b.1 (h ++ [.lst []]) := test_of (by
        rw [bin_ok ((bin_ok ixe cst_ok).trans ev0) cst_ok, cE_str]
        exact congrArg (fun b => Res.ok (D.bl b) (h ++ [.lst []])) (body_eq b.1))
      have cond : andTs [testM (binM (compD .Eq) (binM ixD (varM 2) (cM (.int 0))) (cM (.str (PySem.Str.ofString "body")))), testM (binM (compD .NotEq) (varM 1) (lstM (argsE []))), testM (binM (compD .Eq) (binM ixD (binM ixD (varM 1) ix) (cM (.int 0))) (cM (.str (PySem.Str.ofString "body"))))] [a0, some (.ref q), some (evD e)] h = .ok b.1 (h ++ [.lst []]) := by
        rw [c1] at h0
        have c23 := andTs2_of t2 (fun _ => t3) (fun z => by cases z)
        rw [Bool.not_false, Bool.true_and] at c23
        have := andTs_of h0 (fun _ => c23) fun z => by cases z
        rw [Bool.true_and] at this
        exact this
      have gl : acc.getLast? = some b := by rw [List.getLast?_eq_some_getLast hn, hb1]
      refine ⟨[.lst []], ?_⟩
      unfold J
      cases c2 : b.1 with
      | false =>
        have es : stepE acc e = acc ++ [e] := by
          unfold stepE; rw [c1, gl]
          obtain ⟨b1, b2⟩ := b
          simp only at c2
          subst c2
          rfl
        rw [es, seq_ok (b := nxS) (ρ' := [a0, some (.ref q), some (evD e)]) (by rw [if_f (by rw [cond, c2])]; exact doApp [.lst []])]
        rfl
      | true =>
        have es : stepE acc e = acc.dropLast ++ [(true, b.2 ++ e.2)] := by
          unfold stepE; rw [c1, gl]
          obtain ⟨b1, b2⟩ := b
          simp only at c2
          subst c2
          rfl
        have hz : (b.2.map D.int).length + (e.2.map D.int).length ≤ sizeLine := by rw [List.length_map, List.length_map, sizeLine_eq]; have := hb b hbm; omega
        have ex : tupM (argsE [cM (.str (PySem.Str.ofString "body")), binM (binD .Add) (binM ixD (binM ixD (varM 1) ix) (cM (.int 1))) (binM ixD (varM 2) (cM (.int 1)))]) [a0, some (.ref q), some (evD e)] (h ++ [.lst []]) = .ok (evD (true, b.2 ++ e.2)) (h ++ [.lst []]) := by
          rw [tup2 (y := .tup ((b.2 ++ e.2).map .int)) (h2 := h ++ [.lst []]) cst_ok (by
            rw [bin_ok ((bin_ok ixe cst_ok).trans ev1) ((bin_ok (var_ok rfl) cst_ok).trans ev1)]
            simp only [binD, addD, hz, if_true, List.map_append])]
          rfl
        have sk : setK (.ref q) (.int i) (evD (true, b.2 ++ e.2)) (h ++ [Ob.lst []]) = .ok () (List.set (h ++ [Ob.lst []]) q (Ob.lst ((acc.map evD).set ((acc.map evD).length - 1) (evD (true, b.2 ++ e.2))))) := setK_lst (app _) e2
        have el : (acc.map evD).set ((acc.map evD).length - 1) (evD (true, b.2 ++ e.2)) = (stepE acc e).map evD := by
          rw [es, List.map_append, List.length_map, hlen]
          conv => lhs; rw [hla]
          rw [List.map_append, List.set_append_right _ _ (by simp)]
          simp
        rw [el] at sk
        rw [seq_ok (b := nxS) (ρ' := [a0, some (D.ref q), some (evD e)]) (h' := List.set (h ++ [Ob.lst []]) q (Ob.lst ((stepE acc e).map evD))) (by
          rw [if_t (by rw [cond, c2])]
          have : asgS (tupM (argsE [cM (.str (PySem.Str.ofString "body")), binM (binD .Add) (binM ixD (binM ixD (varM 1) ix) (cM (.int 1))) (binM ixD (varM 2) (cM (.int 1)))])) (subG (varM 1) ix) [a0, some (.ref q), some (evD e)] (h ++ [Ob.lst []]) = .ok (.nx, [a0, some (.ref q), some (evD e)]) (List.set (h ++ [Ob.lst []]) q (Ob.lst ((stepE acc e).map evD))) := by
            unfold asgS subG
            rw [ex, bind_ok, var_ok (d := .ref q) rfl, bind_ok]
            rw [e1, bind_ok, sk, bind_ok, bind_ok]
          rw [seq_ok this]; rfl)]
        rfl

theorem step_len {acc : List Ev} {e : Ev} : (stepE acc e).length ≤ acc.length + 1 := by
  unfold stepE
  split
  · rw [List.length_append, List.length_dropLast]; simp only [List.length_cons, List.length_nil]; omega
  · rw [List.length_append]; exact Nat.le_refl _
theorem step_b {acc : List Ev} {e : Ev} {k j : Nat} (h : ∀ b ∈ acc, b.2.length ≤ k) (he : e.2.length ≤ j) : ∀ b ∈ stepE acc e, b.2.length ≤ k + j := by
  unfold stepE
  split
  · rename_i l hx
    intro b hb
    rcases List.mem_append.mp hb with q | q
    · have := h b (List.dropLast_subset _ q); omega
    · rw [List.mem_singleton] at q; subst q
      have := h _ (List.mem_of_getLast? hx)
      rw [List.length_append]; simp only at this ⊢; omega
  · intro b hb
    rcases List.mem_append.mp hb with q | q
    · have := h b q; omega
    · rw [List.mem_singleton] at q; subst q; omega
mutual
theorem beq_self : ∀ d : D, D.beq d d = true
  | .non => rfl
  | .bl b => by simp [D.beq]
  | .int b => by simp [D.beq]
  | .str b => by simp [D.beq]
  | .ref b => by simp [D.beq]
  | .ty b => by simp [D.beq]
  | .tup l => by simp only [D.beq]; exact beqs_self l
  | .wl l => by simp only [D.beq]; exact beqs_self l
theorem beqs_self : ∀ l : List D, D.beqs l l = true
  | [] => rfl
  | a :: l => by simp only [D.beqs, beq_self a, beqs_self l, Bool.and_self]
end
theorem lst_is {h : MH} {n : Nat} {ds : List D} (e : h[n]? = some (.lst ds)) : lstIs n ds h = true := by
  unfold lstIs; rw [e]; exact beqs_self ds
theorem loopJ {ix : ME} (hix : IxOk ix) {ev q : Nat} {H0 : MH} {es : List Ev} (hq : q = H0.length) (hev : H0[ev]? = some (.lst (es.map evD))) (he : ∀ e ∈ es, e.2.length ≤ 2) (hl : es.length ≤ 10) :
    Wp (forL (lstIs ev (es.map evD)) (nameG 2) (J ix) (es.map evD) [some (.ref ev), some (.ref q), none] (H0 ++ [.lst []])) fun r h' => r.1 = .nx ∧ (∃ c, r.2 = [some (.ref ev), some (.ref q), c]) ∧ h'[q]? = some (.lst ((joinE es).map evD)) ∧ H0.length ≤ h'.length ∧ ∀ i, i < H0.length → h'[i]? = H0[i]? := by
  have hevl := (List.getElem?_eq_some_iff.mp hev).1
  refine forL_wp (fun k ρ h' => (∃ c, ρ = [some (.ref ev), some (.ref q), c]) ∧ h'[q]? = some (.lst ((joinE (es.take k)).map evD)) ∧ (joinE (es.take k)).length ≤ k ∧ (∀ b ∈ joinE (es.take k), b.2.length ≤ 2 * k) ∧ H0.length ≤ h'.length ∧ ∀ i, i < H0.length → h'[i]? = H0[i]?) ?_ ?_ ?_
  · refine ⟨⟨_, rfl⟩, by rw [hq, getE0]; rfl, Nat.le_refl _, (fun b hb => by cases hb), by rw [List.length_append]; omega, fun i hi => by rw [List.getElem?_append_left hi]⟩
  · rintro k ρ h x hx ⟨⟨c, rfl⟩, e1, e2, e3, e4, e5⟩
    rw [List.getElem?_map] at hx
    obtain ⟨e, hxe, rfl⟩ := Option.map_eq_some_iff.mp hx
    have hk : k < es.length := (List.getElem?_eq_some_iff.mp hxe).1
    have hem := he e (List.mem_of_getElem? hxe)
    refine ⟨lst_is ((e5 ev hevl).trans hev), ?_⟩
    simp only [nameG, Wp_ok, List.set_cons_zero, List.set_cons_succ]
    obtain ⟨g, eJ⟩ := J_ok hix (a0 := some (.ref ev)) (e := e) e1 (by omega) (fun b hb => by have := e3 b hb; omega) (by omega)
    rw [eJ, Wp_ok]
    have et : joinE (es.take (k + 1)) = stepE (joinE (es.take k)) e := by
      rw [List.take_succ, hxe]
      show List.foldl stepE [] (es.take k ++ [e]) = _
      rw [List.foldl_append]
      rfl
    refine ⟨⟨_, rfl⟩, by rw [et, get_set (getP e1)], by rw [et]; exact Nat.le_trans step_len (by omega), ?_, by rw [List.length_set, List.length_append]; omega, fun i hi => by rw [get_set_ne (by omega), List.getElem?_append_left (by omega)]; exact e5 i hi⟩
    rw [et]
    exact fun b hb => Nat.le_trans (step_b e3 hem b hb) (by omega)
  · rintro ρ h ⟨⟨c, rfl⟩, e1, e2, e3, e4, e5⟩
    rw [List.length_map, List.take_length] at e1
    exact ⟨lst_is ((e5 ev hevl).trans hev), rfl, ⟨c, rfl⟩, e1, e4, e5⟩
theorem neg_ix : IxOk (unM negD (cM (.int 1))) := fun a0 c q h ds hq hn => ⟨-1, rfl, by
  have : 0 < ds.length := List.length_pos_iff.mpr hn
  unfold ixN
  rw [if_neg (by decide), if_pos (by omega)]
  congr 1; omega⟩
theorem len_ix : IxOk (binM (binD .Sub) (callM (bltD "len") (argsE [varM 1])) (cM (.int 1))) := fun a0 c q h ds hq hn => ⟨(ds.length : Int) - 1, by
  have e : callM (bltD "len") (argsE [varM 1]) [a0, some (.ref q), c] h = .ok (.int (ds.length : Nat)) h := by
    rw [callM1 (var_ok (d := .ref q) rfl)]
    simp only [bltD, lenO, hq, if_true]
  rw [bin_ok e cst_ok]
  rfl, by
  have : 0 < ds.length := List.length_pos_iff.mpr hn
  unfold ixN
  rw [if_pos (by omega), if_pos (by omega)]
  congr 1; omega⟩
theorem joined_core {ix : ME} (hix : IxOk ix) {ev : Nat} {h : MH} {es : List Ev} (hev : h[ev]? = some (.lst (es.map evD))) (he : ∀ e ∈ es, e.2.length ≤ 2) (hl : es.length ≤ 10) :
    Wp (resF ((seqS (setS 1 (lstM (argsE []))) (seqS (forS (seqI (varM 0)) (nameG 2) (J ix)) (seqS (retS (varM 1)) nxS))) [some (.ref ev), none, none] h)) fun v h' => v = .ref h.length ∧ h'[h.length]? = some (.lst ((joinE es).map evD)) ∧ h.length ≤ h'.length ∧ ∀ i, i < h.length → h'[i]? = h[i]? := by
  rw [Wp_resF]
  refine Wp_so (set_ok lst0) ?_
  change Wp (seqS _ _ [some (.ref ev), some (.ref h.length), none] _) _
  refine Wp_seq (fun ρ h' => (∃ c, ρ = [some (.ref ev), some (.ref h.length), c]) ∧ h'[h.length]? = some (.lst ((joinE es).map evD)) ∧ h.length ≤ h'.length ∧ ∀ i, i < h.length → h'[i]? = h[i]?) ?_ ?_
  · unfold forS
    have : seqI (varM 0) [some (.ref ev), some (.ref h.length), none] (h ++ [.lst []]) = .ok (es.map evD, lstIs ev (es.map evD)) (h ++ [.lst []]) := by
      simp only [seqI, varM, List.getElem?_cons_zero, bind_ok, getP hev]
    rw [this, bind_ok]
    exact loopJ hix rfl hev he hl
  · rintro ρ h' ⟨⟨c, rfl⟩, e1, e2, e3⟩
    refine Wp_ret ?_
    rw [var_ok rfl, Wp_ok]
    exact ⟨rfl, e1, e2, e3⟩
end Law
namespace Law
open PySem L2 Mir
theorem joined_ok (n : Nat) {ev : Nat} {h : MH} {es : List Ev} (hev : h[ev]? = some (.lst (es.map evD))) (he : ∀ e ∈ es, e.2.length ≤ 2) (hl : es.length ≤ 10) :
    Wp (R (n + 1) "joined" [.ref ev] h) fun v h' => v = .ref h.length ∧ h'[h.length]? = some (.lst ((joinE es).map evD)) ∧ h.length ≤ h'.length ∧ ∀ i, i < h.length → h'[i]? = h[i]? := by
  rw [r_joined]
  unfold runB s_joined
  exact joined_core neg_ix hev he hl
theorem ljoined_ok (n : Nat) {ev : Nat} {h : MH} {es : List Ev} (hev : h[ev]? = some (.lst (es.map evD))) (he : ∀ e ∈ es, e.2.length ≤ 2) (hl : es.length ≤ 10) :
    Wp (R (n + 1) "_law_joined" [.ref ev] h) fun v h' => v = .ref h.length ∧ h'[h.length]? = some (.lst ((joinE es).map evD)) ∧ h.length ≤ h'.length ∧ ∀ i, i < h.length → h'[i]? = h[i]? := by
  rw [r__law_joined]
  unfold runB s__law_joined
  exact joined_core len_ix hev he hl
end Law
namespace Law
open PySem L2 Mir
/-! values, without -/
def vRx (r : D → Ro) : D → Ro := r
def isN (nm : Str) : D → Bool
  | .tup [.str a, .str _] => decide (a = nm)
  | _ => false
def snd' : D → D
  | .tup [_, b] => b
  | _ => .non
def fst' : D → D
  | .tup [a, _] => a
  | _ => .non
theorem fld_of {fs : List (Str × Str)} {d : D} (h : d ∈ fs.map fldD) : ∃ p ∈ fs, d = fldD p := by
  obtain ⟨p, hp, e⟩ := List.mem_map.mp h
  exact ⟨p, hp, e.symm⟩
theorem values_ok (n : Nat) {fs : List (Str × Str)} {nm : Str} {h : MH} (hl : fs.length ≤ 1000) : R (n + 1) "values" [.tup (fs.map fldD), .str nm] h = .ok (.ref h.length) (h ++ [.lst (((fs.map fldD).filter (isN nm)).map snd')]) := by
  rw [r_values]
  refine ret_run ?_
  show lcM [2, 3] (seqI (varM 0)) (tupG [2, 3]) (testM (binM (compD .Eq) (varM 2) (varM 1))) (varM 3) [some (.tup (fs.map fldD)), some (.str nm), none, none] h = _
  refine lc_pure (chk := always) (fun d => [some (.tup (fs.map fldD)), some (.str nm), some (fst' d), some (snd' d)]) (isN nm) snd' (seqI_tup rfl) (fun _ => rfl) (fun d hd h' => ?_) (fun d hd acc => ?_) (fun d hd _ acc => rfl) (by rw [List.length_map, sizeLine_eq]; omega)
  · obtain ⟨p, _, rfl⟩ := fld_of hd
    rfl
  · obtain ⟨p, _, rfl⟩ := fld_of hd
    exact test_of ((bin_ok (var_ok rfl) (var_ok rfl)).trans cE_str)
theorem lvalues_ok {fs : List (Str × Str)} {nm : Str} {h : MH} {ρ : Ro} (h9 : ρ[9]? = some (some (.tup (fs.map fldD)))) (h11 : ρ[11]? = some (some (.str nm))) (hl : fs.length ≤ 1000) :
    lcM [3] (seqI (varM 9)) (nameG 3) (testM (binM (compD .Eq) (binM ixD (varM 3) (cM (.int 0))) (varM 11))) (binM ixD (varM 3) (cM (.int 1))) ρ h = .ok (.ref h.length) (h ++ [.lst (((fs.map fldD).filter (isN nm)).map snd')]) := by
  have hlen : 3 < ρ.length := by have := (List.getElem?_eq_some_iff.mp h9).1; omega
  have s3 : ∀ d, ((wipeD ρ [3]).set 3 (some d))[3]? = some (some d) := fun d => List.getElem?_set_self (by simpa [wipeD] using hlen)
  have s11 : ∀ d, ((wipeD ρ [3]).set 3 (some d))[11]? = some (some (.str nm)) := fun d => by
    rw [List.getElem?_set_ne (by decide)]
    show (ρ.set 3 none)[11]? = _
    rw [List.getElem?_set_ne (by decide)]; exact h11
  refine lc_pure (chk := always) (fun d => (wipeD ρ [3]).set 3 (some d)) (isN nm) snd' (seqI_tup h9) (fun _ => rfl) (fun d hd h' => rfl) (fun d hd acc => ?_) (fun d hd _ acc => ?_) (by rw [List.length_map, sizeLine_eq]; omega)
  · obtain ⟨p, _, rfl⟩ := fld_of hd
    exact test_of ((bin_ok ((bin_ok (var_ok (s3 _)) cst_ok).trans (show ixD (fldD p) (.int 0) _ = .ok (.str p.1) _ from rfl)) (var_ok (s11 _))).trans cE_str)
  · obtain ⟨p, _, rfl⟩ := fld_of hd
    rw [bin_ok (var_ok (s3 _)) cst_ok]
    rfl
def notIn (nms : List Str) : D → Bool
  | .tup [.str a, .str _] => !nms.contains a
  | _ => false
theorem any_eqS (a : Str) : ∀ l : List Str, (l.map D.str).any (fun d => eqF d (.str a)) = l.contains a
  | [] => rfl
  | b :: l => by
    rw [List.map_cons, List.any_cons, any_eqS a l, List.contains_cons]
    have : eqF (.str b) (.str a) = (a == b) := by
      show (b == a) = _
      by_cases q : b = a
      · subst q; simp
      · have : ¬ a = b := fun z => q z.symm
        rw [beq_eq_false_iff_ne.mpr q, beq_eq_false_iff_ne.mpr this]
    rw [this]
theorem flat_strs : ∀ l : List Str, (l.map D.str).all flatD = true
  | [] => rfl
  | _ :: l => by rw [List.map_cons, List.all_cons, flat_strs l]; rfl
theorem nin_ok {a : Str} {q : Nat} {h : MH} {nms : List Str} (hq : h[q]? = some (.lst (nms.map .str))) : compD .NotIn (.str a) (.ref q) h = .ok (.bl (!nms.contains a)) h := by
  have e : seqO (.ref q) h = some (nms.map .str) := by simp only [seqO, hq]
  have f : flatD (.str a) = true := rfl
  show ninD _ _ _ = _
  simp only [ninD, inO, e, f, flat_strs, any_eqS, and_self, if_true]
theorem without_lc {fs : List (Str × Str)} {nms : List Str} {q i j k : Nat} {h : MH} {ρ : Ro} (hi : ρ[i]? = some (some (.tup (fs.map fldD)))) (hk : ρ[k]? = some (some (.ref q))) (hj : j < ρ.length) (hjk : j ≠ k) (hq : h[q]? = some (.lst (nms.map .str))) (hl : fs.length ≤ 1000) :
    callM (tyD "tuple") (argsE [lcM [j] (seqI (varM i)) (nameG j) (testM (binM (compD .NotIn) (binM ixD (varM j) (cM (.int 0))) (varM k))) (varM j)]) ρ h = .ok (.tup ((fs.map fldD).filter (notIn nms))) (h ++ [.lst ((fs.map fldD).filter (notIn nms))]) := by
  have s3 : ∀ d, ((wipeD ρ [j]).set j (some d))[j]? = some (some d) := fun d => List.getElem?_set_self (by simpa [wipeD] using hj)
  have sk : ∀ d, ((wipeD ρ [j]).set j (some d))[k]? = some (some (.ref q)) := fun d => by
    rw [List.getElem?_set_ne hjk]
    show (ρ.set j none)[k]? = _
    rw [List.getElem?_set_ne hjk]; exact hk
  have e := lc_pure (vs := [j]) (g := nameG j) (t := testM (binM (compD .NotIn) (binM ixD (varM j) (cM (.int 0))) (varM k))) (e := varM j) (h := h) (chk := always) (fun d => (wipeD ρ [j]).set j (some d)) (notIn nms) id (seqI_tup hi) (fun _ => rfl) (fun d hd h' => rfl) (fun d hd acc => by
    obtain ⟨p, _, rfl⟩ := fld_of hd
    exact test_of ((bin_ok ((bin_ok (var_ok (s3 _)) cst_ok).trans (show ixD (fldD p) (.int 0) _ = .ok (.str p.1) _ from rfl)) (var_ok (sk _))).trans (nin_ok (getP hq)))) (fun d hd _ acc => var_ok (s3 _)) (by rw [List.length_map, sizeLine_eq]; omega)
  rw [List.map_id] at e
  exact tuple_of e seqO_new
theorem without_ok (n : Nat) {fs : List (Str × Str)} {nms : List Str} {q : Nat} {h : MH} (hq : h[q]? = some (.lst (nms.map .str))) (hl : fs.length ≤ 1000) : R (n + 1) "without" [.tup (fs.map fldD), .ref q] h = .ok (.tup ((fs.map fldD).filter (notIn nms))) (h ++ [.lst ((fs.map fldD).filter (notIn nms))]) := by
  rw [r_without]
  refine ret_run ?_
  exact without_lc (ρ := [some (.tup (fs.map fldD)), some (.ref q), none]) (i := 0) (j := 2) (k := 1) rfl rfl (by simp) (by decide) hq hl
theorem fld_py {p : Str × Str} (hp : FOk p) : ∃ y, Py 11 (fldD p) y := ⟨_, .tup (.cons (Py.str 9 (strOk_of hp.a)) (.cons (Py.str 9 (strOk_of hp.b)) (.nil _)))⟩
theorem flds_py : ∀ {l : List D}, (∀ d ∈ l, ∃ p, FOk p ∧ d = fldD p) → ∃ ps, Pys 11 l ps
  | [], _ => ⟨_, .nil _⟩
  | d :: l, h => by
    obtain ⟨p, hp, rfl⟩ := h d List.mem_cons_self
    obtain ⟨y, hy⟩ := fld_py hp
    obtain ⟨ys, hys⟩ := flds_py fun d hd => h d (List.mem_cons_of_mem _ hd)
    exact ⟨_, .cons hy hys⟩
theorem snds_py : ∀ {l : List D}, (∀ d ∈ l, ∃ p, FOk p ∧ d = fldD p) → ∃ ps, Pys 11 (l.map snd') ps
  | [], _ => ⟨_, .nil _⟩
  | d :: l, h => by
    obtain ⟨p, hp, rfl⟩ := h d List.mem_cons_self
    obtain ⟨ys, hys⟩ := snds_py fun d hd => h d (List.mem_cons_of_mem _ hd)
    exact ⟨_, .cons (Py.str 10 (strOk_of hp.b)) hys⟩
end Law
namespace Law
open PySem L2 Mir
theorem Wp_lst3 {a b c : ME} {ρ : Ro} {h : MH} {Q : D → MH → Prop} (q : Wp (a ρ h) fun x h1 => Wp (b ρ h1) fun y h2 => Wp (c ρ h2) fun z h3 => Q (.ref h3.length) (h3 ++ [.lst [x, y, z]])) : Wp (lstM (argsE [a, b, c]) ρ h) Q := by
  have hz : (0 + 1 + 1 + 1 : Nat) ≤ sizeLine := by rw [sizeLine_eq]; decide
  obtain ⟨x, h1, e1, q⟩ := q.ex
  obtain ⟨y, h2, e2, q⟩ := q.ex
  obtain ⟨z, h3, e3, q⟩ := q.ex
  simp only [lstM, argsE, consM, nilM, e1, e2, e3, bind_ok, List.length_cons, List.length_nil, hz, if_true, Wp_ok]
  exact q
theorem Wp_tuple {m : ME} {ρ : Ro} {h : MH} {Q : D → MH → Prop} (q : Wp (m ρ h) fun v h' => ∃ ds, seqO v h' = some ds ∧ Q (.tup ds) h') : Wp (callM (tyD "tuple") (argsE [m]) ρ h) Q := by
  obtain ⟨v, h', e, ds, e1, q⟩ := q.ex
  rw [tuple_of e e1]
  exact q
theorem lc_range {e : ME} {vs : List Nat} {g : MG} {t : MT} {b : ME} {ρ : Ro} {h : MH} {Q : D → MH → Prop} (q : Wp (e ρ h) fun v h1 => ∃ o, v = .int o ∧ bnd62 o = true ∧ Wp (lcL always g t b (wipeD ρ vs) h1.length (Mir.intsFrom 0 1 o.toNat) (h1 ++ [.lst []])) Q) : Wp (lcM vs (rangeI1 (argsE [e])) g t b ρ h) Q := by
  obtain ⟨v, h1, e1, o, e2, e3, q⟩ := q.ex
  subst e2
  unfold lcM rangeI1
  simp only [argsE, consM, nilM, e1, bind_ok, e3, if_true]
  exact q
theorem row_ok (m : Nat) {ρ : Ro} {h : MH} {n : Nat} (h1 : ρ[1]? = some (some (.ref n))) (hd : DrawAt h n) :
    Wp (callM (tyD "tuple") (argsE [lcM [14] (rangeI1 (argsE [callN 2 (R (m + 1) "_law_take") (argsE [varM 1, cM (.int 41)])])) (nameG 14) (yesT) (binM ixD (lstM (argsE [callN 2 (R (m + 1) "_law_take") (argsE [varM 1, cM (.int 256)]), binM (binD .Add) (cM (.int 32)) (callN 2 (R (m + 1) "_law_take") (argsE [varM 1, cM (.int 95)])), cM (.int 97)])) (callN 2 (R (m + 1) "_law_take") (argsE [varM 1, cM (.int 3)])))]) ρ h)
      fun v h' => ∃ l : List Int, v = .tup (rowD l) ∧ l.length ≤ 40 ∧ (∀ o ∈ l, 0 ≤ o ∧ o < 256) ∧ Stp h h' n := by
  refine Wp_tuple (lc_range ?_)
  refine (tkE m h1 hd (by decide) (by decide)).mono fun v h2 ⟨o, e, o0, o1, d⟩ => ⟨o, e, bnd_ok (by omega) (by omega), ?_⟩
  have hw : ∀ x, ((wipeD ρ [14]).set 14 (some x))[1]? = some (some (.ref n)) := fun x => by
    rw [List.getElem?_set_ne (by decide)]
    show (ρ.set 14 none)[1]? = _
    rw [List.getElem?_set_ne (by decide)]; exact h1
  have hlt := d.at_.lt
  refine lcL_wp (fun k h' => ∃ l : List Int, h'[h2.length]? = some (.lst (rowD l)) ∧ l.length = k ∧ (∀ o ∈ l, 0 ≤ o ∧ o < 256) ∧ Stp h2 h' n) ⟨[], by rw [getE0]; rfl, rfl, (fun c hc => by cases hc), (Stp.refl d.at_).app⟩ ?_ ?_
  · rintro k h3 x hx ⟨l, e1, e2, e3, S⟩
    have hk : k < o.toNat := by have := (List.getElem?_eq_some_iff.mp hx).1; rw [len_from] at this; exact this
    refine ⟨rfl, ?_⟩
    simp only [nameG, Wp_ok, yesT, if_true]
    rw [Wp_bin]
    refine Wp_lst3 ?_
    refine (tkE m (hw x) S.at_ (by decide) (by decide)).mono fun v h4 ⟨a, ea, a0, a1, d4⟩ => ?_
    subst ea
    rw [Wp_bin, cst_ok, Wp_ok]
    refine (tkE m (hw x) d4.at_ (by decide) (by decide)).mono fun v h5 ⟨b, eb, b0, b1, d5⟩ => ?_
    subst eb
    rw [show binD .Add (.int 32) (.int b) h5 = .ok (.int (32 + b)) h5 from rfl, Wp_ok, cst_ok, Wp_ok]
    have S5 : Stp h2 (h5 ++ [Ob.lst [.int a, .int (32 + b), .int 97]]) n := ((S.trans (.of d4)).trans (.of d5)).app
    have f1 : (h5 ++ [Ob.lst [.int a, .int (32 + b), .int 97]])[h2.length]? = some (.lst (rowD l)) := getP (d5.kept (d4.kept e1 (by omega)) (by omega))
    have f2 : (h5 ++ [Ob.lst [.int a, .int (32 + b), .int 97]])[h5.length]? = some (.lst [.int a, .int (32 + b), .int 97]) := by rw [getE0]; rfl
    have hl5 : n < h5.length := d5.at_.lt
    refine (tkE m (hw x) S5.at_ (by decide) (by decide)).mono fun v h6 ⟨c, ec, c0, c1, d6⟩ => ?_
    subst ec
    have f1' := d6.kept f1 (by omega)
    have f2' := d6.kept f2 (by omega)
    have key : ∃ y : Int, atI [D.int a, .int (32 + b), .int 97] c = some (.int y) ∧ 0 ≤ y ∧ y < 256 := by
      have : c = 0 ∨ c = 1 ∨ c = 2 := by omega
      rcases this with rfl | rfl | rfl
      · exact ⟨a, rfl, a0, a1⟩
      · exact ⟨32 + b, rfl, by omega, by omega⟩
      · exact ⟨97, rfl, by decide, by decide⟩
    obtain ⟨y, ey, y0, y1⟩ := key
    rw [ixD_lst f2' ey, Wp_ok]
    refine ⟨_, f1', by unfold rowD; rw [List.length_map, sizeLine_eq]; omega, l ++ [y], by rw [get_set f1']; unfold rowD; rw [List.map_append]; rfl, by rw [List.length_append, e2]; rfl, ?_, (S5.trans (.of d6)).put (Nat.le_refl _) hlt⟩
    intro z hz
    rcases List.mem_append.mp hz with q | q
    · exact e3 z q
    · rw [List.mem_singleton] at q; subst q; exact ⟨y0, y1⟩
  · rintro h3 ⟨l, e1, e2, e3, S⟩
    rw [len_from] at e2
    exact ⟨rfl, rowD l, by simp only [seqO, e1], l, rfl, by omega, e3, (Stp.of d).trans S⟩
/-! the row's bad octets -/
def badB (o : Int) : Bool := decide (o = 37) || (decide (126 < o) || (decide (o < 32) && !decide (o = 9)))
theorem bad_V (o : Int) : badB o = !V o := by
  unfold badB V
  by_cases h1 : o = 9 <;> by_cases h2 : o = 37 <;> by_cases h3 : 126 < o <;> by_cases h4 : o < 32 <;> simp [h1, h2, h3, h4] <;> omega
theorem cL_int {a b : Int} {h : MH} : compD .Lt (.int a) (.int b) h = .ok (.bl (decide (a < b))) h := rfl
def badD : D → Bool
  | .int o => badB o
  | _ => false
theorem bad_ok {ρ : Ro} {h : MH} {l : List Int} (h3 : ρ[3]? = some (some (.tup (rowD l)))) (hρ : 15 < ρ.length) (hl : l.length ≤ 1000) :
    lcM [15] (seqI (varM 3)) (nameG 15) (orTs [testM (binM (compD .Eq) (varM 15) (cM (.int 37))), testM (binM (compD .Gt) (varM 15) (cM (.int 126))), andTs [testM (binM (compD .Lt) (varM 15) (cM (.int 32))), testM (binM (compD .NotEq) (varM 15) (cM (.int 9)))]]) (varM 15) ρ h = .ok (.ref h.length) (h ++ [.lst ((rowD l).filter badD)]) := by
  have s3 : ∀ d, ((wipeD ρ [15]).set 15 (some d))[15]? = some (some d) := fun d => List.getElem?_set_self (by simpa [wipeD] using hρ)
  have e := lc_pure (vs := [15]) (g := nameG 15) (t := orTs [testM (binM (compD .Eq) (varM 15) (cM (.int 37))), testM (binM (compD .Gt) (varM 15) (cM (.int 126))), andTs [testM (binM (compD .Lt) (varM 15) (cM (.int 32))), testM (binM (compD .NotEq) (varM 15) (cM (.int 9)))]]) (e := varM 15) (h := h) (chk := always) (fun d => (wipeD ρ [15]).set 15 (some d)) badD id (seqI_tup h3) (fun _ => rfl) (fun d hd h' => rfl) (fun d hd acc => by
    obtain ⟨o, _, rfl⟩ := List.mem_map.mp hd
    exact orTs_of (test_of ((bin_ok (var_ok (s3 _)) cst_ok).trans cE_int)) (fun _ => orTs_of (test_of ((bin_ok (var_ok (s3 _)) cst_ok).trans cG_int)) (fun _ => (andTs2_of (test_of ((bin_ok (var_ok (s3 _)) cst_ok).trans cL_int)) (fun _ => test_of ((bin_ok (var_ok (s3 _)) cst_ok).trans cN_int)) fun _ => rfl)) fun _ => rfl) fun _ => rfl) (fun d hd _ acc => var_ok (s3 _)) (by unfold rowD; rw [List.length_map, sizeLine_eq]; omega)
  rw [List.map_id] at e
  exact e
theorem bad_nil (l : List Int) : ((rowD l).filter badD).isEmpty = l.all V := by
  induction l with
  | nil => rfl
  | cons o l ih =>
    show (List.filter badD (.int o :: rowD l)).isEmpty = _
    rw [List.all_cons]
    cases hv : V o with
    | true =>
      have : badD (.int o) = false := by show badB o = _; rw [bad_V, hv]; rfl
      rw [List.filter_cons_of_neg (by rw [this]; simp), ih, Bool.true_and]
    | false =>
      have : badD (.int o) = true := by show badB o = _; rw [bad_V, hv]; rfl
      rw [List.filter_cons_of_pos this]; rfl
theorem row_py (l : List Int) (k : Nat) : Pys (k + 1) (rowD l) (l.map .int) := Pys.map fun a _ => Py.int k a
theorem ints_py : ∀ {ds : List D} (k : Nat), (∀ d ∈ ds, ∃ o, d = .int o) → ∃ ps, Pys (k + 1) ds ps
  | [], k, _ => ⟨_, .nil _⟩
  | d :: ds, k, h => by
    obtain ⟨o, rfl⟩ := h d List.mem_cons_self
    obtain ⟨ps, hp⟩ := ints_py k fun d hd => h d (List.mem_cons_of_mem _ hd)
    exact ⟨_, .cons (Py.int k o) hp⟩
/-- xs != [] -/
theorem ne_nil {ρ : Ro} {h : MH} {i q : Nat} {ds : List D} {ps : List PyData} (hi : ρ[i]? = some (some (.ref q))) (hq : h[q]? = some (.lst ds)) (hp : Pys 11 ds ps) : binM (compD .NotEq) (varM i) (lstM (argsE [])) ρ h = .ok (.bl (!ds.isEmpty)) (h ++ [.lst []]) := by
  rw [bin_ok (var_ok hi) lst0]
  show neD _ _ _ = _
  have := eqO_lst (h := h ++ [.lst []]) (getP hq) (show (h ++ [Ob.lst []])[h.length]? = some (.lst []) by rw [getE0]; rfl) hp (Pys.nil 11)
  unfold neD
  rw [this, eqvAll_nil, hp.len]
theorem eq_nil {ρ : Ro} {h : MH} {i q : Nat} {ds : List D} {ps : List PyData} (hi : ρ[i]? = some (some (.ref q))) (hq : h[q]? = some (.lst ds)) (hp : Pys 11 ds ps) : binM (compD .Eq) (varM i) (lstM (argsE [])) ρ h = .ok (.bl ds.isEmpty) (h ++ [.lst []]) := by
  rw [bin_ok (var_ok hi) lst0]
  show eqD _ _ _ = _
  have := eqO_lst (h := h ++ [.lst []]) (getP hq) (show (h ++ [Ob.lst []])[h.length]? = some (.lst []) by rw [getE0]; rfl) hp (Pys.nil 11)
  unfold eqD
  rw [this, eqvAll_nil, hp.len]
end Law
namespace Law
open PySem L2 Mir
theorem eq_new2 {h : MH} {A : List D} {ps : List PyData} (hp : Pys 11 A ps) : eqO (.ref h.length) (.ref (h ++ [Ob.lst A]).length) (h ++ [Ob.lst A] ++ [Ob.lst A]) = some true := by
  rw [eqO_lst (xs := A) (ys := A) (by rw [List.append_assoc, getE0]; rfl) (by rw [getE0]; rfl) hp hp, eqvAll_self hp]
theorem chars_row : ∀ {l : List Int}, (∀ o ∈ l, 0 ≤ o ∧ o < 256) → (l.map Int.toNat).map (fun (c : Nat) => D.int c) = rowD l
  | [], _ => rfl
  | o :: l, h => by
    have := h o List.mem_cons_self
    show D.int (o.toNat : Nat) :: _ = .int o :: _
    rw [show ((o.toNat : Nat) : Int) = o by omega]
    exact congrArg _ (chars_row fun z hz => h z (List.mem_cons_of_mem _ hz))
theorem orTs2_of {a b : MT} {ρ : Ro} {h h1 h2 : MH} {x y : Bool} (e1 : a ρ h = .ok x h1) (e2 : x = false → b ρ h1 = .ok y h2) (e3 : x = true → h1 = h2) : orTs [a, b] ρ h = .ok (x || y) h2 := orT_of e1 e2 e3
theorem chk7 (m : Nat) {ρ : Ro} {h : MH} {l : List Int} (h3 : ρ[3]? = some (some (.tup (rowD l)))) (h4 : ρ[4]? = some (some (if l.all V = true then .str (charsOf l) else .non))) (hρ : 16 < ρ.length) (hl : l.length ≤ 1000) (hb : ∀ o ∈ l, 0 ≤ o ∧ o < 256) :
    ∃ g, andTs [testM (binM (compD .IsNot) (varM 4) (cM (.non))), orTs [testM (binM (compD .NotEq) (callN 1 (R (m + 1) "to_octets") (argsE [varM 4])) (varM 3)), testM (binM (compD .NotEq) (lcM [16] (seqI (varM 4)) (nameG 16) (yesT) (callM (bltD "ord") (argsE [varM 16]))) (callM (tyD "list") (argsE [varM 3])))]] ρ h = .ok false (h ++ g) := by
  by_cases hv : l.all V = true
  · rw [if_pos hv] at h4
    have hsz : (charsOf l).cps.toList.length ≤ sizeLine := by show (l.map Int.toNat).length ≤ _; rw [List.length_map, sizeLine_eq]; omega
    obtain ⟨g1, e1⟩ := to_octets_ok m (charsOf l) h hsz
    have ec : (charsOf l).cps.toList.map (fun (c : Nat) => D.int c) = rowD l := chars_row hb
    rw [ec] at e1
    have t2 : testM (binM (compD .NotEq) (callN 1 (R (m + 1) "to_octets") (argsE [varM 4])) (varM 3)) ρ h = .ok false (h ++ g1) := test_of (by
      rw [bin_ok ((call1 (var_ok h4)).trans e1) (var_ok h3)]
      show neD _ _ _ = _
      unfold neD
      have hp : Py 12 (.tup (rowD l)) (.tuple (l.map .int)) := Py.tup (row_py l 10)
      rw [eqO_py rfl hp hp, eqv_self hp]
      rfl)
    have eo := ords_ok (ρ := ρ) (i := 4) (j := 16) (h := h ++ g1) h4 hρ hsz
    rw [ec] at eo
    have t3 : testM (binM (compD .NotEq) (lcM [16] (seqI (varM 4)) (nameG 16) (yesT) (callM (bltD "ord") (argsE [varM 16]))) (callM (tyD "list") (argsE [varM 3]))) ρ (h ++ g1) = .ok false (h ++ g1 ++ [.lst (rowD l)] ++ [.lst (rowD l)]) := test_of (by
      rw [bin_ok eo (list_of (var_ok h3) rfl)]
      show neD _ _ _ = _
      unfold neD
      rw [eq_new2 (row_py l 10)]
      rfl)
    refine ⟨g1 ++ [.lst (rowD l)] ++ [.lst (rowD l)], ?_⟩
    rw [← List.append_assoc, ← List.append_assoc]
    have t1 : testM (binM (compD .IsNot) (varM 4) (cM (.non))) ρ h = .ok true h := test_of (by rw [bin_ok (var_ok h4) cst_ok]; rfl)
    have t23 := orTs2_of t2 (fun _ => t3) fun z => by cases z
    exact andTs2_of t1 (fun _ => t23) fun z => by cases z
  · rw [if_neg hv] at h4
    have t1 : testM (binM (compD .IsNot) (varM 4) (cM (.non))) ρ h = .ok false h := test_of (by rw [bin_ok (var_ok h4) cst_ok]; rfl)
    refine ⟨[], ?_⟩
    rw [List.append_nil]
    exact andTs2_of (y := true) t1 (fun z => by cases z) fun _ => rfl
/-! the word's plain signs -/
def lmS : Str := PySem.Str.ofString "!#$&'*+-.^_|~"
def plB (c : Nat) : Bool := !(decide (c ∈ lmS.cps.toList) || ((decide (97 ≤ c) && decide (c ≤ 122)) || ((decide (65 ≤ c) && decide (c ≤ 90)) || (decide (48 ≤ c) && decide (c ≤ 57)))))
theorem pl_all : ((List.range 128).all fun c => c == 96 || (plB c == !Tk c)) = true := by decide +kernel
theorem pl_Tk {c : Nat} (h : c < 128 ∧ c ≠ 96) : plB c = !Tk c := by
  have := List.all_eq_true.mp pl_all c (List.mem_range.mpr h.1)
  rw [beq_eq_false_iff_ne.mpr h.2, Bool.false_or] at this
  exact eq_of_beq this
theorem le_one (a b : Nat) : (!decide ((one b).cps.toList < (one a).cps.toList)) = decide (a ≤ b) := by
  show (!decide ([b] < [a])) = _
  by_cases h : a ≤ b
  · rw [decide_eq_true h, decide_eq_false]; rfl
    intro z
    rcases List.cons_lt_cons_iff.mp z with z | ⟨_, z⟩
    · omega
    · exact absurd z (List.lt_irrefl _)
  · rw [decide_eq_false h, decide_eq_true]; rfl
    exact List.cons_lt_cons_iff.mpr (.inl (by omega))
theorem chainS {h : MH} {c a z : Nat} {ρ : Ro} {i : Nat} {sa sz : Str} (ea : sa = one a) (ez : sz = one z) (hi : ρ[i]? = some (some (.str (one c)))) : chainM (compD .LtE) (compD .LtE) (cM (.str sa)) (varM i) (cM (.str sz)) ρ h = .ok (.bl (decide (a ≤ c) && decide (c ≤ z))) h := by
  subst ea ez
  have e1 : leD (.str (one a)) (.str (one c)) h = .ok (.bl (decide (a ≤ c))) h := congrArg (fun b => Res.ok (D.bl b) h) (le_one a c)
  have e2 : leD (.str (one c)) (.str (one z)) h = .ok (.bl (decide (c ≤ z))) h := congrArg (fun b => Res.ok (D.bl b) h) (le_one c z)
  by_cases q : a ≤ c
  · rw [decide_eq_true q] at e1 ⊢
    simp only [chainM, cM, varM, hi, bind_ok, compD, e1, e2, Bool.true_and]
  · rw [decide_eq_false q] at e1 ⊢
    simp only [chainM, cM, varM, hi, bind_ok, compD, e1, Bool.false_and]
def plD : D → Bool
  | .str y => plB (y.cps.toList.getD 0 0)
  | _ => false
theorem in_one {c : Nat} {S : Str} {h : MH} : compD .In (.str (one c)) (.str S) h = .ok (.bl (decide (c ∈ S.cps.toList))) h := by
  rw [show compD .In = Mir.inD from rfl]
  unfold Mir.inD inO
  simp only
  exact congrArg (fun b => Res.ok (D.bl b) h) (StrLaws.found_one S c)
theorem plain_ok {ρ : Ro} {h : MH} {x : Str} (h6 : ρ[6]? = some (some (.str x))) (h7 : ρ[7]? = some (some (.str lmS))) (hρ : 16 < ρ.length) (hl : x.cps.toList.length ≤ 1000) :
    lcM [16] (seqI (varM 6)) (nameG 16) (notT (orTs [testM (binM (compD .In) (varM 16) (varM 7)), testM (chainM (compD .LtE) (compD .LtE) (cM (.str (PySem.Str.ofString "a"))) (varM 16) (cM (.str (PySem.Str.ofString "z")))), testM (chainM (compD .LtE) (compD .LtE) (cM (.str (PySem.Str.ofString "A"))) (varM 16) (cM (.str (PySem.Str.ofString "Z")))), testM (chainM (compD .LtE) (compD .LtE) (cM (.str (PySem.Str.ofString "0"))) (varM 16) (cM (.str (PySem.Str.ofString "9"))))])) (varM 16) ρ h
      = .ok (.ref h.length) (h ++ [.lst ((signs x).filter plD)]) := by
  have s16 : ∀ d, ((wipeD ρ [16]).set 16 (some d))[16]? = some (some d) := fun d => List.getElem?_set_self (by simpa [wipeD] using hρ)
  have s7 : ∀ d, ((wipeD ρ [16]).set 16 (some d))[7]? = some (some (.str lmS)) := fun d => by
    rw [List.getElem?_set_ne (by decide)]
    show (ρ.set 16 none)[7]? = _
    rw [List.getElem?_set_ne (by decide)]; exact h7
  have hm : seqI (varM 6) ρ h = .ok (signs x, always) h := by simp only [seqI, var_ok h6, bind_ok]
  have e := lc_pure (vs := [16]) (g := nameG 16) (t := notT (orTs [testM (binM (compD .In) (varM 16) (varM 7)), testM (chainM (compD .LtE) (compD .LtE) (cM (.str (PySem.Str.ofString "a"))) (varM 16) (cM (.str (PySem.Str.ofString "z")))), testM (chainM (compD .LtE) (compD .LtE) (cM (.str (PySem.Str.ofString "A"))) (varM 16) (cM (.str (PySem.Str.ofString "Z")))), testM (chainM (compD .LtE) (compD .LtE) (cM (.str (PySem.Str.ofString "0"))) (varM 16) (cM (.str (PySem.Str.ofString "9"))))])) (e := varM 16) (h := h) (chk := always) (fun d => (wipeD ρ [16]).set 16 (some d)) plD id hm (fun _ => rfl) (fun d hd h' => rfl) (fun d hd acc => by
    rw [sg_signs] at hd
    obtain ⟨c, _, rfl⟩ := List.mem_map.mp hd
    exact not_of (orTs_of (test_of ((bin_ok (var_ok (s16 _)) (var_ok (s7 _))).trans in_one)) (fun _ => orTs_of (test_of (chainS (a := 97) (z := 122) rfl rfl (s16 _))) (fun _ => orTs_of (test_of (chainS (a := 65) (z := 90) rfl rfl (s16 _))) (fun _ => (test_of (chainS (a := 48) (z := 57) rfl rfl (s16 _)))) fun _ => rfl) fun _ => rfl) fun _ => rfl)) (fun d hd _ acc => var_ok (s16 _)) (by rw [sg_signs, List.length_map, sizeLine_eq]; omega)
  rw [List.map_id] at e
  exact e
theorem plain_nil {x : Str} {k : Nat} (g : Gd x k) : ((signs x).filter plD).isEmpty = x.cps.toList.all fun c => Tk c := by
  rw [sg_signs]
  have : ∀ l : List Nat, (∀ c ∈ l, c < 128 ∧ c ≠ 96) → ((l.map fun c => D.str (one c)).filter plD).isEmpty = l.all fun c => Tk c := fun l => by
    induction l with
    | nil => intro _; rfl
    | cons c l ih =>
      intro h
      have hc := pl_Tk (h c List.mem_cons_self)
      have ih := ih fun z hz => h z (List.mem_cons_of_mem _ hz)
      rw [List.map_cons, List.all_cons]
      cases hv : Tk c with
      | true =>
        have : plD (.str (one c)) = false := by show plB c = _; rw [hc, hv]; rfl
        rw [List.filter_cons_of_neg (by rw [this]; simp), ih, Bool.true_and]
      | false =>
        have : plD (.str (one c)) = true := by show plB c = _; rw [hc, hv]; rfl
        rw [List.filter_cons_of_pos this]; rfl
  exact this _ g.sg
theorem plain_py {x : Str} {k : Nat} (g : Gd x k) : ∃ ps, Pys 11 ((signs x).filter plD) ps := by
  rw [sg_signs]
  have : ∀ l : List Nat, (∀ c ∈ l, c < 128 ∧ c ≠ 96) → ∃ ps, Pys 11 ((l.map fun c => D.str (one c)).filter plD) ps := fun l => by
    induction l with
    | nil => intro _; exact ⟨_, .nil _⟩
    | cons c l ih =>
      intro h
      obtain ⟨ps, hp⟩ := ih fun z hz => h z (List.mem_cons_of_mem _ hz)
      rw [List.map_cons]
      cases hv : plD (.str (one c)) with
      | false => rw [List.filter_cons_of_neg (by rw [hv]; simp)]; exact ⟨_, hp⟩
      | true =>
        rw [List.filter_cons_of_pos hv]
        refine ⟨_, .cons (Py.str 10 ?_) hp⟩
        have h2 := (h c List.mem_cons_self).1
        show (#[c] : Array Nat).all _ = true
        simp; omega
  exact this _ g.sg
end Law
namespace Law
open PySem L2 Mir
theorem lenA (x y : Str) : (x ++ y).length = x.length + y.length := by
  rw [TL.len_tl, TL.tl_append, List.length_append, ← TL.len_tl, ← TL.len_tl]
def evP (e : Ev) : PyData := .tuple [.str (if e.1 then "body" else "end"), .tuple (e.2.map .int)]
theorem evP_py (e : Ev) : Py 11 (evD e) (evP e) := by
  obtain ⟨b, l⟩ := e
  have h2 : Py 10 (.tup (l.map .int)) (.tuple (l.map .int)) := .tup (Pys.map fun a _ => Py.int 8 a)
  cases b
  · exact .tup (.cons (Py.str 9 (x := PySem.Str.ofString "end") (by decide +kernel)) (.cons h2 (.nil _)))
  · exact .tup (.cons (Py.str 9 (x := PySem.Str.ofString "body") (by decide +kernel)) (.cons h2 (.nil _)))
theorem tt2 (x y : Str) : (tupleText [x, y]).length = x.length + y.length + 4 := by
  show (("(" : Str) ++ (x ++ ", " ++ y) ++ (")" : Str)).length = _
  rw [lenA, lenA, lenA, lenA]
  show 1 + (x.length + 2 + y.length) + 1 = _
  omega
theorem int_all : ((List.range 256).all fun k => decide ((PyData.shown (.int (k : Nat))).length ≤ 8) && PyData.showable (.int (k : Nat))) = true := by decide +kernel
theorem int_len {i : Int} (h0 : 0 ≤ i) (h1 : i < 256) : (PyData.shown (.int i)).length ≤ 8 ∧ PyData.showable (.int i) = true := by
  obtain ⟨k, rfl⟩ := Int.eq_ofNat_of_zero_le h0
  have := List.all_eq_true.mp int_all k (List.mem_range.mpr (by omega))
  rw [Bool.and_eq_true] at this
  exact ⟨of_decide_eq_true this.1, this.2⟩
theorem ev_len {e : Ev} (h : EvOk e) : (PyData.shown (evP e)).length ≤ 40 ∧ PyData.showable (evP e) = true ∧ PyData.hasDict (evP e) = false := by
  rcases h with ⟨a, b, a0, a1, b0, b1, rfl⟩ | rfl
  · obtain ⟨l1, s1⟩ := int_len a0 (by omega : a < 256)
    obtain ⟨l2, s2⟩ := int_len b0 b1
    refine ⟨?_, ?_, rfl⟩
    · show (tupleText [reprText (PySem.Str.ofString "body"), tupleText [PyData.shown (.int a), PyData.shown (.int b)]]).length ≤ 40
      have : (reprText (PySem.Str.ofString "body")).length ≤ 6 := by decide +kernel
      rw [tt2, tt2]; omega
    · show (true && ((PyData.showable (.int a) && (PyData.showable (.int b) && true)) && true)) = true
      rw [s1, s2]; rfl
  · exact ⟨by decide +kernel, rfl, rfl⟩
theorem tf_len : ∀ (ts : List Str) (k : Nat) (acc : Str), (∀ t ∈ ts, t.length ≤ 40) → (textFrom k acc ts).length ≤ acc.length + 42 * ts.length
  | [], k, acc, _ => Nat.le_refl _
  | t :: r, k, acc, h => by
    have ht := h t List.mem_cons_self
    have ih := fun a => tf_len r (k + 1) a fun z hz => h z (List.mem_cons_of_mem _ hz)
    rw [List.length_cons]
    have hs : (PySem.Str.ofString (if k > 0 then ", " else "")).length ≤ 2 := by split <;> decide
    have := ih (acc ++ PySem.Str.ofString (if k > 0 then ", " else "") ++ t)
    rw [lenA, lenA] at this
    exact Nat.le_trans (Nat.le_of_eq rfl) (Nat.le_trans this (by omega))
theorem evs_all : ∀ {es : List Ev}, (∀ e ∈ es, EvOk e) → (∀ t ∈ PyData.shownAll (es.map evP), t.length ≤ 40) ∧ (PyData.shownAll (es.map evP)).length = es.length ∧ PyData.showableAll (es.map evP) = true ∧ PyData.hasDictAll (es.map evP) = false
  | [], _ => ⟨fun t h => by (cases h), rfl, rfl, rfl⟩
  | e :: es, h => by
    obtain ⟨a1, a2, a3⟩ := ev_len (h e List.mem_cons_self)
    obtain ⟨b1, b2, b3, b4⟩ := evs_all fun z hz => h z (List.mem_cons_of_mem _ hz)
    refine ⟨fun t ht => ?_, ?_, ?_, ?_⟩
    · rcases List.mem_cons.mp ht with rfl | ht
      · exact a1
      · exact b1 t ht
    · show (PyData.shownAll (es.map evP)).length + 1 = _; rw [b2]; rfl
    · show (PyData.showable (evP e) && PyData.showableAll (es.map evP)) = true; rw [a2, b3]; rfl
    · show (PyData.hasDict (evP e) || PyData.hasDictAll (es.map evP)) = false; rw [a3, b4]; rfl
theorem evsP_py (es : List Ev) : Pys 11 (es.map evD) (es.map evP) := Pys.map fun e _ => evP_py e
theorem repr_ev {q : Nat} {h : MH} {es : List Ev} (hq : h[q]? = some (.lst (es.map evD))) (he : ∀ e ∈ es, EvOk e) (hl : es.length ≤ 10) : reprD [.ref q] h = .ok (.str (PyData.shown (.list (es.map evP)))) h := by
  obtain ⟨b1, b2, b3, b4⟩ := evs_all he
  have hp := evsP_py es
  have e1 : toPy pyDepth h (.ref q) = some (.list (es.map evP)) := toPy_lst hq hp
  have hlen : (PyData.shown (.list (es.map evP))).length ≤ sizeLine := by
    show (textFrom 0 "[" (PyData.shownAll (es.map evP)) ++ ("]" : Str)).length ≤ _
    rw [lenA, sizeLine_eq]
    have := tf_len (PyData.shownAll (es.map evP)) 0 "[" b1
    have e3 : ("[" : Str).length = 1 := rfl
    have e4 : ("]" : Str).length = 1 := rfl
    rw [b2, e3] at this
    rw [e4]; omega
  have hd : PyData.depth (.list (es.map evP)) ≤ 32 := by have := hp.dep; simp only [PyData.depth]; omega
  unfold reprD
  simp only [e1]
  exact if_pos ⟨b3, b4, hd, hlen⟩
end Law
namespace Law
open PySem L2 Mir
theorem low_tab : bmTab "str" (PySem.Str.ofString "lower") = some lowerD := by kernel_rfl
theorem lower_of {ρ : Ro} {h : MH} {i : Nat} {x : Str} (hi : ρ[i]? = some (some (.str x))) (hx : x.length ≤ 1000) : bmE "lower" (varM i) (argsE []) ρ h = .ok (.str (Txt.lower x)) h := by
  have hz : x.length ≤ 5592405 := by omega
  rw [bm_str0 low_tab (var_ok hi)]
  simp only [lowerD, hz, if_true]
theorem lower_ok (n : Nat) {x : Str} {h : MH} (hx : x.length ≤ 1000) : R (n + 1) "lower" [.str x] h = .ok (.str (Txt.lower x)) h := by
  rw [r_lower]
  exact ret_run (lower_of rfl hx)
def nmF (fs : List (Str × Str)) : List Str := cutD (fs.map (·.1)) none (some 2) ++ [PySem.Str.ofString "none"]
theorem names_ok {ρ : Ro} {h : MH} {fs : List (Str × Str)} (h9 : ρ[9]? = some (some (.tup (fs.map fldD)))) (hρ : 3 < ρ.length) (hl : fs.length ≤ 1000) :
    ∃ HH g0, HH = h ++ g0 ∧ binM (binD .Add) (sliceM (lcM [3] (seqI (varM 9)) (nameG 3) (yesT) (binM ixD (varM 3) (cM (.int 0)))) (noPart) (partM (cM (.int 2)))) (lstM (argsE [cM (.str (PySem.Str.ofString "none"))])) ρ h = .ok (.ref HH.length) (HH ++ [.lst ((nmF fs).map .str)]) := by
  have s3 : ∀ d, ((wipeD ρ [3]).set 3 (some d))[3]? = some (some d) := fun d => List.getElem?_set_self (by simpa [wipeD] using hρ)
  have e := lc_pure (vs := [3]) (g := nameG 3) (t := yesT) (e := binM ixD (varM 3) (cM (.int 0))) (h := h) (chk := always) (fun d => (wipeD ρ [3]).set 3 (some d)) (fun _ => true) fst' (seqI_tup h9) (fun _ => rfl) (fun d hd h' => rfl) (fun _ _ _ => rfl) (fun d hd _ acc => by
    obtain ⟨p, _, rfl⟩ := fld_of hd
    rw [bin_ok (var_ok (s3 _)) cst_ok]; rfl) (by rw [List.length_map, sizeLine_eq]; omega)
  rw [filter_yes] at e
  have em : (fs.map fldD).map fst' = (fs.map (·.1)).map D.str := by rw [List.map_map, List.map_map]; rfl
  rw [em] at e
  have hz : (0 + 1 : Nat) ≤ sizeLine := by rw [sizeLine_eq]; decide
  have ec : cutD ((fs.map (·.1)).map D.str) none (some 2) = (cutD (fs.map (·.1)) none (some 2)).map D.str := by unfold cutD; simp only [List.length_map, List.map_take, List.map_drop]
  have e2 : sliceM (lcM [3] (seqI (varM 9)) (nameG 3) (yesT) (binM ixD (varM 3) (cM (.int 0)))) (noPart) (partM (cM (.int 2))) ρ h = .ok (.ref (h ++ [Ob.lst ((fs.map (·.1)).map D.str)]).length) (h ++ [Ob.lst ((fs.map (·.1)).map D.str)] ++ [Ob.lst ((cutD (fs.map (·.1)) none (some 2)).map D.str)]) := by
    have g0 : (h ++ [Ob.lst ((fs.map (·.1)).map D.str)])[h.length]? = some (.lst ((fs.map (·.1)).map D.str)) := by rw [getE0]; rfl
    simp only [sliceM, e, bind_ok, noPart, partM, cM, slD, g0, ec]
  generalize hA : h ++ [Ob.lst ((fs.map (·.1)).map D.str)] = H1 at e2
  have e3 : lstM (argsE [cM (.str (PySem.Str.ofString "none"))]) ρ (H1 ++ [Ob.lst ((cutD (fs.map (·.1)) none (some 2)).map D.str)]) = .ok (.ref (H1 ++ [Ob.lst ((cutD (fs.map (·.1)) none (some 2)).map D.str)]).length) (H1 ++ [Ob.lst ((cutD (fs.map (·.1)) none (some 2)).map D.str)] ++ [Ob.lst [.str (PySem.Str.ofString "none")]]) := by
    simp only [lstM, argsE, consM, nilM, cM, bind_ok, List.length_cons, List.length_nil, hz, if_true]
  have g1 : (H1 ++ [Ob.lst ((cutD (fs.map (·.1)) none (some 2)).map D.str)] ++ [Ob.lst [.str (PySem.Str.ofString "none")]])[H1.length]? = some (.lst ((cutD (fs.map (·.1)) none (some 2)).map D.str)) := by rw [List.append_assoc, getE0]; rfl
  have g2 : (H1 ++ [Ob.lst ((cutD (fs.map (·.1)) none (some 2)).map D.str)] ++ [Ob.lst [.str (PySem.Str.ofString "none")]])[(H1 ++ [Ob.lst ((cutD (fs.map (·.1)) none (some 2)).map D.str)]).length]? = some (.lst [.str (PySem.Str.ofString "none")]) := by rw [getE0]; rfl
  have hs : ((cutD (fs.map (·.1)) none (some 2)).map D.str).length + [D.str (PySem.Str.ofString "none")].length ≤ sizeLine := by
    rw [sizeLine_eq, List.length_map]
    have : (cutD (fs.map (·.1)) none (some 2)).length ≤ 1000 := by unfold cutD; rw [List.length_take, List.length_drop, List.length_map]; omega
    simp only [List.length_cons, List.length_nil]; omega
  refine ⟨H1 ++ [Ob.lst ((cutD (fs.map (·.1)) none (some 2)).map D.str)] ++ [Ob.lst [.str (PySem.Str.ofString "none")]], [Ob.lst ((fs.map (·.1)).map D.str)] ++ [Ob.lst ((cutD (fs.map (·.1)) none (some 2)).map D.str)] ++ [Ob.lst [.str (PySem.Str.ofString "none")]], by rw [← hA, List.append_assoc, List.append_assoc, List.append_assoc], ?_⟩
  rw [bin_ok e2 e3]
  simp only [binD, addD, g1, g2, hs, if_true]
  unfold nmF
  rw [List.map_append]
  rfl
/-- a text or none: is it none -/
theorem is_non {b : Bool} {x : Str} {h : MH} : compD .Is (if b = true then .str x else .non) .non h = .ok (.bl (!b)) h := by cases b <;> rfl
def t2W (R : Str → List D → MH → Res D) : MS :=
  (seqS (setS 6 (binM (binD .Add) (callN 1 (R "_law_text") (argsE [varM 1])) (callN 2 (R "_law_word") (argsE [varM 1, cM (.int 3)]))))
  (seqS (setS 7 (cM (.str (PySem.Str.ofString "!#$&'*+-.^_|~"))))
  (seqS (setS 8 (lcM [16] (seqI (varM 6)) (nameG 16) (notT (orTs [testM (binM (compD .In) (varM 16) (varM 7)), testM (chainM (compD .LtE) (compD .LtE) (cM (.str (PySem.Str.ofString "a"))) (varM 16) (cM (.str (PySem.Str.ofString "z")))), testM (chainM (compD .LtE) (compD .LtE) (cM (.str (PySem.Str.ofString "A"))) (varM 16) (cM (.str (PySem.Str.ofString "Z")))), testM (chainM (compD .LtE) (compD .LtE) (cM (.str (PySem.Str.ofString "0"))) (varM 16) (cM (.str (PySem.Str.ofString "9"))))])) (varM 16)))
  (seqS (ifS (orTs [testM (binM (compD .NotEq) (callN 1 (R "is_token") (argsE [varM 6])) (binM (compD .Eq) (varM 8) (lstM (argsE [])))), truM (callN 1 (R "is_token") (argsE [cM (.str (PySem.Str.ofString ""))])), testM (binM (compD .NotEq) (callN 1 (R "lower") (argsE [varM 6])) (bmE "lower" (varM 6) (argsE [])))]) (seqS (retS (cM (.bl false)))
    nxS) nxS)
  (seqS (setS 9 (callM (tyD "tuple") (argsE [callN 2 (R "_law_fields") (argsE [varM 1, cM (.int 6)])])))
  (seqS (setS 10 (binM (binD .Add) (sliceM (lcM [3] (seqI (varM 9)) (nameG 3) (yesT) (binM ixD (varM 3) (cM (.int 0)))) (noPart) (partM (cM (.int 2)))) (lstM (argsE [cM (.str (PySem.Str.ofString "none"))]))))
  (seqS (forS (seqI (varM 10)) (nameG 11) (seqS (ifS (testM (binM (compD .NotEq) (callN 2 (R "values") (argsE [varM 9, varM 11])) (lcM [3] (seqI (varM 9)) (nameG 3) (testM (binM (compD .Eq) (binM ixD (varM 3) (cM (.int 0))) (varM 11))) (binM ixD (varM 3) (cM (.int 1)))))) (seqS (retS (cM (.bl false)))
      nxS) nxS)
    nxS))
  (seqS (ifS (testM (binM (compD .NotEq) (callN 2 (R "without") (argsE [varM 9, varM 10])) (callM (tyD "tuple") (argsE [lcM [3] (seqI (varM 9)) (nameG 3) (testM (binM (compD .NotIn) (binM ixD (varM 3) (cM (.int 0))) (varM 10))) (varM 3)])))) (seqS (retS (cM (.bl false)))
    nxS) nxS)
  (seqS (setS 12 (callN 1 (R "_law_events") (argsE [varM 1])))
  (seqS (setS 13 (callM reprD (argsE [varM 12])))
  (seqS (retS (andMs [binM (compD .Eq) (callN 1 (R "joined") (argsE [varM 12])) (callN 1 (R "_law_joined") (argsE [varM 12])), binM (compD .Eq) (callM reprD (argsE [varM 12])) (varM 13)]))
  nxS)))))))))))
theorem law2 (n : Nat) {X : Ro} {h : MH} {k : Nat} (f1 : X[1]? = some (some (.ref k))) (hL : X.length = 17) (hD : DrawAt h k) : Wp (t2W (R (n + 4)) X h) fun r h' => match r.1 with | .rt d => d = .bl true | .nx => (D.non : D) = .bl true | _ => False := by
  unfold t2W
  rw [Wp_set, Wp_bin]
  rw [call1 (var_ok f1)]
  refine (text_ok (n + 2) hD).mono fun v h1 ⟨x, e, gx, S1⟩ => ?_
  subst e
  rw [call2 (var_ok f1) cst_ok]
  refine (word_ok (n + 2) S1.at_ (by decide) (by decide)).mono fun v h2 ⟨y, e, gy, S2, hy⟩ => ?_
  subst e
  have hs : x.length + y.length ≤ sizeLine := by rw [sizeLine_eq]; have := gx.size; have := gy.size; omega
  have ea : binD .Add (.str x) (.str y) h2 = .ok (.str (x ++ y)) h2 := by simp only [binD, addD, hs, if_true]
  rw [ea, Wp_ok]
  have gw := gx.cat gy
  have hne : 1 ≤ (x ++ y).cps.toList.length := by rw [show (x ++ y).cps.toList = x.cps.toList ++ y.cps.toList from TL.tl_append x y, List.length_append]; omega
  generalize x ++ y = w at gw hne
  have D2 := S2.at_
  have p6 : (X.set 6 (some (.str w)))[6]? = _ := List.getElem?_set_self (by omega)
  have p1 : (X.set 6 (some (.str w)))[1]? = _ := (List.getElem?_set_ne (by decide)).trans f1
  have pL : (X.set 6 (some (.str w))).length = 17 := by rw [List.length_set, hL]
  generalize X.set 6 (some (.str w)) = X6 at p6 p1 pL
  refine Wp_so (set_ok cst_ok) ?_
  have q7 : (X6.set 7 (some (.str lmS)))[7]? = _ := List.getElem?_set_self (by omega)
  have q6 : (X6.set 7 (some (.str lmS)))[6]? = _ := (List.getElem?_set_ne (by decide)).trans p6
  have q1 : (X6.set 7 (some (.str lmS)))[1]? = _ := (List.getElem?_set_ne (by decide)).trans p1
  have qL : (X6.set 7 (some (.str lmS))).length = 17 := by rw [List.length_set, pL]
  change Wp (seqS _ _ (X6.set 7 (some (.str lmS))) _) _
  generalize X6.set 7 (some (.str lmS)) = X7 at q7 q6 q1 qL
  have hwl : w.cps.toList.length ≤ 1000 := by have := gw.len; omega
  refine Wp_so (set_ok (plain_ok q6 q7 (by omega) hwl)) ?_
  have r8 : (X7.set 8 (some (.ref h2.length)))[8]? = _ := List.getElem?_set_self (by omega)
  have r6 : (X7.set 8 (some (.ref h2.length)))[6]? = _ := (List.getElem?_set_ne (by decide)).trans q6
  have r1 : (X7.set 8 (some (.ref h2.length)))[1]? = _ := (List.getElem?_set_ne (by decide)).trans q1
  have rL : (X7.set 8 (some (.ref h2.length))).length = 17 := by rw [List.length_set, qL]
  generalize X7.set 8 (some (.ref h2.length)) = X8 at r8 r6 r1 rL
  obtain ⟨ps, hps⟩ := plain_py gw
  have b8 : (h2 ++ [Ob.lst ((signs w).filter plD)])[h2.length]? = some (.lst ((signs w).filter plD)) := by rw [getE0]; rfl
  have et : tokF w = ((signs w).filter plD).isEmpty := by
    rw [plain_nil gw]
    unfold tokF
    rw [decide_eq_false, Bool.not_false, Bool.true_and]
    intro z
    rw [z] at hne
    exact absurd hne (by decide)
  have hws : w.length ≤ 1000 := by have := gw.size; omega
  have u1 : testM (binM (compD .NotEq) (callN 1 (R (n + 4) "is_token") (argsE [varM 6])) (binM (compD .Eq) (varM 8) (lstM (argsE [])))) X8 (h2 ++ [Ob.lst ((signs w).filter plD)]) = .ok false (h2 ++ [Ob.lst ((signs w).filter plD)] ++ [Ob.lst []]) := test_of (by
    rw [bin_ok ((call1 (var_ok r6)).trans (is_token_ok (n + 1) w _)) (eq_nil r8 b8 hps), cN_bl, et, decide_eq_true rfl]; rfl)
  have D3 : DrawAt (h2 ++ [Ob.lst ((signs w).filter plD)] ++ [Ob.lst []]) k := (D2.app).app
  generalize h2 ++ [Ob.lst ((signs w).filter plD)] ++ [Ob.lst []] = h3 at u1 D3
  have u2 : truM (callN 1 (R (n + 4) "is_token") (argsE [cM (.str (PySem.Str.ofString ""))])) X8 h3 = .ok false h3 := truB_of (by rw [call1 cst_ok, is_token_ok (n + 1)]; rfl)
  have u3 : testM (binM (compD .NotEq) (callN 1 (R (n + 4) "lower") (argsE [varM 6])) (bmE "lower" (varM 6) (argsE []))) X8 h3 = .ok false h3 := test_of (by
    rw [bin_ok ((call1 (var_ok r6)).trans (lower_ok (n + 3) hws)) (lower_of r6 hws), cN_str, decide_eq_true rfl]; rfl)
  have u23 := orTs2_of u2 (fun _ => u3) fun z => by cases z
  refine Wp_so (if_f (orTs_of u1 (fun _ => u23) fun z => by cases z)) ?_
  -- the fields
  rw [Wp_set]
  refine Wp_tuple ?_
  rw [call2 (var_ok r1) cst_ok]
  refine (fields_ok (n + 1) D3).mono fun v h4 ⟨q, fs, e, hq, hf, hF, S4⟩ => ?_
  subst e
  refine ⟨fs.map fldD, by simp only [seqO, hq], ?_⟩
  have D4 := S4.at_
  clear hq
  have a9 : (X8.set 9 (some (.tup (fs.map fldD))))[9]? = _ := List.getElem?_set_self (by omega)
  have a1 : (X8.set 9 (some (.tup (fs.map fldD))))[1]? = _ := (List.getElem?_set_ne (by decide)).trans r1
  have aL : (X8.set 9 (some (.tup (fs.map fldD)))).length = 17 := by rw [List.length_set, rL]
  generalize X8.set 9 (some (.tup (fs.map fldD))) = X9 at a9 a1 aL
  obtain ⟨HH, g0, eH, e10⟩ := names_ok (h := h4) a9 (by omega) (by omega)
  refine Wp_so (set_ok e10) ?_
  have c10 : (X9.set 10 (some (.ref HH.length)))[10]? = _ := List.getElem?_set_self (by omega)
  have c9 : (X9.set 10 (some (.ref HH.length)))[9]? = _ := (List.getElem?_set_ne (by decide)).trans a9
  have c1 : (X9.set 10 (some (.ref HH.length)))[1]? = _ := (List.getElem?_set_ne (by decide)).trans a1
  have cL : (X9.set 10 (some (.ref HH.length))).length = 17 := by rw [List.length_set, aL]
  generalize X9.set 10 (some (.ref HH.length)) = XA at c10 c9 c1 cL
  have DH : DrawAt (HH ++ [Ob.lst ((nmF fs).map .str)]) k := by rw [eH]; exact (D4.app).app
  have hn : (HH ++ [Ob.lst ((nmF fs).map .str)])[HH.length]? = some (.lst ((nmF fs).map .str)) := by rw [getE0]; rfl
  generalize HH ++ [Ob.lst ((nmF fs).map .str)] = h5 at DH hn
  generalize HH.length = qn at c10 hn
  refine Wp_seq (fun ρ h => (∃ c, ρ = XA.set 11 c) ∧ DrawAt h k ∧ h[qn]? = some (.lst ((nmF fs).map .str))) ?_ ?_
  · unfold forS
    have es : seqI (varM 10) XA h5 = .ok ((nmF fs).map .str, lstIs qn ((nmF fs).map .str)) h5 := by simp only [seqI, var_ok c10, bind_ok, hn]
    rw [es, bind_ok]
    have hXA : XA = XA.set 11 (XA[11]'(by omega)) := (List.set_getElem_self _).symm
    refine forL_wp (fun _ ρ h => (∃ c, ρ = XA.set 11 c) ∧ DrawAt h k ∧ h[qn]? = some (.lst ((nmF fs).map .str))) ⟨⟨_, hXA⟩, DH, hn⟩ ?_ ?_
    · rintro i ρ h x hx ⟨⟨c, rfl⟩, d1, d2⟩
      refine ⟨lst_is d2, ?_⟩
      rw [List.getElem?_map] at hx
      obtain ⟨nm, _, rfl⟩ := Option.map_eq_some_iff.mp hx
      simp only [nameG, Wp_ok, List.set_set]
      have y11 : (XA.set 11 (some (.str nm)))[11]? = _ := List.getElem?_set_self (by omega)
      have y9 : (XA.set 11 (some (.str nm)))[9]? = _ := (List.getElem?_set_ne (by decide)).trans c9
      obtain ⟨ps, hps⟩ := snds_py (l := (fs.map fldD).filter (isN nm)) (fun d hd => by
        obtain ⟨p, hp, e⟩ := fld_of (List.mem_filter.mp hd).1; exact ⟨p, hF p hp, e⟩)
      refine Wp_so (if_f (test_of (b := false) (h' := h ++ [Ob.lst (((fs.map fldD).filter (isN nm)).map snd')] ++ [Ob.lst (((fs.map fldD).filter (isN nm)).map snd')]) (by
        rw [bin_ok ((call2 (var_ok y9) (var_ok y11)).trans (values_ok (n + 3) (by omega))) (lvalues_ok y9 y11 (by omega))]
        show neD _ _ _ = _
        unfold neD
        rw [eq_new2 hps]
        rfl))) ?_
      exact ⟨⟨_, rfl⟩, (d1.app).app, getP (getP d2)⟩
    · rintro ρ h ⟨q1, q2, q3⟩
      exact ⟨lst_is q3, rfl, q1, q2, q3⟩
  rintro ρ h6 ⟨⟨c, rfl⟩, D6, n6⟩
  have z9 : (XA.set 11 c)[9]? = _ := (List.getElem?_set_ne (by decide)).trans c9
  have z10 : (XA.set 11 c)[10]? = _ := (List.getElem?_set_ne (by decide)).trans c10
  have z1 : (XA.set 11 c)[1]? = _ := (List.getElem?_set_ne (by decide)).trans c1
  have zL : (XA.set 11 c).length = 17 := by rw [List.length_set, cL]
  generalize XA.set 11 c = XB at z9 z10 z1 zL
  obtain ⟨ps2, hps2⟩ := flds_py (l := (fs.map fldD).filter (notIn (nmF fs))) (fun d hd => by
    obtain ⟨p, hp, e⟩ := fld_of (List.mem_filter.mp hd).1; exact ⟨p, hF p hp, e⟩)
  have hpt := Py.tup hps2
  refine Wp_so (if_f (test_of (b := false) (h' := h6 ++ [Ob.lst ((fs.map fldD).filter (notIn (nmF fs)))] ++ [Ob.lst ((fs.map fldD).filter (notIn (nmF fs)))]) (by
    rw [bin_ok ((call2 (var_ok z9) (var_ok z10)).trans (without_ok (n + 3) n6 (by omega))) (without_lc z9 z10 (by omega) (by decide) (getP n6) (by omega))]
    show neD _ _ _ = _
    unfold neD
    rw [eqO_py rfl hpt hpt, eqv_self hpt]
    rfl))) ?_
  have D7 : DrawAt (h6 ++ [Ob.lst ((fs.map fldD).filter (notIn (nmF fs)))] ++ [Ob.lst ((fs.map fldD).filter (notIn (nmF fs)))]) k := (D6.app).app
  generalize h6 ++ [Ob.lst ((fs.map fldD).filter (notIn (nmF fs)))] ++ [Ob.lst ((fs.map fldD).filter (notIn (nmF fs)))] = h7 at D7
  -- the events
  rw [Wp_set, call1 (var_ok z1)]
  refine (events_ok (n + 2) D7).mono fun v h8 ⟨q, es, e, hq, hel, hE, S8⟩ => ?_
  subst e
  have v12 : (XB.set 12 (some (.ref q)))[12]? = _ := List.getElem?_set_self (by omega)
  have vL : (XB.set 12 (some (.ref q))).length = 17 := by rw [List.length_set, zL]
  generalize XB.set 12 (some (.ref q)) = XC at v12 vL
  refine Wp_so (set_ok ((callM1 (var_ok v12)).trans (repr_ev hq hE hel))) ?_
  have w13 : (XC.set 13 (some (.str (PyData.shown (.list (es.map evP))))))[13]? = _ := List.getElem?_set_self (by omega)
  have w12 : (XC.set 13 (some (.str (PyData.shown (.list (es.map evP))))))[12]? = _ := (List.getElem?_set_ne (by decide)).trans v12
  generalize XC.set 13 (some (.str (PyData.shown (.list (es.map evP))))) = XD at w13 w12
  have hE2 : ∀ e ∈ es, e.2.length ≤ 2 := fun e he => by
    rcases hE e he with ⟨a, b, _, _, _, _, rfl⟩ | rfl
    · exact Nat.le_refl _
    · exact Nat.zero_le _
  obtain ⟨v, h9, e9, rfl, j1, j2, j3⟩ := (joined_ok (n + 3) hq hE2 hel).ex
  have hq9 := (j3 q (List.getElem?_eq_some_iff.mp hq).1).trans hq
  obtain ⟨v, hA, eA, rfl, i1, i2, i3⟩ := (ljoined_ok (n + 3) hq9 hE2 hel).ex
  have hqA := (i3 q (List.getElem?_eq_some_iff.mp hq9).1).trans hq9
  have jA := (i3 h8.length (List.getElem?_eq_some_iff.mp j1).1).trans j1
  have t1 : binM (compD .Eq) (callN 1 (R (n + 4) "joined") (argsE [varM 12])) (callN 1 (R (n + 4) "_law_joined") (argsE [varM 12])) XD h8 = .ok (.bl true) hA := by
    rw [bin_ok ((call1 (var_ok w12)).trans e9) ((call1 (var_ok w12)).trans eA)]
    show eqD _ _ _ = _
    unfold eqD
    rw [eqO_lst jA i1 (evsP_py _) (evsP_py _), eqvAll_self (evsP_py _)]
  have t2 : binM (compD .Eq) (callM reprD (argsE [varM 12])) (varM 13) XD hA = .ok (.bl true) hA := by
    rw [bin_ok ((callM1 (var_ok w12)).trans (repr_ev hqA hE hel)) (var_ok w13), cE_str, decide_eq_true rfl]
  have tt : andMs [binM (compD .Eq) (callN 1 (R (n + 4) "joined") (argsE [varM 12])) (callN 1 (R (n + 4) "_law_joined") (argsE [varM 12])), binM (compD .Eq) (callM reprD (argsE [varM 12])) (varM 13)] XD h8 = .ok (.bl true) hA := andM_of (x := true) (y := true) t1 (fun _ => t2) fun z => by cases z
  rw [ret_ok tt, Wp_ok]
end Law
namespace Law
open PySem L2 Mir
theorem law_ok (n : Nat) (ns : List Int) (hl : ns.length ≤ 63) : Wp (topOf (glOf glL) defs (n + 4) d_law [.wl (ns.map .int)] []) fun v _ => v = .bl true := by
  rw [r_law]
  unfold runB
  rw [Wp_resF]
  show Wp (s_law (R (n + 4)) [some (.wl (ns.map .int)), none, none, none, none, none, none, none, none, none, none, none, none, none, none, none, none] []) _
  unfold s_law
  rw [Wp_set, call1 (var_ok rfl), draw_E]
  refine (draw_ok rfl hl).mono fun v h ⟨k, e, hD⟩ => ?_
  subst e
  change Wp (seqS _ _ [some (.wl (ns.map .int)), some (.ref k), none, none, none, none, none, none, none, none, none, none, none, none, none, none, none] h) _
  refine Wp_seq (fun ρ h => (∃ c, ρ = [some (.wl (ns.map .int)), some (.ref k), c, none, none, none, none, none, none, none, none, none, none, none, none, none, none]) ∧ DrawAt h k) ?_ ?_
  · refine Wp_for1 ?_
    rw [cst_ok, Wp_ok]
    refine ⟨6, rfl, by decide, ?_⟩
    refine forL_wp (fun _ ρ h => (∃ c, ρ = [some (.wl (ns.map .int)), some (.ref k), c, none, none, none, none, none, none, none, none, none, none, none, none, none, none]) ∧ DrawAt h k) ⟨⟨none, rfl⟩, hD⟩ ?_ ?_
    · rintro i ρ h x hx ⟨⟨c, rfl⟩, hD⟩
      refine ⟨rfl, ?_⟩
      simp only [nameG, Wp_ok, List.set_cons_zero, List.set_cons_succ]
      obtain ⟨v, h2, e2, rfl, S⟩ := (right_ok n hD).ex
      refine Wp_so (if_f (not_of (b := true) (truB_of ((call1 (var_ok rfl)).trans e2)))) ?_
      exact ⟨⟨_, rfl⟩, S.at_⟩
    · rintro ρ h ⟨q, hD⟩
      exact ⟨rfl, rfl, q, hD⟩
  rintro ρ h ⟨⟨c, rfl⟩, hD⟩
  generalize hX : [some (.wl (ns.map .int)), some (.ref k), c, none, none, none, none, none, none, none, none, none, none, none, none, none, none] = X
  have f1 : X[1]? = some (some (.ref k)) := by rw [← hX]; rfl
  have hL : X.length = 17 := by rw [← hX]; rfl
  clear hX
  -- the row, its text, its bad octets
  rw [Wp_set]
  refine (row_ok (n + 3) f1 hD).mono fun v h1 ⟨l, e, l1, l2, S1⟩ => ?_
  subst e
  have f3 : (X.set 3 (some (.tup (rowD l))))[3]? = some (some (.tup (rowD l))) := List.getElem?_set_self (by omega)
  have f1' : (X.set 3 (some (.tup (rowD l))))[1]? = some (some (.ref k)) := (List.getElem?_set_ne (by decide)).trans f1
  have hL' : (X.set 3 (some (.tup (rowD l)))).length = 17 := by rw [List.length_set, hL]
  generalize X.set 3 (some (.tup (rowD l))) = X3 at f3 f1' hL'
  obtain ⟨g, e4⟩ := to_text_ok (n + 2) l h1 (by omega)
  refine Wp_so (set_ok ((call1 (var_ok f3)).trans e4)) ?_
  have D1 : DrawAt (h1 ++ g) k := S1.at_.app
  generalize h1 ++ g = h2 at D1
  have g4 : (X3.set 4 (some (if l.all V = true then .str (charsOf l) else .non)))[4]? = _ := List.getElem?_set_self (by omega)
  have g3 : (X3.set 4 (some (if l.all V = true then .str (charsOf l) else .non)))[3]? = _ := (List.getElem?_set_ne (by decide)).trans f3
  have g1 : (X3.set 4 (some (if l.all V = true then .str (charsOf l) else .non)))[1]? = _ := (List.getElem?_set_ne (by decide)).trans f1'
  have gL : (X3.set 4 (some (if l.all V = true then .str (charsOf l) else .non))).length = 17 := by rw [List.length_set, hL']
  generalize X3.set 4 (some (if l.all V = true then .str (charsOf l) else .non)) = X4 at g4 g3 g1 gL
  refine Wp_so (set_ok (bad_ok g3 (by omega) (by omega))) ?_
  have k5 : (X4.set 5 (some (.ref h2.length)))[5]? = _ := List.getElem?_set_self (by omega)
  have k4 : (X4.set 5 (some (.ref h2.length)))[4]? = _ := (List.getElem?_set_ne (by decide)).trans g4
  have k3 : (X4.set 5 (some (.ref h2.length)))[3]? = _ := (List.getElem?_set_ne (by decide)).trans g3
  have k1 : (X4.set 5 (some (.ref h2.length)))[1]? = _ := (List.getElem?_set_ne (by decide)).trans g1
  have kL : (X4.set 5 (some (.ref h2.length))).length = 17 := by rw [List.length_set, gL]
  generalize X4.set 5 (some (.ref h2.length)) = X5 at k5 k4 k3 k1 kL
  obtain ⟨ps, hps⟩ := ints_py (ds := (rowD l).filter badD) 10 (fun d hd => by
    obtain ⟨o, _, rfl⟩ := List.mem_map.mp (List.mem_filter.mp hd).1; exact ⟨o, rfl⟩)
  have b5 : (h2 ++ [Ob.lst ((rowD l).filter badD)])[h2.length]? = some (.lst ((rowD l).filter badD)) := by rw [getE0]; rfl
  refine Wp_so (if_f (test_of (b := false) (by
    rw [bin_ok ((bin_ok (var_ok k4) cst_ok).trans is_non) (ne_nil k5 b5 hps), cN_bl, bad_nil, decide_eq_true rfl]; rfl))) ?_
  obtain ⟨g7, e7⟩ := chk7 (n + 3) (h := h2 ++ [Ob.lst ((rowD l).filter badD)] ++ [.lst []]) k3 k4 (by omega) (by omega) l2
  refine Wp_so (if_f e7) ?_
  have D2 : DrawAt (h2 ++ [Ob.lst ((rowD l).filter badD)] ++ [.lst []] ++ g7) k := ((D1.app).app).app
  generalize h2 ++ [Ob.lst ((rowD l).filter badD)] ++ [.lst []] ++ g7 = h3 at D2
  exact law2 n k1 kL D2
end Law
namespace Law
open PySem L2 Mir
theorem main : ∀ ns : List Int, ns.length ≤ 63 → ∃ h', topOf (glOf glL) defs 4 d_law [.wl (ns.map .int)] [] = .ok (.bl true) h' := fun ns hl => by
  obtain ⟨v, h', e, q⟩ := (law_ok 0 ns hl).ex
  exact ⟨h', e.trans (by rw [q])⟩
end Law
theorem PySem.Challenge.cw_ownanswer_k00_octets_and_texts_holds : PySem.Challenge.rw_ownanswer_k00_octets_and_texts.Holds := by
  w_on; o_law; k_head; (case hw => w_witness2)
  k_fill
  refine Mir.walk_t (l := PySem.Challenge.rw_ownanswer_k00_octets_and_texts) 4 rfl rfl ⟨rfl, by decide, by decide⟩ Law.glL Law.defs Law.d_law rfl (List.mem_of_getElem? (i := 22) rfl) rfl "_law_script" rfl (fun w h Y => PySem.W.kIn_of Y) ?F Law.main
  case F =>
    intro w mg h KX G
    refine Mir.tab_mk ?D ?V ?B
    case D =>
      refine List.forall_mem_cons.mpr ⟨?_, ?_⟩
      · refine' Mir.df_mk KX G Law.d_is_value_sign ?a ?l ?c ?k Law.sc_is_value_sign (fun _ _ _ _ _ _ us hl => match us, hl with | [_], _ => rfl)
        (case a => k_is); (case l => k_is); (case c => k_is); (case k => k_is)
      refine List.forall_mem_cons.mpr ⟨?_, ?_⟩
      · refine' Mir.df_mk KX G Law.d_sign_of ?a ?l ?c ?k Law.sc_sign_of (fun _ _ _ _ _ _ us hl => match us, hl with | [_], _ => rfl)
        (case a => k_is); (case l => k_is); (case c => k_is); (case k => k_is)
      refine List.forall_mem_cons.mpr ⟨?_, ?_⟩
      · refine' Mir.df_mk KX G Law.d_to_octets ?a ?l ?c ?k Law.sc_to_octets (fun _ _ _ _ _ _ us hl => match us, hl with | [_], _ => rfl)
        (case a => k_is); (case l => k_is); (case c => k_is); (case k => k_is)
      refine List.forall_mem_cons.mpr ⟨?_, ?_⟩
      · refine' Mir.df_mk KX G Law.d_to_text ?a ?l ?c ?k Law.sc_to_text (fun _ _ _ _ _ _ us hl => match us, hl with | [_], _ => rfl)
        (case a => k_is); (case l => k_is); (case c => k_is); (case k => k_is)
      refine List.forall_mem_cons.mpr ⟨?_, ?_⟩
      · refine' Mir.df_mk KX G Law.d_is_digit ?a ?l ?c ?k Law.sc_is_digit (fun _ _ _ _ _ _ us hl => match us, hl with | [_], _ => rfl)
        (case a => k_is); (case l => k_is); (case c => k_is); (case k => k_is)
      refine List.forall_mem_cons.mpr ⟨?_, ?_⟩
      · refine' Mir.df_mk KX G Law.d_is_letter ?a ?l ?c ?k Law.sc_is_letter (fun _ _ _ _ _ _ us hl => match us, hl with | [_], _ => rfl)
        (case a => k_is); (case l => k_is); (case c => k_is); (case k => k_is)
      refine List.forall_mem_cons.mpr ⟨?_, ?_⟩
      · refine' Mir.df_mk KX G Law.d_is_token_sign ?a ?l ?c ?k Law.sc_is_token_sign (fun _ _ _ _ _ _ us hl => match us, hl with | [_], _ => rfl)
        (case a => k_is); (case l => k_is); (case c => k_is); (case k => k_is)
      refine List.forall_mem_cons.mpr ⟨?_, ?_⟩
      · refine' Mir.df_mk KX G Law.d_is_token ?a ?l ?c ?k Law.sc_is_token (fun _ _ _ _ _ _ us hl => match us, hl with | [_], _ => rfl)
        (case a => k_is); (case l => k_is); (case c => k_is); (case k => k_is)
      refine List.forall_mem_cons.mpr ⟨?_, ?_⟩
      · refine' Mir.df_mk KX G Law.d_lower_octet ?a ?l ?c ?k Law.sc_lower_octet (fun _ _ _ _ _ _ us hl => match us, hl with | [_], _ => rfl)
        (case a => k_is); (case l => k_is); (case c => k_is); (case k => k_is)
      refine List.forall_mem_cons.mpr ⟨?_, ?_⟩
      · refine' Mir.df_mk KX G Law.d_lower ?a ?l ?c ?k Law.sc_lower (fun _ _ _ _ _ _ us hl => match us, hl with | [_], _ => rfl)
        (case a => k_is); (case l => k_is); (case c => k_is); (case k => k_is)
      refine List.forall_mem_cons.mpr ⟨?_, ?_⟩
      · refine' Mir.df_mk KX G Law.d_hex_digit ?a ?l ?c ?k Law.sc_hex_digit (fun _ _ _ _ _ _ us hl => match us, hl with | [_], _ => rfl)
        (case a => k_is); (case l => k_is); (case c => k_is); (case k => k_is)
      refine List.forall_mem_cons.mpr ⟨?_, ?_⟩
      · refine' Mir.df_mk KX G Law.d_values ?a ?l ?c ?k Law.sc_values (fun _ _ _ _ _ _ us hl => match us, hl with | [_, _], _ => rfl)
        (case a => k_is); (case l => k_is); (case c => k_is); (case k => k_is)
      refine List.forall_mem_cons.mpr ⟨?_, ?_⟩
      · refine' Mir.df_mk KX G Law.d_without ?a ?l ?c ?k Law.sc_without (fun _ _ _ _ _ _ us hl => match us, hl with | [_, _], _ => rfl)
        (case a => k_is); (case l => k_is); (case c => k_is); (case k => k_is)
      refine List.forall_mem_cons.mpr ⟨?_, ?_⟩
      · refine' Mir.df_mk KX G Law.d_joined ?a ?l ?c ?k Law.sc_joined (fun _ _ _ _ _ _ us hl => match us, hl with | [_], _ => rfl)
        (case a => k_is); (case l => k_is); (case c => k_is); (case k => k_is)
      refine List.forall_mem_cons.mpr ⟨?_, ?_⟩
      · refine' Mir.df_mk KX G Law.d__law_draw ?a ?l ?c ?k Law.sc__law_draw (fun _ _ _ _ _ _ us hl => match us, hl with | [_], _ => rfl)
        (case a => k_is); (case l => k_is); (case c => k_is); (case k => k_is)
      refine List.forall_mem_cons.mpr ⟨?_, ?_⟩
      · refine' Mir.df_mk KX G Law.d__law_take ?a ?l ?c ?k Law.sc__law_take (fun _ _ _ _ _ _ us hl => match us, hl with | [_, _], _ => rfl)
        (case a => k_is); (case l => k_is); (case c => k_is); (case k => k_is)
      refine List.forall_mem_cons.mpr ⟨?_, ?_⟩
      · refine' Mir.df_mk KX G Law.d__law_joined ?a ?l ?c ?k Law.sc__law_joined (fun _ _ _ _ _ _ us hl => match us, hl with | [_], _ => rfl)
        (case a => k_is); (case l => k_is); (case c => k_is); (case k => k_is)
      refine List.forall_mem_cons.mpr ⟨?_, ?_⟩
      · refine' Mir.df_mk KX G Law.d__law_word ?a ?l ?c ?k Law.sc__law_word (fun _ _ _ _ _ _ us hl => match us, hl with | [_, _], _ => rfl)
        (case a => k_is); (case l => k_is); (case c => k_is); (case k => k_is)
      refine List.forall_mem_cons.mpr ⟨?_, ?_⟩
      · refine' Mir.df_mk KX G Law.d__law_text ?a ?l ?c ?k Law.sc__law_text (fun _ _ _ _ _ _ us hl => match us, hl with | [_], _ => rfl)
        (case a => k_is); (case l => k_is); (case c => k_is); (case k => k_is)
      refine List.forall_mem_cons.mpr ⟨?_, ?_⟩
      · refine' Mir.df_mk KX G Law.d__law_fields ?a ?l ?c ?k Law.sc__law_fields (fun _ _ _ _ _ _ us hl => match us, hl with | [_, _], _ => rfl)
        (case a => k_is); (case l => k_is); (case c => k_is); (case k => k_is)
      refine List.forall_mem_cons.mpr ⟨?_, ?_⟩
      · refine' Mir.df_mk KX G Law.d__law_signs_right ?a ?l ?c ?k Law.sc__law_signs_right (fun _ _ _ _ _ _ us hl => match us, hl with | [_], _ => rfl)
        (case a => k_is); (case l => k_is); (case c => k_is); (case k => k_is)
      refine List.forall_mem_cons.mpr ⟨?_, ?_⟩
      · refine' Mir.df_mk KX G Law.d__law_events ?a ?l ?c ?k Law.sc__law_events (fun _ _ _ _ _ _ us hl => match us, hl with | [_], _ => rfl)
        (case a => k_is); (case l => k_is); (case c => k_is); (case k => k_is)
      refine List.forall_mem_cons.mpr ⟨?_, ?_⟩
      · refine' Mir.df_mk KX G Law.d_law ?a ?l ?c ?k Law.sc_law (fun _ _ _ _ _ _ us hl => match us, hl with | [_], _ => rfl)
        (case a => k_is); (case l => k_is); (case c => k_is); (case k => k_is)
      exact List.forall_mem_nil _
    case V =>
      refine List.forall_mem_cons.mpr ⟨?_, ?_⟩
      · exact Mir.v_str KX G (by k_is)
      refine List.forall_mem_cons.mpr ⟨?_, ?_⟩
      · exact Mir.v_str KX G (by k_is)
      refine List.forall_mem_cons.mpr ⟨?_, ?_⟩
      · exact Mir.v_int KX G (by k_is)
      refine List.forall_mem_cons.mpr ⟨?_, ?_⟩
      · exact Mir.v_int KX G (by k_is)
      refine List.forall_mem_cons.mpr ⟨by kernel_rfl, ?_⟩
      refine List.forall_mem_cons.mpr ⟨by kernel_rfl, ?_⟩
      refine List.forall_mem_cons.mpr ⟨by kernel_rfl, ?_⟩
      refine List.forall_mem_cons.mpr ⟨by kernel_rfl, ?_⟩
      refine List.forall_mem_cons.mpr ⟨by kernel_rfl, ?_⟩
      refine List.forall_mem_cons.mpr ⟨by kernel_rfl, ?_⟩
      refine List.forall_mem_cons.mpr ⟨by kernel_rfl, ?_⟩
      refine List.forall_mem_cons.mpr ⟨by kernel_rfl, ?_⟩
      refine List.forall_mem_cons.mpr ⟨by kernel_rfl, ?_⟩
      refine List.forall_mem_cons.mpr ⟨by kernel_rfl, ?_⟩
      refine List.forall_mem_cons.mpr ⟨by kernel_rfl, ?_⟩
      refine List.forall_mem_cons.mpr ⟨by kernel_rfl, ?_⟩
      refine List.forall_mem_cons.mpr ⟨by kernel_rfl, ?_⟩
      refine List.forall_mem_cons.mpr ⟨by kernel_rfl, ?_⟩
      refine List.forall_mem_cons.mpr ⟨by kernel_rfl, ?_⟩
      refine List.forall_mem_cons.mpr ⟨by kernel_rfl, ?_⟩
      refine List.forall_mem_cons.mpr ⟨by kernel_rfl, ?_⟩
      refine List.forall_mem_cons.mpr ⟨by kernel_rfl, ?_⟩
      refine List.forall_mem_cons.mpr ⟨by kernel_rfl, ?_⟩
      refine List.forall_mem_cons.mpr ⟨by kernel_rfl, ?_⟩
      refine List.forall_mem_cons.mpr ⟨by kernel_rfl, ?_⟩
      refine List.forall_mem_cons.mpr ⟨by kernel_rfl, ?_⟩
      refine List.forall_mem_cons.mpr ⟨by kernel_rfl, ?_⟩
      exact List.forall_mem_nil _
    case B =>
      refine fun x hx _ => ?_
      simp only [Mir.bltAll, Mir.bltNames, Mir.tyNames, List.map_cons, List.map_nil, List.cons_append, List.nil_append, List.mem_cons, List.not_mem_nil, or_false] at hx
      rcases hx with rfl | rfl | rfl | rfl | rfl | rfl | rfl | rfl | rfl | rfl | rfl | rfl | rfl
      all_goals exact PySem.W.mg_none_of KX G (by k_is)
