import PyProof.Rows.All
import Wide.All
import OpenK.AllK
import Wide.FinOn
import HandS.ForMost
import HandS.Walk
import HandS.Zip
import HandS.IsInst
import HandS.TupAny
import HandS.Style
import HandS.Flow
import HandS.EndBits
import HandS.SortInts
import HandS.Deep
import HandS.Wide
import KE.SortData
import HandS.Star
import HandS.Strs
import HandS.SetFor
import PySem.Challenge.RW_pureladders_k78_whole_lower_and_upper_de
set_option Elab.async false
set_option linter.all false
set_option maxRecDepth 100000
set_option maxHeartbeats 8100000
/-! Deep layer A: values by content (tuples, lists that no one changes), the heap of what is changed, judgements "up". -/
namespace DL
open PySem PyProof.Rows PySem.Spec L2

abbrev Fg := PySem.W.Frag
inductive DV where
  | non | bl (b : Bool) | int (i : Int) | str (x : Str) | ref (a : Addr) | ty (n : String)
  | tup (ds : List DV) | lst (ds : List DV) | scr (ns : List Int)
deriving Inhabited
/-- a changing thing: a list -/
inductive DO where
  | lst (ds : List DV)
abbrev DG := Addr → Option DO
abbrev DS := List (Option DV)
def gup (g : DG) (p : Addr) (o : DO) : DG := fun b => if b = p then some o else g b
def gdel (g : DG) (p : Addr) : DG := fun b => if b = p then none else g b
theorem gup_same {g : DG} {p : Addr} {o : DO} : gup g p o p = some o := by unfold gup; rw [if_pos rfl]
theorem gup_ne {g : DG} {p b : Addr} {o : DO} (h : b ≠ p) : gup g p o b = g b := by unfold gup; rw [if_neg h]
theorem gup_gup {g : DG} {p : Addr} {o o' : DO} : gup (gup g p o) p o' = gup g p o' := by
  funext b; unfold gup; split <;> rfl

def FzL (_ : Fg) (H : Hp) (a : Addr) (xs : List V) : Prop := ∃ o, H a = some (.frz o (.lst xs))
theorem FzL.sq {K : Fg} {H : Hp} {a : Addr} {xs : List V} (h : FzL K H a xs) : SqL K H a xs := by
  obtain ⟨o, h⟩ := h
  exact .inl (.inr ⟨o, h⟩)

/-- a list of ints that no one changes, be it locked or a part of the fixed heap -/
def ScL (K : Fg) (H : Hp) (a : Addr) (ns : List Int) : Prop := FzL K H a (ns.map V.int) ∨
  ∃ (o : Obj) (its : Array Value) (n : Nat), K.lookup a = some o ∧ o.cls = .type "list" ∧ o.dict = none ∧ o.data = .seq its n ∧ its.size ≤ sizeLine ∧ Vals (ns.map V.int) its.toList
theorem ScL.sq {K : Fg} {H : Hp} {a : Addr} {ns : List Int} (h : ScL K H a ns) : SqL K H a (ns.map V.int) := by
  rcases h with h | h
  · exact h.sq
  · exact .inr h

mutual
inductive RD (K : Fg) (H : Hp) : DV → V → Prop
  | non : RD K H .non .non
  | bl (b : Bool) : RD K H (.bl b) (.bl b)
  | int (i : Int) : RD K H (.int i) (.int i)
  | str (x : Str) : RD K H (.str x) (.str x)
  | ref (a : Addr) : RD K H (.ref a) (.ref a)
  | ty (n : String) : RD K H (.ty n) (.ty n)
  | tup {a : Addr} {xs : List V} {ds : List DV} : SqT K H a xs → RDs K H ds xs → RD K H (.tup ds) (.ref a)
  | lst {a : Addr} {xs : List V} {ds : List DV} : FzL K H a xs → RDs K H ds xs → RD K H (.lst ds) (.ref a)
  | scr {a : Addr} {ns : List Int} : ScL K H a ns → RD K H (.scr ns) (.ref a)
inductive RDs (K : Fg) (H : Hp) : List DV → List V → Prop
  | nil : RDs K H [] []
  | cons {d : DV} {v : V} {ds : List DV} {vs : List V} : RD K H d v → RDs K H ds vs → RDs K H (d :: ds) (v :: vs)
end
/-- tuples and locked things stay -/
structure Kp (H H' : Hp) : Prop where
  t : ∀ b xs, H b = some (.tup xs) → H' b = some (.tup xs)
  f : ∀ b o u, H b = some (.frz o u) → H' b = some (.frz o u)
theorem Kp.sqT {K : Fg} {H H' : Hp} {a : Addr} {xs : List V} (k : Kp H H') (h : SqT K H a xs) : SqT K H' a xs := by
  rcases h with (h | ⟨o, h⟩) | h
  · exact .inl (.inl (k.t _ _ h))
  · exact .inl (.inr ⟨o, k.f _ _ _ h⟩)
  · exact .inr h
theorem Kp.fz {K : Fg} {H H' : Hp} {a : Addr} {xs : List V} (k : Kp H H') (h : FzL K H a xs) : FzL K H' a xs := by
  obtain ⟨o, h⟩ := h
  exact ⟨o, k.f _ _ _ h⟩
theorem Kp.sc {K : Fg} {H H' : Hp} {a : Addr} {ns : List Int} (k : Kp H H') (h : ScL K H a ns) : ScL K H' a ns := by
  rcases h with h | h
  · exact .inl (k.fz h)
  · exact .inr h
mutual
theorem RD.mono {K : Fg} {H H' : Hp} (k : Kp H H') : ∀ {d : DV} {v : V}, RD K H d v → RD K H' d v
  | _, _, .non => .non
  | _, _, .bl b => .bl b
  | _, _, .int i => .int i
  | _, _, .str x => .str x
  | _, _, .ref a => .ref a
  | _, _, .ty n => .ty n
  | _, _, .tup h r => .tup (k.sqT h) (RDs.mono k r)
  | _, _, .lst h r => .lst (k.fz h) (RDs.mono k r)
  | _, _, .scr h => .scr (k.sc h)
theorem RDs.mono {K : Fg} {H H' : Hp} (k : Kp H H') : ∀ {ds : List DV} {vs : List V}, RDs K H ds vs → RDs K H' ds vs
  | _, _, .nil => .nil
  | _, _, .cons r t => .cons (RD.mono k r) (RDs.mono k t)
end
section
variable {K : Fg} {H H' : Hp}
theorem RDs.length : ∀ {ds : List DV} {vs : List V}, RDs K H ds vs → ds.length = vs.length
  | _, _, .nil => rfl
  | _, _, .cons _ t => by rw [List.length_cons, List.length_cons, RDs.length t]
theorem RDs.get : ∀ {ds : List DV} {vs : List V} {i : Nat} {d : DV}, RDs K H ds vs → ds[i]? = some d → ∃ v, vs[i]? = some v ∧ RD K H d v
  | _, _, _, _, .nil, e => by simp at e
  | _, _, 0, _, .cons r _, e => by simp at e; subst e; exact ⟨_, rfl, r⟩
  | _, _, i + 1, d, .cons _ t, e => by
    obtain ⟨u, h1, h2⟩ := RDs.get (i := i) (d := d) t (by simpa using e)
    exact ⟨u, by simpa using h1, h2⟩
theorem RDs.getV : ∀ {ds : List DV} {vs : List V} {i : Nat} {v : V}, RDs K H ds vs → vs[i]? = some v → ∃ d, ds[i]? = some d ∧ RD K H d v
  | _, _, _, _, .nil, e => by simp at e
  | _, _, 0, _, .cons r _, e => by simp at e; subst e; exact ⟨_, rfl, r⟩
  | _, _, i + 1, v, .cons _ t, e => by
    obtain ⟨u, h1, h2⟩ := RDs.getV (i := i) (v := v) t (by simpa using e)
    exact ⟨u, by simpa using h1, h2⟩
theorem RDs.append : ∀ {ds es : List DV} {vs us : List V}, RDs K H ds vs → RDs K H es us → RDs K H (ds ++ es) (vs ++ us)
  | _, _, _, _, .nil, s => s
  | _, _, _, _, .cons r t, s => .cons r (RDs.append t s)
theorem RDs.one {d : DV} {v : V} (r : RD K H d v) : RDs K H [d] [v] := .cons r .nil
theorem RDs.take : ∀ {ds : List DV} {vs : List V} (n : Nat), RDs K H ds vs → RDs K H (ds.take n) (vs.take n)
  | _, _, 0, _ => .nil
  | _, _, _ + 1, .nil => .nil
  | _, _, n + 1, .cons r t => .cons r (RDs.take n t)
theorem RDs.drop : ∀ {ds : List DV} {vs : List V} (n : Nat), RDs K H ds vs → RDs K H (ds.drop n) (vs.drop n)
  | _, _, 0, r => r
  | _, _, _ + 1, .nil => .nil
  | _, _, n + 1, .cons _ t => RDs.drop n t
theorem RDs.set {d : DV} {v : V} (r : RD K H d v) : ∀ {ds : List DV} {vs : List V} (i : Nat), RDs K H ds vs → RDs K H (ds.set i d) (vs.set i v)
  | _, _, _, .nil => .nil
  | _, _, 0, .cons _ t => .cons r t
  | _, _, i + 1, .cons q t => .cons q (RDs.set r i t)
theorem RDs.reverse : ∀ {ds : List DV} {vs : List V}, RDs K H ds vs → RDs K H ds.reverse vs.reverse
  | _, _, .nil => .nil
  | _, _, .cons r t => by rw [List.reverse_cons, List.reverse_cons]; exact (RDs.reverse t).append (.one r)
theorem RDs.dropLast {ds : List DV} {vs : List V} (h : RDs K H ds vs) : RDs K H ds.dropLast vs.dropLast := by
  rw [List.dropLast_eq_take, List.dropLast_eq_take, h.length]; exact h.take _
theorem RDs.ints : ∀ {ns : List Int} {vs : List V}, RDs K H (ns.map DV.int) vs → vs = ns.map V.int
  | [], _, h => by cases h; rfl
  | n :: r, _, h => by
    cases h with
    | cons h1 h2 => cases h1; rw [RDs.ints h2]; rfl
theorem RDs.ofInts : ∀ ns : List Int, RDs K H (ns.map DV.int) (ns.map V.int)
  | [] => .nil
  | n :: r => .cons (.int n) (RDs.ofInts r)
theorem RDs.bls : ∀ {ns : List Bool} {vs : List V}, RDs K H (ns.map DV.bl) vs → vs = ns.map V.bl
  | [], _, h => by cases h; rfl
  | n :: r, _, h => by
    cases h with
    | cons h1 h2 => cases h1; rw [RDs.bls h2]; rfl
theorem RDs.inj1 {d : DV} {vs : List V} (h : RDs K H [d] vs) : ∃ v, vs = [v] ∧ RD K H d v := by
  cases h with
  | cons h1 h2 => cases h2; exact ⟨_, rfl, h1⟩
theorem RDs.inj2 {d e : DV} {vs : List V} (h : RDs K H [d, e] vs) : ∃ v u, vs = [v, u] ∧ RD K H d v ∧ RD K H e u := by
  cases h with
  | cons h1 h2 =>
    obtain ⟨u, rfl, h3⟩ := h2.inj1
    exact ⟨_, _, rfl, h1, h3⟩
end

def RO (K : Fg) (H : Hp) (a : Addr) : DO → Prop
  | .lst ds => ∃ vs, H a = some (.lst vs) ∧ RDs K H ds vs
def RG (K : Fg) (H : Hp) (g : DG) : Prop := ∀ a o, g a = some o → RO K H a o
/-- behind a step: what was tracked and is no one's of g stands as it was, and is no one's of g' -/
def Ext (g : DG) (H : Hp) (g' : DG) (H' : Hp) : Prop := ∀ a o, H a = some o → g a = none → H' a = some o ∧ g' a = none
section
variable {K : Fg} {g g' g1 g2 : DG} {H H' H1 H2 : Hp} {p : Addr}
theorem RO.some {a : Addr} {o : DO} (r : RO K H a o) : ∃ vs, H a = some (.lst vs) := by
  cases o with
  | lst ds => obtain ⟨vs, e, _⟩ := r; exact ⟨vs, e⟩
theorem RG.none (r : RG K H g) (h : H p = Option.none) : g p = Option.none := by
  cases e : g p with
  | none => rfl
  | some o => obtain ⟨vs, q⟩ := (r p o e).some; rw [h] at q; cases q
theorem Ext.refl : Ext g H g H := fun _ _ h n => ⟨h, n⟩
theorem Ext.trans (a : Ext g H g1 H1) (b : Ext g1 H1 g2 H2) : Ext g H g2 H2 := fun c o h n => by
  obtain ⟨h1, n1⟩ := a c o h n
  exact b c o h1 n1
theorem Ext.kp (e : Ext g H g' H') (r : RG K H g) : Kp H H' := by
  have nt : ∀ b o, H b = some o → (∀ vs, o ≠ .lst vs) → g b = Option.none := fun b o q n => by
    cases z : g b with
    | none => rfl
    | some u => obtain ⟨vs, q'⟩ := (r b u z).some; rw [q] at q'; cases q'; exact absurd rfl (n vs)
  exact ⟨fun b xs q => (e b _ q (nt b _ q fun _ z => nomatch z)).1, fun b o u q => (e b _ q (nt b _ q fun _ z => nomatch z)).1⟩
theorem Kp.fresh {o : HO} (h : H p = Option.none) : Kp H (upd H p o) :=
  ⟨fun b xs q => by rw [upd_ne (ne_of_none q h)]; exact q, fun b x u q => by rw [upd_ne (ne_of_none q h)]; exact q⟩
theorem Kp.refl : Kp H H := ⟨fun _ _ h => h, fun _ _ _ h => h⟩
theorem Kp.trans (a : Kp H H1) (b : Kp H1 H2) : Kp H H2 := ⟨fun c xs h => b.t _ _ (a.t c xs h), fun c o u h => b.f _ _ _ (a.f c o u h)⟩
theorem RO.keep {a : Addr} {o : DO} (k : Kp H H') (e : H' a = H a) (r : RO K H a o) : RO K H' a o := by
  cases o with
  | lst ds => obtain ⟨vs, q, r⟩ := r; exact ⟨vs, e.trans q, r.mono k⟩
theorem RG.fresh {o : HO} (r : RG K H g) (h : H p = Option.none) : RG K (upd H p o) g := fun a u e => by
  obtain ⟨vs, q⟩ := (r a u e).some
  exact (r a u e).keep (Kp.fresh h) (upd_ne (ne_of_none q h))
theorem Ext.fresh {o : HO} (r : RG K H g) (h : H p = Option.none) : Ext g H g (upd H p o) := fun a u e n => ⟨by rw [upd_ne (ne_of_none e h)]; exact e, n⟩
/-- a new thing that changes -/
theorem RG.new {ds : List DV} {vs : List V} (r : RG K H g) (h : H p = Option.none) (rd : RDs K H ds vs) : RG K (upd H p (.lst vs)) (gup g p (.lst ds)) := fun a u e => by
  by_cases ha : a = p
  · subst ha
    rw [gup_same] at e; cases e
    exact ⟨vs, upd_same, rd.mono (Kp.fresh h)⟩
  · rw [gup_ne ha] at e
    exact (r a u e).keep (Kp.fresh h) (upd_ne ha)
theorem Ext.new {u : DO} {o : HO} (h : H p = Option.none) : Ext g H (gup g p u) (upd H p o) := fun a x e n => by
  have ha := ne_of_none e h
  exact ⟨by rw [upd_ne ha]; exact e, by rw [gup_ne ha]; exact n⟩
/-- a thing changed -/
theorem Kp.mut {o : HO} (mu : Mut (H p)) : Kp H (upd H p o) :=
  ⟨fun b xs q => by rw [upd_ne (fun z => by subst z; rw [q] at mu; exact mu)]; exact q, fun b x u q => by rw [upd_ne (fun z => by subst z; rw [q] at mu; exact mu)]; exact q⟩
theorem RG.set {xs ds : List DV} {vs : List V} (r : RG K H g) (h : g p = Option.some (.lst xs)) (rd : RDs K H ds vs) : RG K (upd H p (.lst vs)) (gup g p (.lst ds)) := fun a u e => by
  obtain ⟨ws, q⟩ := (r p _ h).some
  have k : Kp H (upd H p (.lst vs)) := Kp.mut (by rw [q]; exact True.intro)
  by_cases ha : a = p
  · subst ha
    rw [gup_same] at e; cases e
    exact ⟨vs, upd_same, rd.mono k⟩
  · rw [gup_ne ha] at e
    exact (r a u e).keep k (upd_ne ha)
theorem Ext.set {u v : DO} {o : HO} (h : g p = Option.some v) : Ext g H (gup g p u) (upd H p o) := fun a x e n => by
  have ha : a ≠ p := fun z => by rw [z, h] at n; cases n
  exact ⟨by rw [upd_ne ha]; exact e, by rw [gup_ne ha]; exact n⟩
/-- a smaller heap -/
def Sub (g' g : DG) : Prop := ∀ a, g' a = g a ∨ g' a = Option.none
theorem Sub.refl : Sub g g := fun _ => .inl rfl
theorem Sub.gup {o : DO} (h : g p = Option.none) : Sub g (gup g p o) := fun a => by
  by_cases ha : a = p
  · subst ha; exact .inr h
  · exact .inl (gup_ne ha).symm
theorem Sub.trans (a : Sub g2 g1) (b : Sub g1 g) : Sub g2 g := fun c => by
  rcases a c with h | h
  · rcases b c with h' | h'
    · exact .inl (h.trans h')
    · exact .inr (h.trans h')
  · exact .inr h
theorem Sub.rg (s : Sub g' g) (r : RG K H g) : RG K H g' := fun a o e => by
  rcases s a with h | h
  · exact r a o (h.symm.trans e)
  · rw [h] at e; cases e
theorem Sub.ext (s : Sub g2 g1) (e : Ext g H g1 H1) : Ext g H g2 H1 := fun a o h n => by
  obtain ⟨h1, n1⟩ := e a o h n
  refine ⟨h1, ?_⟩
  rcases s a with q | q
  · rw [q]; exact n1
  · exact q
end
def RS (K : Fg) (H : Hp) (δ : DS) (σ : L2.St) : Prop := δ.length = σ.length ∧ ∀ (i : Nat) (d : DV), δ[i]? = some (some d) → ∃ v, σ[i]? = some (some v) ∧ RD K H d v
section
variable {K : Fg} {H H' : Hp} {δ : DS} {σ : L2.St}
theorem RS.mono (k : Kp H H') (r : RS K H δ σ) : RS K H' δ σ := ⟨r.1, fun i d e => by
  obtain ⟨v, h1, h2⟩ := r.2 i d e
  exact ⟨v, h1, h2.mono k⟩⟩
theorem RS.set {d : DV} {v : V} (r : RS K H δ σ) (i : Nat) (rd : RD K H d v) : RS K H (δ.set i (some d)) (σ.set i (some v)) := by
  refine ⟨by rw [List.length_set, List.length_set]; exact r.1, fun j e h => ?_⟩
  by_cases hj : i = j
  · subst hj
    by_cases hi : i < δ.length
    · rw [List.getElem?_set_self hi] at h; cases h
      exact ⟨v, by rw [List.getElem?_set_self (by rw [← r.1]; exact hi)], rd⟩
    · rw [List.getElem?_eq_none (by rw [List.length_set]; omega)] at h; cases h
  · rw [List.getElem?_set_ne hj] at h ⊢
    exact r.2 j e h
theorem RS.unset (r : RS K H δ σ) (i : Nat) : RS K H (δ.set i none) (σ.set i none) := by
  refine ⟨by rw [List.length_set, List.length_set]; exact r.1, fun j e h => ?_⟩
  by_cases hj : i = j
  · subst hj
    by_cases hi : i < δ.length
    · rw [List.getElem?_set_self hi] at h; cases h
    · rw [List.getElem?_eq_none (by rw [List.length_set]; omega)] at h; cases h
  · rw [List.getElem?_set_ne hj] at h ⊢
    exact r.2 j e h
end
/-- slots by number, to be reckoned -/
def nth : DS → Nat → Option DV
  | [], _ => none
  | x :: _, 0 => x
  | _ :: r, n + 1 => nth r n
theorem nth_get : ∀ {δ : DS} {i : Nat} {d : DV}, nth δ i = some d → δ[i]? = some (some d)
  | [], _, _, h => by simp [nth] at h
  | x :: _, 0, d, h => by simpa [nth] using h
  | _ :: r, n + 1, d, h => by simpa using nth_get (δ := r) (i := n) (by simpa [nth] using h)

/-! ### transformers over contents -/
abbrev TDE := DS → DG → (DV → DG → Prop) → Prop
abbrev TDT := DS → DG → (Bool → DG → Prop) → Prop
abbrev TDA := DS → DG → (List DV → DG → Prop) → Prop
structure DEnds where
  nx : DS → DG → Prop
  rt : DV → DG → Prop
  bk : DS → DG → Prop := fun _ _ => False
  ct : DS → DG → Prop := fun _ _ => False
abbrev TDS := DEnds → DS → DG → Prop
abbrev TDI := DS → DG → (List DV → DG → Prop) → Prop
abbrev SpD := List DV → DG → (DV → DG → Prop) → Prop

def upE (K : Fg) (t : TDE) : TE := fun σ H Q => ∃ δ g P, RS K H δ σ ∧ RG K H g ∧ t δ g P ∧ ∀ d g' v H', Ext g H g' H' → RG K H' g' → RD K H' d v → P d g' → Q v H'
def upT (K : Fg) (t : TDT) : TT := fun σ H Q => ∃ δ g P, RS K H δ σ ∧ RG K H g ∧ t δ g P ∧ ∀ b g' H', Ext g H g' H' → RG K H' g' → P b g' → Q b H'
def upA (K : Fg) (t : TDA) : TA := fun σ H Q => ∃ δ g P, RS K H δ σ ∧ RG K H g ∧ t δ g P ∧ ∀ ds g' vs H', Ext g H g' H' → RG K H' g' → RDs K H' ds vs → P ds g' → Q vs H'
def upS (K : Fg) (t : TDS) : TS := fun D σ H => ∃ δ g E, RS K H δ σ ∧ RG K H g ∧ t E δ g ∧
  (∀ δ' g' σ' H', Ext g H g' H' → RG K H' g' → RS K H' δ' σ' → E.nx δ' g' → D.nx σ' H') ∧
  (∀ d g' v H', Ext g H g' H' → RG K H' g' → RD K H' d v → E.rt d g' → D.rt v H') ∧
  (∀ δ' g' σ' H', Ext g H g' H' → RG K H' g' → RS K H' δ' σ' → E.bk δ' g' → D.bk σ' H') ∧
  (∀ δ' g' σ' H', Ext g H g' H' → RG K H' g' → RS K H' δ' σ' → E.ct δ' g' → D.ct σ' H')
def upSp (K : Fg) (sp : SpD) : Sp := fun vs H Q _ => ∃ ds g P, RDs K H ds vs ∧ RG K H g ∧ sp ds g P ∧ ∀ d g' v H', Ext g H g' H' → RG K H' g' → RD K H' d v → P d g' → Q v H'
/-- what a walk gives, from the heap H0 on -/
structure DWalk (K : Fg) (J : It) (ds : List DV) (H0 : Hp) : Prop where
  goes : ∀ i H, i < ds.length → Kp H0 H → J.go i H
  stops : ∀ H, Kp H0 H → J.stop ds.length H
  yields : ∀ i H x H' d, ds[i]? = some d → Kp H0 H → J.yld i H x H' → (H' = H ∨ ∃ p o, H p = none ∧ H' = upd H p o) ∧ RD K H' d x
def upI (K : Fg) (t : TDI) : TI := fun σ H R => ∃ δ g P, RS K H δ σ ∧ RG K H g ∧ t δ g P ∧ ∀ ds g' J H', Ext g H g' H' → RG K H' g' → DWalk K J ds H' → P ds g' → R J H'

theorem PE_weak {X : Cx} {e : Expr} {t t' : TE} (h : PE X e t) (w : ∀ σ H Q, t' σ H Q → t σ H Q) : PE X e t' := ⟨fun pins s σ H Q I q => h.run pins s σ H Q I (w σ H Q q)⟩
theorem PT_weak {X : Cx} {e : Expr} {t t' : TT} (h : PT X e t) (w : ∀ σ H Q, t' σ H Q → t σ H Q) : PT X e t' := ⟨fun pins s σ H Q I q => h.run pins s σ H Q I (w σ H Q q)⟩
theorem PW_weak {X : Cx} {e : Expr} {t t' : TT} (h : PW X e t) (w : ∀ σ H Q, t' σ H Q → t σ H Q) : PW X e t' := ⟨fun wh pins s σ H Q I q => h.run wh pins s σ H Q I (w σ H Q q)⟩
theorem PA_weak {X : Cx} {e : List Expr} {t t' : TA} (h : PA X e t) (w : ∀ σ H Q, t' σ H Q → t σ H Q) : PA X e t' := ⟨fun ps pins s σ H Q I q => h.run ps pins s σ H Q I (w σ H Q q)⟩
theorem PS_weak {X : Cx} {e : Stmt} {t t' : TS} (h : PS X e t) (w : ∀ D σ H, t' D σ H → t D σ H) : PS X e t' := ⟨fun pins s σ H D I q => h.run pins s σ H D I (w D σ H q)⟩
theorem PSs_weak {X : Cx} {e : List Stmt} {t t' : TS} (h : PSs X e t) (w : ∀ D σ H, t' D σ H → t D σ H) : PSs X e t' := ⟨fun pins s σ H D I q => h.run pins s σ H D I (w D σ H q)⟩
theorem PI_weak {X : Cx} {tg e : Expr} {t t' : TI} (h : PI X tg e t) (w : ∀ σ H Q, t' σ H Q → t σ H Q) : PI X tg e t' := ⟨fun pins s σ H Q I q => h.run pins s σ H Q I (w σ H Q q)⟩

/-! ### a new list may be locked at once -/
def fz (Q : VK) : VK := fun v H => Q v H ∨ ∃ p vs, v = .ref p ∧ H p = some (.lst vs) ∧ ∀ o, Q v (upd H p (.frz o (.lst vs)))
section
variable {X : Cx}
theorem EP_fz {pins : List (Addr × Obj)} {σ : L2.St} {Q : VK} {u : Value} {s : Shared} (h : EP X pins σ (fz Q) u s) : EP X pins σ Q u s := by
  obtain ⟨v, H, I, r, q⟩ := h
  rcases q with q | ⟨p, vs, rfl, hp, q⟩
  · exact ⟨v, H, I, r, q⟩
  · obtain ⟨o, I'⟩ := I.lock hp True.intro
    exact ⟨_, _, I', r, q o⟩
theorem PE_fz {e : Expr} {t : TE} (h : PE X e t) : PE X e (fun σ H Q => t σ H (fz Q)) := ⟨fun pins s σ H Q I q => thn (h.run pins s σ H (fz Q) I q) fun _ _ z => EP_fz z⟩
theorem OpR_fz {f : Value → Value → Sem Value} {r : R2} (h : OpR X f r) : OpR X f (fun x y H Q => r x y H (fz Q)) := fun pins s σ H x y v u Q I rx ry q => thn (h pins s σ H x y v u (fz Q) I rx ry q) fun _ _ z => EP_fz z
theorem CallR_fz {f : Value} {r : List V → Hp → VK → Prop} (h : CallR X f r) : CallR X f (fun xs H Q => r xs H (fz Q)) := fun pins s σ H xs us Q I rx q => thn (h pins s σ H xs us (fz Q) I rx q) fun _ _ z => EP_fz z
theorem SlR_fz {r : V → Option Int → Option Int → Hp → VK → Prop} (h : SlR X r) : SlR X (fun x lo hi H Q => r x lo hi H (fz Q)) := by
  intro pinz s σ H x v vl vu lo hi sl Q Iwz rx hs pl pu q
  obtain ⟨T, id, h1, h2, h3⟩ := h pinz s σ H x v vl vu lo hi sl (fz Q) Iwz rx hs pl pu q
  exact ⟨T, id, h1, h2, thn h3 fun _ _ z => EP_fz z⟩
end
/-- a fresh list, locked: by content -/
theorem fz_new {K : Fg} {g : DG} {H : Hp} {p : Addr} {ds : List DV} {vs : List V} {Q : VK} {P : DV → DG → Prop} (rg : RG K H g) (hp : H p = none) (rd : RDs K H ds vs)
    (k : ∀ d g' v H', Ext g H g' H' → RG K H' g' → RD K H' d v → P d g' → Q v H') (h : P (.lst ds) g) : fz Q (.ref p) (upd H p (.lst vs)) := by
  refine .inr ⟨p, vs, rfl, upd_same, fun o => ?_⟩
  rw [upd_upd]
  exact k _ g _ _ (Ext.fresh rg hp) (rg.fresh hp) (.lst ⟨o, upd_same⟩ (rd.mono (Kp.fresh hp))) h
theorem tup_new {K : Fg} {g : DG} {H : Hp} {p : Addr} {ds : List DV} {vs : List V} {Q : VK} {P : DV → DG → Prop} (rg : RG K H g) (hp : H p = none) (rd : RDs K H ds vs)
    (k : ∀ d g' v H', Ext g H g' H' → RG K H' g' → RD K H' d v → P d g' → Q v H') (h : P (.tup ds) g) : Q (.ref p) (upd H p (.tup vs)) :=
  k _ g _ _ (Ext.fresh rg hp) (rg.fresh hp) (.tup (SqT.of upd_same) (rd.mono (Kp.fresh hp))) h
end DL

/-! Deep layer B: the rules for expressions over contents. -/
namespace DL
open PySem PyProof.Rows PySem.Spec L2
section
variable {X : Cx} {pos : Pos}

/-! ### names, constants -/
def dVar (i : Nat) : TDE := fun δ g Q => match nth δ i with | some d => Q d g | none => False
def dC (d : DV) : TDE := fun _ g Q => Q d g
theorem pdv (i : Nat) {x : Str} {p : Pos} (hN : X.N[i]? = some x := by rfl) (hv : Vis X.env.scope x := by first | exact Or.inl rfl | exact Or.inr (Or.inl rfl) | exact Or.inr (Or.inr rfl)) (hd : (x == ("__debug__" : Str)) = false := by decide)
    (hcd : (x == ("__classdict__" : Str)) = false := by decide) : PE X (.Name x p) (upE X.K (dVar i)) := by
  refine PE_weak (pv i hN hv hd hcd) fun σ H Q ⟨δ, g, P, rs, rg, h, k⟩ => ?_
  unfold dVar at h
  split at h
  · rename_i d e
    obtain ⟨v, hv, rd⟩ := rs.2 i d (nth_get e)
    exact ⟨v, hv, k d g v H Ext.refl rg rd h⟩
  · exact h.elim
theorem pd_c {e : Expr} {v : V} {d : DV} (h : PE X e (tC v)) (rd : ∀ H, RD X.K H d v) : PE X e (upE X.K (dC d)) :=
  PE_weak h fun _ H _ ⟨_, g, _, _, rg, h, k⟩ => k d g v H Ext.refl rg (rd H) h
theorem pd_int {i j} : PE X (.Constant (.int i) j pos) (upE X.K (dC (.int i))) := pd_c pe_int fun _ => .int i
theorem pd_bl {i j} : PE X (.Constant (.bool i) j pos) (upE X.K (dC (.bl i))) := pd_c pe_bl fun _ => .bl i
theorem pd_non {j} : PE X (.Constant .none j pos) (upE X.K (dC .non)) := pd_c pe_non fun _ => .non
theorem pd_str {x j} : PE X (.Constant (.str x) j pos) (upE X.K (dC (.str x))) := pd_c pe_str fun _ => .str x
/-- a module's name: an int, a text, a def, a class -/
theorem pd_glob {x : Str} {d : DV} {v : V} {u : Value} (hg : Gl X x) (hm : X.mg x = some u) (r : RelV v u) (rd : ∀ H, RD X.K H d v) (hd : (x == ("__debug__" : Str)) = false := by decide) : PE X (.Name x pos) (upE X.K (dC d)) := pd_c (pe_glob hg hm r hd) rd
theorem pd_globI {x : Str} {i : Int} {t : Tok} (hm : X.mg x = some (.int i t)) (hg : Gl X x := by rfl) (hd : (x == ("__debug__" : Str)) = false := by decide) : PE X (.Name x pos) (upE X.K (dC (.int i))) := pd_glob (v := .int i) hg hm ⟨t, rfl⟩ (fun _ => .int i) hd
theorem pd_globR {x : Str} {a : Addr} (hm : X.mg x = some (.ref a)) (hg : Gl X x := by rfl) (hd : (x == ("__debug__" : Str)) = false := by decide) : PE X (.Name x pos) (upE X.K (dC (.ref a))) := pd_glob (v := .ref a) hg hm rfl (fun _ => .ref a) hd
theorem pd_globS {x : Str} {i : Str} {t : Tok} (hm : X.mg x = some (.str i t)) (hg : Gl X x := by rfl) (hd : (x == ("__debug__" : Str)) = false := by decide) : PE X (.Name x pos) (upE X.K (dC (.str i))) := pd_glob (v := .str i) hg hm ⟨t, rfl⟩ (fun _ => .str i) hd
/-- a built-in class as a value -/
theorem pd_ty {x : Str} {n : String} (hm : X.mg x = none) (hv : bootBuiltins x = some (.type n)) (hg : Gl X x := by rfl) (hn : x ≠ "__name__" := by decide) (hd : (x == ("__debug__" : Str)) = false := by decide) : PE X (.Name x pos) (upE X.K (dC (.ty n))) :=
  pd_c (pe_bltn hg hm hv (v := .ty n) rfl hn hd) fun _ => .ty n

/-! ### operators -/
abbrev RR2 := DV → DV → DG → (DV → Prop) → Prop
abbrev RR1 := DV → DG → (DV → Prop) → Prop
abbrev RRs := List DV → DG → (DV → Prop) → Prop
def dOp (r : RR2) (a b : TDE) : TDE := fun δ g Q => a δ g fun x g1 => b δ g1 fun y g2 => r x y g2 fun z => Q z g2
def RefOp (K : Fg) (r : RR2) (R : R2) : Prop := ∀ (x y : DV) (P : DV → Prop) (v u : V) (H : Hp) (g : DG) (Q : VK), RG K H g → RD K H x v → RD K H y u →
  (∀ z w H', Ext g H g H' → RG K H' g → RD K H' z w → P z → Q w H') → r x y g P → R v u H (fz Q)
variable {a b c : Expr} {ta tb tc : TDE}
theorem op_up {r : RR2} {R : R2} {δ : DS} {g : DG} {σ : L2.St} {H : Hp} {Q : VK} {P : DV → DG → Prop} {K : Fg} (rf : RefOp K r R) (rs : RS K H δ σ) (rg : RG K H g) (h : dOp r ta tb δ g P)
    (k : ∀ d g' v H', Ext g H g' H' → RG K H' g' → RD K H' d v → P d g' → Q v H') : tOp (fun x y H Q => R x y H (fz Q)) (upE K ta) (upE K tb) σ H Q :=
  ⟨δ, g, _, rs, rg, h, fun d g1 v H1 e1 rg1 rd1 h1 => ⟨δ, g1, _, rs.mono (e1.kp rg), rg1, h1, fun d2 g2 u H2 e2 rg2 rd2 h2 =>
    rf d d2 _ v u H2 g2 Q rg2 (rd1.mono (e2.kp rg1)) rd2 (fun z w H' e rg' rd' pz => k z g2 w H' ((e1.trans e2).trans e) rg' rd' pz) h2⟩⟩
theorem pd_op {op : Operator} {r : RR2} {R : R2} (ho : OpR X (binaryOp op) R) (rf : RefOp X.K r R) (ha : PE X a (upE X.K ta)) (hb : PE X b (upE X.K tb)) : PE X (.BinOp a op b pos) (upE X.K (dOp r ta tb)) :=
  PE_weak (pe_op (OpR_fz ho) ha hb) fun _ _ _ ⟨_, _, _, rs, rg, h, k⟩ => op_up rf rs rg h k
theorem pd_cmp {op : CmpOp} {r : RR2} {R : R2} (ho : OpR X (compareOp op) R) (rf : RefOp X.K r R) (ha : PE X a (upE X.K ta)) (hb : PE X b (upE X.K tb)) (hm : behindInMarks op b = false) : PE X (.Compare a [op] [b] pos) (upE X.K (dOp r ta tb)) :=
  PE_weak (pe_cmpR (OpR_fz ho) ha hb hm) fun _ _ _ ⟨_, _, _, rs, rg, h, k⟩ => op_up rf rs rg h k
/-- a test out of a value that is a bool -/
def dB (t : TDE) : TDT := fun δ g Q => t δ g fun x g' => match x with | .bl c => Q c g' | _ => False
theorem tb_up {K : Fg} {t : TDE} {T : TE} {σ : L2.St} {H : Hp} {Q : Bool → Hp → Prop} (hT : ∀ σ H Q, upE K t σ H Q → T σ H Q) (h : upT K (dB t) σ H Q) : T σ H (fun x H' => ∃ k, x = .bl k ∧ Q k H') := by
  obtain ⟨δ, g, P, rs, rg, h, k⟩ := h
  refine hT _ _ _ ⟨δ, g, _, rs, rg, h, fun d g' v H' e rg' rd p => ?_⟩
  cases d <;> first
    | exact False.elim p
    | (cases rd; exact ⟨_, rfl, k _ _ _ e rg' p⟩)
theorem pt_cmpD {op : CmpOp} {r : RR2} {R : R2} (ho : OpR X (compareOp op) R) (rf : RefOp X.K r R) (ha : PE X a (upE X.K ta)) (hb : PE X b (upE X.K tb)) (hm : behindInMarks op b = false) : PT X (.Compare a [op] [b] pos) (upT X.K (dB (dOp r ta tb))) :=
  PT_weak (pt_cmpR (OpR_fz ho) ha hb hm) fun σ H Q h => tb_up (T := tOp (fun x y H Q => R x y H (fz Q)) (upE X.K ta) (upE X.K tb)) (fun _ _ _ ⟨_, _, _, rs, rg, h, k⟩ => op_up rf rs rg h k) h
/-- a < b < c -/
def dChain (r r' : RR2) (a b c : TDE) : TDE := fun δ g Q => a δ g fun x g1 => b δ g1 fun y g2 => r x y g2 fun z => match z with
  | .bl k => if k = true then c δ g2 fun u g3 => r' y u g3 fun w => Q w g3 else Q (.bl false) g2
  | _ => False
/-- the answers of a comparison keep the heap: by values -/
def RefCmp (K : Fg) (r : RR2) (R : R2) : Prop := ∀ (x y : DV) (P : DV → Prop) (v u : V) (H : Hp) (g : DG) (Q : VK), RG K H g → RD K H x v → RD K H y u → (∀ b, P (.bl b) → Q (.bl b) H) → r x y g P → R v u H Q
theorem RefCmp.op {K : Fg} {r : RR2} {R : R2} (h : RefCmp K r R) : RefOp K r R := fun x y P v u H g Q rg rx ry k q => h x y P v u H g (fz Q) rg rx ry (fun b p => .inl (k _ _ H Ext.refl rg (.bl b) p)) q
theorem chain_up {r r' : RR2} {R R' : R2} {δ : DS} {g : DG} {σ : L2.St} {H : Hp} {Q : VK} {P : DV → DG → Prop} {K : Fg} (rf : RefCmp K r R) (rf' : RefCmp K r' R') (rs : RS K H δ σ) (rg : RG K H g) (h : dChain r r' ta tb tc δ g P)
    (k : ∀ d g' v H', Ext g H g' H' → RG K H' g' → RD K H' d v → P d g' → Q v H') : tChain R R' (upE K ta) (upE K tb) (upE K tc) σ H Q := by
  refine ⟨δ, g, _, rs, rg, h, fun d g1 v H1 e1 rg1 rd1 h1 => ⟨δ, g1, _, rs.mono (e1.kp rg), rg1, h1, fun d2 g2 u H2 e2 rg2 rd2 h2 => ?_⟩⟩
  refine rf d d2 _ v u H2 g2 _ rg2 (rd1.mono (e2.kp rg1)) rd2 (fun b p => ?_) h2
  refine ⟨b, rfl, ?_⟩
  dsimp only at p
  cases b with
  | true =>
    rw [if_pos rfl] at p ⊢
    refine ⟨δ, g2, _, rs.mono ((e1.trans e2).kp rg), rg2, p, fun d3 g3 w H3 e3 rg3 rd3 h3 => ?_⟩
    exact rf' d2 d3 _ u w H3 g3 _ rg3 (rd2.mono (e3.kp rg2)) rd3 (fun b p' => k _ _ _ _ ((e1.trans e2).trans e3) rg3 (.bl b) p') h3
  | false =>
    rw [if_neg Bool.false_ne_true] at p ⊢
    exact k _ _ _ _ (e1.trans e2) rg2 (.bl false) p
theorem pd_chain {op op' : CmpOp} {r r' : RR2} {R R' : R2} (ho : OpR X (compareOp op) R) (rf : RefCmp X.K r R) (ho' : OpR X (compareOp op') R') (rf' : RefCmp X.K r' R') (ha : PE X a (upE X.K ta)) (hb : PE X b (upE X.K tb)) (hc : PE X c (upE X.K tc))
    (hm : lastMarks [op, op'] [b, c] = false := by with_unfolding_all rfl) : PE X (.Compare a [op, op'] [b, c] pos) (upE X.K (dChain r r' ta tb tc)) :=
  PE_weak (pe_chain ho ho' ha hb hc hm) fun _ _ _ ⟨_, _, _, rs, rg, h, k⟩ => chain_up rf rf' rs rg h k
theorem pt_chainD {op op' : CmpOp} {r r' : RR2} {R R' : R2} (ho : OpR X (compareOp op) R) (rf : RefCmp X.K r R) (ho' : OpR X (compareOp op') R') (rf' : RefCmp X.K r' R') (ha : PE X a (upE X.K ta)) (hb : PE X b (upE X.K tb)) (hc : PE X c (upE X.K tc))
    (hm : lastMarks [op, op'] [b, c] = false := by with_unfolding_all rfl) : PT X (.Compare a [op, op'] [b, c] pos) (upT X.K (dB (dChain r r' ta tb tc))) :=
  PT_weak (pt_chain ho ho' ha hb hc hm) fun σ H Q h => tb_up (T := tChain R R' (upE X.K ta) (upE X.K tb) (upE X.K tc)) (fun _ _ _ ⟨_, _, _, rs, rg, h, k⟩ => chain_up rf rf' rs rg h k) h

/-! ### truth, and, or, not, if -/
/-- the items of a list or tuple -/
def lstD (g : DG) : DV → Option (List DV)
  | .lst ds => some ds
  | .ref p => match g p with | some (.lst ds) => some ds | none => none
  | _ => none
def tupD : DV → Option (List DV)
  | .tup ds => some ds
  | _ => none
def seqD (g : DG) : DV → Option (List DV)
  | .tup ds => some ds
  | .lst ds => some ds
  | .ref p => match g p with | some (.lst ds) => some ds | none => none
  | .scr ns => some (ns.map .int)
  | _ => none
theorem lstD_of {K : Fg} {H : Hp} {g : DG} {d : DV} {v : V} {ds : List DV} (rg : RG K H g) (r : RD K H d v) (h : lstD g d = some ds) : ∃ a vs, v = .ref a ∧ SqL K H a vs ∧ RDs K H ds vs ∧ Rd H a (.lst vs) := by
  cases r with
  | lst hs hr =>
    cases h
    obtain ⟨o, e⟩ := hs
    exact ⟨_, _, rfl, .inl (.inr ⟨o, e⟩), hr, .inr ⟨o, e⟩⟩
  | ref a =>
    unfold lstD at h
    split at h <;> first | cases h | skip
    all_goals (try (rename_i q; cases q))
    all_goals (split at h <;> first | (cases h; rename_i e; obtain ⟨vs, q, rd⟩ := rg _ _ e; exact ⟨_, vs, rfl, SqL.of q, rd, .inl q⟩) | cases h)
  | _ => cases h
theorem tupD_of {K : Fg} {H : Hp} {d : DV} {v : V} {ds : List DV} (r : RD K H d v) (h : tupD d = some ds) : ∃ a vs, v = .ref a ∧ SqT K H a vs ∧ RDs K H ds vs := by
  cases r with
  | tup hs hr => cases h; exact ⟨_, _, rfl, hs, hr⟩
  | _ => cases h
theorem seqD_of {K : Fg} {H : Hp} {g : DG} {d : DV} {v : V} {ds : List DV} (rg : RG K H g) (r : RD K H d v) (h : seqD g d = some ds) : ∃ a vs, v = .ref a ∧ (SqL K H a vs ∨ SqT K H a vs) ∧ RDs K H ds vs := by
  cases r with
  | tup hs hr => cases h; exact ⟨_, _, rfl, .inr hs, hr⟩
  | lst hs hr => cases h; exact ⟨_, _, rfl, .inl hs.sq, hr⟩
  | scr hs => cases h; exact ⟨_, _, rfl, .inl hs.sq, RDs.ofInts _⟩
  | ref a =>
    obtain ⟨a, vs, e, q, r, _⟩ := lstD_of (d := .ref a) rg (.ref a) (show lstD g (.ref a) = some ds from h)
    exact ⟨a, vs, e, .inl q, r⟩
  | _ => cases h
/-- the truth of a value (texts: told where it is asked) -/
def truD (g : DG) : DV → Option Bool
  | .non => some false
  | .bl b => some b
  | .int i => some (i != 0)
  | .tup ds => some (!ds.isEmpty)
  | .lst ds => some (!ds.isEmpty)
  | .ref p => match g p with | some (.lst ds) => some (!ds.isEmpty) | none => none
  | .scr ns => some (!ns.isEmpty)
  | _ => none
theorem truV_of {K : Fg} {H : Hp} {g : DG} {d : DV} {v : V} {k : Bool} (rg : RG K H g) (r : RD K H d v) (h : truD g d = some k) : TruV K v H k := by
  cases r with
  | non => cases h; rfl
  | bl b => cases h; rfl
  | int i => cases h; rfl
  | str x => cases h
  | @scr _ ns hs => cases h; refine .inl ⟨_, hs.sq, ?_⟩; cases ns <;> rfl
  | ref a =>
    have h' : (match g a with | some (.lst ds) => some (!ds.isEmpty) | none => none) = some k := h
    split at h'
    · cases h'
      rename_i e
      obtain ⟨vs, q, rd⟩ := rg _ _ e
      refine .inl ⟨_, SqL.of q, ?_⟩
      cases rd <;> rfl
    · cases h'
  | ty n => cases h
  | tup hs hr =>
    cases h
    refine .inr (.inl ⟨_, hs, ?_⟩)
    cases hr <;> rfl
  | lst hs hr =>
    cases h
    refine .inl ⟨_, hs.sq, ?_⟩
    cases hr <;> rfl
def dTru (t : TDE) : TDT := fun δ g Q => t δ g fun x g' => match truD g' x with | some b => Q b g' | none => False
theorem pt_truD {e : Expr} {t : TDE} (h : PE X e (upE X.K t)) (he : ∀ whole, isTrue e X.env whole = (do let v ← whole; standAt e.pos; holding [v] (truthy v)) := by intro _; rfl) : PT X e (upT X.K (dTru t)) := by
  refine PT_weak (pt_truth h he) fun σ H Q ⟨δ, g, P, rs, rg, h, k⟩ => ⟨δ, g, _, rs, rg, h, fun d g' v H' e rg' rd p => ?_⟩
  split at p
  · rename_i b eb
    exact ⟨b, truV_of rg' rd eb, k _ _ _ e rg' p⟩
  · exact p.elim
def dAnd (t u : TDT) : TDT := fun δ g Q => t δ g fun c g1 => if c = true then u δ g1 Q else Q false g1
def dOr (t u : TDT) : TDT := fun δ g Q => t δ g fun c g1 => if c = true then Q true g1 else u δ g1 Q
def dNot (t : TDT) : TDT := fun δ g Q => t δ g fun c g1 => Q (!c) g1
variable {tA tB' : TDT} {rest : List Expr}
theorem pwd_and1 (ha : PT X a (upT X.K tA)) : PW X (.BoolOp .And [a] pos) (upT X.K tA) := pw_and1 ha
theorem pwd_or1 (ha : PT X a (upT X.K tA)) : PW X (.BoolOp .Or [a] pos) (upT X.K tA) := pw_or1 ha
theorem pwd_and (ha : PT X a (upT X.K tA)) (hb : PW X (.BoolOp .And (b :: rest) pos) (upT X.K tB')) : PW X (.BoolOp .And (a :: b :: rest) pos) (upT X.K (dAnd tA tB')) := by
  refine PW_weak (pw_and ha hb) fun σ H Q ⟨δ, g, P, rs, rg, h, k⟩ => ⟨δ, g, _, rs, rg, h, fun c g1 H1 e rg1 p => ?_⟩
  cases c with
  | true =>
    rw [if_pos rfl] at p ⊢
    exact ⟨δ, g1, _, rs.mono (e.kp rg), rg1, p, fun b g2 H2 e2 rg2 p2 => k _ _ _ (e.trans e2) rg2 p2⟩
  | false =>
    rw [if_neg Bool.false_ne_true] at p ⊢
    exact k _ _ _ e rg1 p
theorem pwd_or (ha : PT X a (upT X.K tA)) (hb : PW X (.BoolOp .Or (b :: rest) pos) (upT X.K tB')) : PW X (.BoolOp .Or (a :: b :: rest) pos) (upT X.K (dOr tA tB')) := by
  refine PW_weak (pw_or ha hb) fun σ H Q ⟨δ, g, P, rs, rg, h, k⟩ => ⟨δ, g, _, rs, rg, h, fun c g1 H1 e rg1 p => ?_⟩
  cases c with
  | false =>
    rw [if_neg Bool.false_ne_true] at p ⊢
    exact ⟨δ, g1, _, rs.mono (e.kp rg), rg1, p, fun b g2 H2 e2 rg2 p2 => k _ _ _ (e.trans e2) rg2 p2⟩
  | true =>
    rw [if_pos rfl] at p ⊢
    exact k _ _ _ e rg1 p
theorem pwd_pt {e : Expr} {t : TDT} (h : PW X e (upT X.K t)) : PT X e (upT X.K t) := h.pt
theorem pt_notD (ha : PT X a (upT X.K tA)) : PT X (.UnaryOp .Not a pos) (upT X.K (dNot tA)) :=
  PT_weak (pt_not ha) fun σ H Q ⟨δ, g, P, rs, rg, h, k⟩ => ⟨δ, g, _, rs, rg, h, fun c g1 H1 e rg1 p => k _ _ _ e rg1 p⟩
/-- and, or as values: by truth -/
def dAndV (t u : TDE) : TDE := fun δ g Q => t δ g fun x g1 => match truD g1 x with | some k => if k = true then u δ g1 Q else Q x g1 | none => False
def dOrV (t u : TDE) : TDE := fun δ g Q => t δ g fun x g1 => match truD g1 x with | some k => if k = true then Q x g1 else u δ g1 Q | none => False
def dNotV (t : TDE) : TDE := fun δ g Q => t δ g fun x g1 => match truD g1 x with | some b => Q (.bl (!b)) g1 | none => False
theorem pd_one {op} {t : TDE} (h : PE X a (upE X.K t)) : PE X (.BoolOp op [a] pos) (upE X.K t) := pe_one h
theorem pd_and (ha : PE X a (upE X.K ta)) (hb : PE X (.BoolOp .And (b :: rest) pos) (upE X.K tb)) : PE X (.BoolOp .And (a :: b :: rest) pos) (upE X.K (dAndV ta tb)) := by
  refine PE_weak (pe_andT ha hb) fun σ H Q ⟨δ, g, P, rs, rg, h, k⟩ => ⟨δ, g, _, rs, rg, h, fun c g1 v H1 e rg1 rd p => ?_⟩
  split at p
  · rename_i q eb
    refine ⟨q, truV_of rg1 rd eb, ?_⟩
    cases q with
    | true => rw [if_pos rfl] at p ⊢; exact ⟨δ, g1, _, rs.mono (e.kp rg), rg1, p, fun b g2 v2 H2 e2 rg2 rd2 p2 => k _ _ _ _ (e.trans e2) rg2 rd2 p2⟩
    | false => rw [if_neg Bool.false_ne_true] at p ⊢; exact k _ _ _ _ e rg1 rd p
  · exact p.elim
theorem pd_or (ha : PE X a (upE X.K ta)) (hb : PE X (.BoolOp .Or (b :: rest) pos) (upE X.K tb)) : PE X (.BoolOp .Or (a :: b :: rest) pos) (upE X.K (dOrV ta tb)) := by
  refine PE_weak (pe_orT ha hb) fun σ H Q ⟨δ, g, P, rs, rg, h, k⟩ => ⟨δ, g, _, rs, rg, h, fun c g1 v H1 e rg1 rd p => ?_⟩
  split at p
  · rename_i q eb
    refine ⟨q, truV_of rg1 rd eb, ?_⟩
    cases q with
    | true => rw [if_pos rfl] at p ⊢; exact k _ _ _ _ e rg1 rd p
    | false => rw [if_neg Bool.false_ne_true] at p ⊢; exact ⟨δ, g1, _, rs.mono (e.kp rg), rg1, p, fun b g2 v2 H2 e2 rg2 rd2 p2 => k _ _ _ _ (e.trans e2) rg2 rd2 p2⟩
  · exact p.elim
theorem pd_not (ha : PE X a (upE X.K ta)) : PE X (.UnaryOp .Not a pos) (upE X.K (dNotV ta)) := by
  refine PE_weak (pe_notT ha) fun σ H Q ⟨δ, g, P, rs, rg, h, k⟩ => ⟨δ, g, _, rs, rg, h, fun c g1 v H1 e rg1 rd p => ?_⟩
  split at p
  · rename_i b eb
    exact ⟨b, truV_of rg1 rd eb, k _ _ _ _ e rg1 (.bl _) p⟩
  · exact p.elim
def dIfE (c : TDT) (t u : TDE) : TDE := fun δ g Q => c δ g fun b g1 => if b = true then t δ g1 Q else u δ g1 Q
theorem pd_ifExp {c : Expr} (hc : PT X c (upT X.K tA)) (ha : PE X a (upE X.K ta)) (hb : PE X b (upE X.K tb)) : PE X (.IfExp c a b pos) (upE X.K (dIfE tA ta tb)) := by
  refine PE_weak (pe_ifExp hc ha hb) fun σ H Q ⟨δ, g, P, rs, rg, h, k⟩ => ⟨δ, g, _, rs, rg, h, fun c g1 H1 e rg1 p => ?_⟩
  cases c with
  | true =>
    rw [if_pos rfl] at p ⊢
    exact ⟨δ, g1, _, rs.mono (e.kp rg), rg1, p, fun b g2 v2 H2 e2 rg2 rd2 p2 => k _ _ _ _ (e.trans e2) rg2 rd2 p2⟩
  | false =>
    rw [if_neg Bool.false_ne_true] at p ⊢
    exact ⟨δ, g1, _, rs.mono (e.kp rg), rg1, p, fun b g2 v2 H2 e2 rg2 rd2 p2 => k _ _ _ _ (e.trans e2) rg2 rd2 p2⟩
def dUn (r : RR1) (a : TDE) : TDE := fun δ g Q => a δ g fun x g1 => r x g1 fun z => Q z g1
theorem pd_neg (ha : PE X a (upE X.K ta)) : PE X (.UnaryOp .USub a pos) (upE X.K (dUn (fun x _ P => match x with | .int i => P (.int (-i)) | _ => False) ta)) := by
  refine PE_weak (pe_un un_neg ha) fun σ H Q ⟨δ, g, P, rs, rg, h, k⟩ => ⟨δ, g, _, rs, rg, h, fun c g1 v H1 e rg1 rd p => ?_⟩
  cases c <;> first
    | exact False.elim p
    | (cases rd; exact ⟨_, rfl, k _ _ _ _ e rg1 (.int _) p⟩)

/-! ### arguments, displays -/
def dNil : TDA := fun _ g Q => Q [] g
def dCons (t : TDE) (r : TDA) : TDA := fun δ g Q => t δ g fun x g1 => r δ g1 fun xs g2 => Q (x :: xs) g2
variable {es : List Expr} {te : TDE} {t : TDA} {e : Expr}
theorem pda_nil : PA X [] (upA X.K dNil) := PA_weak pa_nil fun σ H Q ⟨δ, g, P, rs, rg, h, k⟩ => k _ _ _ _ Ext.refl rg .nil h
theorem pda_cons (ha : PE X e (upE X.K te)) (hr : PA X es (upA X.K t)) (hs : starEach (e :: es) X.env = (false, eval e X.env) :: starEach es X.env := by rfl) : PA X (e :: es) (upA X.K (dCons te t)) :=
  PA_weak (pa_cons ha hr hs) fun σ H Q ⟨δ, g, P, rs, rg, h, k⟩ => ⟨δ, g, _, rs, rg, h, fun d g1 v H1 e1 rg1 rd1 h1 => ⟨δ, g1, _, rs.mono (e1.kp rg), rg1, h1, fun ds g2 vs H2 e2 rg2 rd2 h2 =>
    k _ _ _ _ (e1.trans e2) rg2 (.cons (rd1.mono (e2.kp rg1)) rd2) h2⟩⟩
def dTup (t : TDA) : TDE := fun δ g Q => t δ g fun ds g1 => ds.length ≤ sizeLine ∧ Q (.tup ds) g1
/-- a list that no one will change -/
def dLst (t : TDA) : TDE := fun δ g Q => t δ g fun ds g1 => ds.length ≤ sizeLine ∧ Q (.lst ds) g1
/-- a list that will be changed -/
def dLstM (t : TDA) : TDE := fun δ g Q => t δ g fun ds g1 => ds.length ≤ sizeLine ∧ ∀ p, g1 p = none → Q (.ref p) (gup g1 p (.lst ds))
theorem pd_tup {x1} (h : PA X es (upA X.K t)) : PE X (.Tuple es x1 pos) (upE X.K (dTup t)) :=
  PE_weak (pe_tup h) fun σ H Q ⟨δ, g, P, rs, rg, h, k⟩ => ⟨δ, g, _, rs, rg, h, fun ds g1 vs H1 e1 rg1 rd1 h1 => ⟨by rw [← rd1.length]; exact h1.1, fun p hp =>
    tup_new (P := P) rg1 hp rd1 (fun d g' v H' e rg' rd' p' => k d g' v H' (e1.trans e) rg' rd' p') h1.2⟩⟩
theorem pd_lst (h : PA X es (upA X.K t)) : PE X (.List es pos) (upE X.K (dLst t)) :=
  PE_weak (PE_fz (pe_lst h)) fun σ H Q ⟨δ, g, P, rs, rg, h, k⟩ => ⟨δ, g, _, rs, rg, h, fun ds g1 vs H1 e1 rg1 rd1 h1 => ⟨by rw [← rd1.length]; exact h1.1, fun p hp =>
    fz_new (P := P) rg1 hp rd1 (fun d g' v H' e rg' rd' p' => k d g' v H' (e1.trans e) rg' rd' p') h1.2⟩⟩
theorem pd_lstM (h : PA X es (upA X.K t)) : PE X (.List es pos) (upE X.K (dLstM t)) :=
  PE_weak (pe_lst h) fun σ H Q ⟨δ, g, P, rs, rg, h, k⟩ => ⟨δ, g, _, rs, rg, h, fun ds g1 vs H1 e1 rg1 rd1 h1 => ⟨by rw [← rd1.length]; exact h1.1, fun p hp =>
    k _ _ _ _ (e1.trans (Ext.new hp)) (rg1.new hp rd1) (.ref p) (h1.2 p (rg1.none hp))⟩⟩

/-! ### calls -/
/-- a built-in, by values -/
def RefCall (K : Fg) (r : RRs) (R : List V → Hp → VK → Prop) : Prop := ∀ (xs : List DV) (P : DV → Prop) (vs : List V) (H : Hp) (g : DG) (Q : VK), RG K H g → RDs K H xs vs →
  (∀ z w H', Ext g H g H' → RG K H' g → RD K H' z w → P z → Q w H') → r xs g P → R vs H (fz Q)
def dCB (r : RRs) (t : TDA) : TDE := fun δ g Q => t δ g fun xs g1 => r xs g1 fun z => Q z g1
variable {x : Str} {p : Pos}
theorem cb_up {r : RRs} {R : List V → Hp → VK → Prop} {σ : L2.St} {H : Hp} {Q : VK} {K : Fg} (rf : RefCall K r R) (h : upE K (dCB r t) σ H Q) : tCB (fun xs H Q => R xs H (fz Q)) (upA K t) σ H Q := by
  obtain ⟨δ, g, P, rs, rg, h, k⟩ := h
  exact ⟨δ, g, _, rs, rg, h, fun ds g1 vs H1 e1 rg1 rd1 h1 => rf ds _ vs H1 g1 Q rg1 rd1 (fun z w H' e rg' rd' pz => k z g1 w H' (e1.trans e) rg' rd' pz) h1⟩
theorem pd_callB {id : String} {r : RRs} {R : List V → Hp → VK → Prop} (hc : CallR X (.builtin id) R) (rf : RefCall X.K r R) (hm : X.mg x = none) (hv : bootBuiltins x = some (.builtin id)) (ha : PA X (e :: es) (upA X.K t)) (hg : Gl X x := by rfl) (hn : x ≠ "__name__" := by decide) (hdb : (x == ("__debug__" : Str)) = false := by decide)
    (he : starEach (e :: es) X.env = (false, eval e X.env) :: starEach es X.env := by rfl) (hpl : (backTo pos (starEach es X.env)).any (·.1) = false := by rfl) : PE X (.Call (.Name x p) (e :: es) [] pos) (upE X.K (dCB r t)) :=
  PE_weak (pe_callB (CallR_fz hc) hg hm hv ha hn hdb he hpl) fun _ _ _ h => cb_up rf h
theorem pd_callTy {T : String} {r : RRs} {R : List V → Hp → VK → Prop} (hc : CallR X (.type T) R) (rf : RefCall X.K r R) (hm : X.mg x = none) (hv : bootBuiltins x = some (.type T)) (ha : PA X (e :: es) (upA X.K t)) (hg : Gl X x := by rfl) (hn : x ≠ "__name__" := by decide) (hdb : (x == ("__debug__" : Str)) = false := by decide)
    (he : starEach (e :: es) X.env = (false, eval e X.env) :: starEach es X.env := by rfl) (hpl : (backTo pos (starEach es X.env)).any (·.1) = false := by rfl) : PE X (.Call (.Name x p) (e :: es) [] pos) (upE X.K (dCB r t)) :=
  PE_weak (pe_callTy (CallR_fz hc) hg hm hv ha hn hdb he hpl) fun _ _ _ h => cb_up rf h
/-- a def of the text -/
def dCall (sp : SpD) (t : TDA) : TDE := fun δ g Q => t δ g fun xs g1 => sp xs g1 Q
theorem pd_call {CX : CXT} {k : Nat} {f : Addr} {fd : FuncData} {ps : List Str} {sp : SpD} {E : XK} (F : FnOk X.prog X.w X.K X.mg X.base CX k f fd ps (upSp X.K sp)) (hr : Room k X.A) (hm : X.mg x = some (.ref f)) (hk : PySem.W.keepIn X.K (.ref f) = true) (hb : Binds X.K fd ps []) (hx : Passes CX X E)
    (ha : PA X (e :: es) (upA X.K t)) (hg : Gl X x := by rfl) (hdb : (x == ("__debug__" : Str)) = false := by decide) (he : starEach (e :: es) X.env = (false, eval e X.env) :: starEach es X.env := by rfl) (hpl : (backTo pos (starEach es X.env)).any (·.1) = false := by rfl) :
    PE X (.Call (.Name x p) (e :: es) [] pos) (upE X.K (dCall sp t)) := by
  refine PE_weak (pe_call F hr hg hm hk hb .nil hx ha hdb he hpl) fun σ H Q ⟨δ, g, P, rs, rg, h, k⟩ => ⟨δ, g, _, rs, rg, h, fun ds g1 vs H1 e1 rg1 rd1 h1 => ?_⟩
  show upSp X.K sp (vs ++ []) H1 Q E
  rw [List.append_nil]
  exact ⟨ds, g1, P, rd1, rg1, h1, fun d g' v H' e rg' rd' p' => k d g' v H' (e1.trans e) rg' rd' p'⟩
theorem pd_call0 {CX : CXT} {k : Nat} {f : Addr} {fd : FuncData} {ps : List Str} {sp : SpD} {E : XK} (F : FnOk X.prog X.w X.K X.mg X.base CX k f fd ps (upSp X.K sp)) (hr : Room k X.A) (hm : X.mg x = some (.ref f)) (hk : PySem.W.keepIn X.K (.ref f) = true) (hb : Binds X.K fd ps []) (hx : Passes CX X E)
    (hg : Gl X x := by rfl) (hdb : (x == ("__debug__" : Str)) = false := by decide) : PE X (.Call (.Name x p) [] [] pos) (upE X.K (dCall sp dNil)) :=
  PE_weak (pe_call0 F hr hg hm hk hb .nil hx hdb) fun σ H Q ⟨δ, g, P, rs, rg, h, k⟩ => ⟨[], g, P, .nil, rg, h, fun d g' v H' e rg' rd' p' => k d g' v H' e rg' rd' p'⟩

/-! ### subscripts, slices -/
def optD (o : Option DV) (P : DV → Prop) : Prop := match o with | some d => P d | none => False
def ixD : RR2 := fun x y g P => match y with
  | .int i => match seqD g x with | some ds => optD (atI ds i) P | none => False
  | _ => False
theorem atI_rd {K : Fg} {H : Hp} {ds : List DV} {vs : List V} {i : Int} {d : DV} (r : RDs K H ds vs) (h : atI ds i = some d) : ∃ v, atI vs i = some v ∧ RD K H d v := by
  unfold atI at h ⊢
  rw [← r.length]
  cases e : ixN ds.length i with
  | none => rw [e] at h; cases h
  | some j =>
    rw [e] at h
    obtain ⟨v, h1, h2⟩ := r.get (show ds[j]? = some d from h)
    exact ⟨v, h1, h2⟩
theorem pd_ix (ha : PE X a (upE X.K ta)) (hb : PE X b (upE X.K tb)) (hs : PlainIx b := by intro _ _; rfl) : PE X (.Subscript a b pos) (upE X.K (dOp ixD ta tb)) := by
  refine PE_weak (pe_ix ix_seq ha hb hs) fun σ H Q ⟨δ, g, P, rs, rg, h, k⟩ => ⟨δ, g, _, rs, rg, h, fun d g1 v H1 e1 rg1 rd1 h1 => ⟨δ, g1, _, rs.mono (e1.kp rg), rg1, h1, fun d2 g2 u H2 e2 rg2 rd2 h2 => ?_⟩⟩
  have rd1' := rd1.mono (e2.kp rg1)
  unfold ixD at h2
  split at h2 <;> first | exact h2.elim | skip
  cases rd2
  split at h2 <;> first | exact h2.elim | skip
  rename_i ds es
  obtain ⟨p, vs, rfl, hq, hr⟩ := seqD_of rg2 rd1' es
  unfold optD at h2
  split at h2 <;> first | exact h2.elim | skip
  rename_i z ez
  obtain ⟨w, hw, rw'⟩ := atI_rd hr ez
  rcases hq with hq | hq
  · exact .inl ⟨p, vs, _, w, rfl, rfl, hq, hw, k _ _ _ _ (e1.trans e2) rg2 rw' h2⟩
  · exact .inr (.inl ⟨p, vs, _, w, rfl, rfl, hq, hw, k _ _ _ _ (e1.trans e2) rg2 rw' h2⟩)
end
end DL

/-! Deep layer C: statements, targets, loops, comprehensions, defs. -/
namespace DL
open PySem PyProof.Rows PySem.Spec L2
section
variable {X : Cx} {pos : Pos} {st : Stmt} {rest : List Stmt} {t u : TDS} {e : Expr} {te : TDE}
/-! ### statements -/
def dNext : TDS := fun E δ g => E.nx δ g
def dSeq (t u : TDS) : TDS := fun E δ g => t { E with nx := u E } δ g
theorem up_nx {K : Fg} {D : Ends} {σ : L2.St} {H : Hp} (h : upS K dNext D σ H) : D.nx σ H := by
  obtain ⟨δ, g, E, rs, rg, h, k1, _⟩ := h
  exact k1 _ _ _ _ Ext.refl rg rs h
theorem pds_nil : PSs X [] (upS X.K dNext) := PSs_weak pss_nil fun _ _ _ h => up_nx h
theorem pds_pass : PS X (.Pass pos) (upS X.K dNext) := PS_weak ps_pass fun _ _ _ h => up_nx h
theorem pds_doc {x j pos'} : PS X (.Expr (.Constant (.str x) j pos) pos') (upS X.K dNext) := PS_weak ps_doc fun _ _ _ h => up_nx h
/-- the ends behind a further step -/
theorem up_go {K : Fg} {D : Ends} {E : DEnds} {t : TDS} {δ1 : DS} {g g1 : DG} {σ1 : L2.St} {H H1 : Hp} (e : Ext g H g1 H1) (rs : RS K H1 δ1 σ1) (rg : RG K H1 g1) (h : t E δ1 g1)
    (k : (∀ δ' g' σ' H', Ext g H g' H' → RG K H' g' → RS K H' δ' σ' → E.nx δ' g' → D.nx σ' H') ∧ (∀ d g' v H', Ext g H g' H' → RG K H' g' → RD K H' d v → E.rt d g' → D.rt v H') ∧
      (∀ δ' g' σ' H', Ext g H g' H' → RG K H' g' → RS K H' δ' σ' → E.bk δ' g' → D.bk σ' H') ∧ (∀ δ' g' σ' H', Ext g H g' H' → RG K H' g' → RS K H' δ' σ' → E.ct δ' g' → D.ct σ' H')) : upS K t D σ1 H1 :=
  ⟨δ1, g1, E, rs, rg, h, fun _ _ _ _ e' => k.1 _ _ _ _ (e.trans e'), fun _ _ _ _ e' => k.2.1 _ _ _ _ (e.trans e'), fun _ _ _ _ e' => k.2.2.1 _ _ _ _ (e.trans e'), fun _ _ _ _ e' => k.2.2.2 _ _ _ _ (e.trans e')⟩
theorem pds_cons (h1 : PS X st (upS X.K t)) (h2 : PSs X rest (upS X.K u)) : PSs X (st :: rest) (upS X.K (dSeq t u)) :=
  PSs_weak (pss_cons h1 h2) fun D σ H ⟨δ, g, E, rs, rg, h, k1, k2, k3, k4⟩ =>
    ⟨δ, g, { E with nx := u E }, rs, rg, h, fun δ' g' σ' H' e rg' rs' q => up_go e rs' rg' q ⟨k1, k2, k3, k4⟩, k2, k3, k4⟩
theorem pds_one (h1 : PS X st (upS X.K t)) : PSs X [st] (upS X.K t) := pss_one h1
def dBreak : TDS := fun E δ g => E.bk δ g
def dCont : TDS := fun E δ g => E.ct δ g
theorem pds_break : PS X (.Break pos) (upS X.K dBreak) := PS_weak ps_break fun _ _ _ ⟨_, _, _, rs, rg, h, _, _, k, _⟩ => k _ _ _ _ Ext.refl rg rs h
theorem pds_continue : PS X (.Continue pos) (upS X.K dCont) := PS_weak ps_continue fun _ _ _ ⟨_, _, _, rs, rg, h, _, _, _, k⟩ => k _ _ _ _ Ext.refl rg rs h
def dNever : TDS := fun _ _ _ => False
theorem pds_never : PS X st (upS X.K dNever) := PS_weak ps_never fun _ _ _ ⟨_, _, _, _, _, h, _⟩ => h
def dDrop (te : TDE) : TDS := fun E δ g => te δ g fun _ g1 => E.nx δ g1
theorem pds_expr (he : PE X e (upE X.K te)) (hs : swapsWith e none pos.line X.env = pure false := by rfl) : PS X (.Expr e pos) (upS X.K (dDrop te)) :=
  PS_weak (ps_expr he hs) fun D σ H ⟨δ, g, E, rs, rg, h, k⟩ => ⟨δ, g, _, rs, rg, h, fun d g' v H' e rg' rd p => k.1 _ _ _ _ e rg' (rs.mono (e.kp rg)) p⟩
def dRet (te : TDE) : TDS := fun E δ g => te δ g E.rt
theorem pds_ret (he : PE X e (upE X.K te)) : PS X (.Return (some e) pos) (upS X.K (dRet te)) :=
  PS_weak (ps_ret he) fun D σ H ⟨δ, g, E, rs, rg, h, k⟩ => ⟨δ, g, _, rs, rg, h, fun d g' v H' e rg' rd p => k.2.1 _ _ _ _ e rg' rd p⟩
def dRetN : TDS := fun E _ g => E.rt .non g
theorem pds_retN : PS X (.Return none pos) (upS X.K dRetN) := PS_weak ps_retN fun _ _ _ ⟨_, _, _, rs, rg, h, _, k, _⟩ => k _ _ _ _ Ext.refl rg .non h
def dIf (c : TDT) (t u : TDS) : TDS := fun E δ g => c δ g fun b g1 => if b = true then t E δ g1 else u E δ g1
theorem pds_if {c : Expr} {a b : List Stmt} {tc : TDT} (hc : PT X c (upT X.K tc)) (ha : PSs X a (upS X.K t)) (hb : PSs X b (upS X.K u)) : PS X (.If c a b pos) (upS X.K (dIf tc t u)) :=
  PS_weak (ps_if hc ha hb) fun D σ H ⟨δ, g, E, rs, rg, h, k⟩ => ⟨δ, g, _, rs, rg, h, fun b g' H' e rg' p => by
    cases b with
    | true => rw [if_pos rfl] at p ⊢; exact up_go e (rs.mono (e.kp rg)) rg' p k
    | false => rw [if_neg Bool.false_ne_true] at p ⊢; exact up_go e (rs.mono (e.kp rg)) rg' p k⟩

/-! ### targets -/
/-- a name's slot, or a tuple of names -/
inductive Tg where
  | nm (i : Nat)
  | tp (is : List Nat)
def setAll : List Nat → List DV → DS → Option DS
  | [], [], δ => some δ
  | i :: is, d :: ds, δ => setAll is ds (δ.set i (some d))
  | _, _, _ => none
def bindT : Tg → DV → DS → Option DS
  | .nm i, d, δ => some (δ.set i (some d))
  | .tp is, .tup ds, δ => setAll is ds δ
  | .tp _, _, _ => none
def gAll : List Nat → TGs
  | [] => gNil
  | i :: is => gCons (gName i) (gAll is)
def tgG (K : Fg) : Tg → TG
  | .nm i => gName i
  | .tp is => gTup K is.length (gAll is)
def Tg.ix : Tg → List Nat
  | .nm i => [i]
  | .tp is => is
theorem wipe_set {σ : L2.St} {i : Nat} {v : Option V} : ∀ {vs : List Nat}, i ∈ vs → wipe (σ.set i v) vs = wipe σ vs
  | [], h => by cases h
  | w :: vs, h => by
    unfold wipe
    by_cases hw : i = w
    · subst hw
      by_cases hv : i ∈ vs
      · rw [wipe_set hv]
      · rw [wipe_comm hv, List.set_set]
    · have hv : i ∈ vs := by
        rcases List.mem_cons.mp h with h | h
        · exact absurd h hw
        · exact h
      rw [wipe_set hv]
where wipe_comm {σ : L2.St} {i : Nat} {v : Option V} : ∀ {vs : List Nat}, i ∉ vs → wipe (σ.set i v) vs = (wipe σ vs).set i v
  | [], _ => rfl
  | w :: vs, h => by
    unfold wipe
    rw [wipe_comm (fun z => h (List.mem_cons_of_mem _ z)), List.set_comm _ _ (fun z => h (by rw [z]; exact List.mem_cons_self))]
theorem gAll_run {K : Fg} {H : Hp} {Q : L2.St → Hp → Prop} : ∀ {is : List Nat} {ds : List DV} {vs : List V} {δ δ' : DS} {σ : L2.St}, RDs K H ds vs → RS K H δ σ → setAll is ds δ = some δ' →
    (∀ σ', RS K H δ' σ' → (∀ ws, (∀ i ∈ is, i ∈ ws) → wipe σ' ws = wipe σ ws) → Q σ' H) → gAll is vs σ H Q
  | [], _, _, δ, δ', σ, .nil, rs, e, k => by
    cases e
    exact ⟨rfl, k σ rs fun _ _ => rfl⟩
  | i :: is, _, _, δ, δ', σ, .cons r t, rs, e, k => by
    refine ⟨_, _, rfl, ?_⟩
    show gAll is _ (σ.set i _) H Q
    refine gAll_run t (rs.set i r) e fun σ' rs' hw => k σ' rs' fun ws hws => ?_
    rw [hw ws fun j hj => hws j (List.mem_cons_of_mem _ hj)]
    exact wipe_set (hws i List.mem_cons_self)
  | [], _, _, _, _, _, .cons _ _, _, e, _ => by cases e
  | _ :: _, _, _, _, _, _, .nil, _, e, _ => by cases e
theorem setAll_len : ∀ {is : List Nat} {ds : List DV} {δ δ' : DS}, setAll is ds δ = some δ' → ds.length = is.length
  | [], [], _, _, _ => rfl
  | _ :: is, _ :: ds, _, _, e => by rw [List.length_cons, List.length_cons, setAll_len (is := is) (ds := ds) e]
  | [], _ :: _, _, _, e => by cases e
  | _ :: _, [], _, _, e => by cases e
theorem tg_run {K : Fg} {H : Hp} {Q : L2.St → Hp → Prop} {tg : Tg} {d : DV} {v : V} {δ δ' : DS} {σ : L2.St} (r : RD K H d v) (rs : RS K H δ σ) (e : bindT tg d δ = some δ')
    (k : ∀ σ', RS K H δ' σ' → (∀ ws, (∀ i ∈ tg.ix, i ∈ ws) → wipe σ' ws = wipe σ ws) → Q σ' H) : tgG K tg v σ H Q := by
  cases tg with
  | nm i =>
    cases e
    exact k _ (rs.set i r) fun ws hw => wipe_set (hw i (by simp [Tg.ix]))
  | tp is =>
    cases r with
    | tup hs hr =>
      refine ⟨_, _, rfl, hs, ?_, gAll_run hr rs e k⟩
      rw [← hr.length]
      exact setAll_len e
    | _ => cases e
/-- target = value -/
def dAsg (tg : Tg) (te : TDE) : TDS := fun E δ g => te δ g fun d g1 => match bindT tg d δ with | some δ' => E.nx δ' g1 | none => False
theorem asg_up {K : Fg} {tg : Tg} {D : Ends} {σ : L2.St} {H : Hp} (h : upS K (dAsg tg te) D σ H) : tAsg (upE K te) (tgG K tg) D σ H := by
  obtain ⟨δ, g, E, rs, rg, h, k1, k⟩ := h
  refine ⟨δ, g, _, rs, rg, h, fun d g1 v H1 e rg1 rd p => ?_⟩
  split at p
  · rename_i δ' eb
    exact tg_run rd (rs.mono (e.kp rg)) eb fun σ' rs' _ => k1 _ _ _ _ e rg1 rs' p
  · exact p.elim
theorem pds_set {i : Nat} {x : Str} {pos' : Pos} (hN : X.N.Nodup) (he : PE X e (upE X.K te)) (hi : X.N[i]? = some x := by rfl) (hx : Loc X.env.scope x := by first | exact Or.inl rfl | exact Or.inr rfl) (hs : swapsWith e (some (.Name x pos')) pos.line X.env = pure false := by rfl)
    (hf : X.fn x = true ∨ X.env.scope.names.lookup x = some .local := by first | exact .inl rfl | exact .inr rfl | assumption) : PS X (.Assign [.Name x pos'] e pos) (upS X.K (dAsg (.nm i) te)) :=
  PS_weak (ps_set hN hi hx he hs hf) fun D σ H h => asg_up h
/-- a, b = e -/
theorem pds_setT {tgx : Expr} {tg : Tg} (hg : PG X tgx (tgG X.K tg)) (he : PE X e (upE X.K te)) (hs : swapsWithSole [tgx] e pos.line X.env = pure false := by rfl) (hw : swappedStores [tgx] e X.env = pure none := by rfl)
    (h1 : (assignEach [tgx] X.env).map (·.2) = [assign tgx X.env] := by rfl) : PS X (.Assign [tgx] e pos) (upS X.K (dAsg tg te)) :=
  PS_weak (ps_asg he hg hs hw h1) fun D σ H h => asg_up h
/-- a, b = x, y -/
def dPar (is : List Nat) (ta : TDA) : TDS := fun E δ g => ta δ g fun ds g1 => match setAll is ds δ with | some δ' => E.nx δ' g1 | none => False
theorem setAll_rs {K : Fg} {H : Hp} : ∀ {is : List Nat} {ds : List DV} {vs : List V} {δ δ' : DS} {σ : L2.St}, RDs K H ds vs → RS K H δ σ → setAll is ds δ = some δ' → ∃ σ', σ' = (is.zip vs).foldl (fun s p => s.set p.1 (some p.2)) σ ∧ RS K H δ' σ'
  | [], _, _, _, _, _, .nil, rs, e => by cases e; exact ⟨_, rfl, rs⟩
  | i :: is, d :: ds, v :: vs, δ, δ', σ, .cons r t, rs, e => by
    obtain ⟨s, e1, e2⟩ := setAll_rs (is := is) (δ := δ.set i (some d)) (σ := σ.set i (some v)) t (rs.set i r) e
    exact ⟨s, e1, e2⟩
  | [], _, _, _, _, _, .cons _ _, _, e => by cases e
  | _ :: _, _, _, _, _, _, .nil, _, e => by cases e
theorem pds_par {i j : Nat} {x y : Str} {a b : Expr} {ta : TDA} {px py pt : Pos} {kt k2 pt2} (hc : X.calm = true) (hN : X.N.Nodup) (ha : PA X [a, b] (upA X.K ta)) (hi : X.N[i]? = some x := by rfl) (hj : X.N[j]? = some y := by rfl) (hij : i ≠ j := by decide)
    (hx : X.env.scope.names.lookup x = some .local := by rfl) (hy : X.env.scope.names.lookup y = some .local := by rfl)
    (hw : swappedStores [.Tuple [.Name x px, .Name y py] kt pt] (.Tuple [a, b] k2 pt2) X.env = pure (some [x, y]) := by rfl)
    (hs : swapsWithSole [.Tuple [.Name x px, .Name y py] kt pt] (.Tuple [a, b] k2 pt2) pos.line X.env = pure false := by rfl) :
    PS X (.Assign [.Tuple [.Name x px, .Name y py] kt pt] (.Tuple [a, b] k2 pt2) pos) (upS X.K (dPar [i, j] ta)) := by
  refine PS_weak (ps_par hc hN hi hj hij hx hy ha hw hs) fun D σ H ⟨δ, g, E, rs, rg, h, k1, k⟩ => ⟨δ, g, _, rs, rg, h, fun ds g1 vs Huz e rg1 rd p => ?_⟩
  split at p
  · rename_i δ' es
    have hl := setAll_len es
    have hv : vs.length = 2 := by rw [← rd.length]; exact hl
    match vs, hv with
    | [v, w], _ =>
      obtain ⟨σ', e', rs'⟩ := setAll_rs rd (rs.mono (e.kp rg)) es
      subst e'
      exact ⟨v, w, rfl, k1 _ _ _ _ e rg1 rs' p⟩
  · exact p.elim
theorem pds_par3 {i j l : Nat} {x y z : Str} {a b c : Expr} {ta : TDA} {px py pz pt : Pos} {kt k2 pt2} (hc : X.calm = true) (hN : X.N.Nodup) (ha : PA X [a, b, c] (upA X.K ta)) (hi : X.N[i]? = some x := by rfl) (hj : X.N[j]? = some y := by rfl) (hl : X.N[l]? = some z := by rfl) (hij : i ≠ j := by decide) (hil : i ≠ l := by decide) (hjl : j ≠ l := by decide)
    (hx : X.env.scope.names.lookup x = some .local := by rfl) (hy : X.env.scope.names.lookup y = some .local := by rfl) (hv1 : X.env.scope.names.lookup z = some .local := by rfl)
    (hw : swappedStores [.Tuple [.Name x px, .Name y py, .Name z pz] kt pt] (.Tuple [a, b, c] k2 pt2) X.env = pure (some [x, y, z]) := by rfl)
    (hs : swapsWithSole [.Tuple [.Name x px, .Name y py, .Name z pz] kt pt] (.Tuple [a, b, c] k2 pt2) pos.line X.env = pure false := by rfl) :
    PS X (.Assign [.Tuple [.Name x px, .Name y py, .Name z pz] kt pt] (.Tuple [a, b, c] k2 pt2) pos) (upS X.K (dPar [i, j, l] ta)) := by
  refine PS_weak (ps_par3 hc hN hi hj hl hij hil hjl hx hy hv1 ha hw hs) fun D σ H ⟨δ, g, E, rs, rg, h, k1, k⟩ => ⟨δ, g, _, rs, rg, h, fun ds g1 vs Huz e rg1 rd p => ?_⟩
  split at p
  · rename_i δ' es
    have hl := setAll_len es
    have hv : vs.length = 3 := by rw [← rd.length]; exact hl
    match vs, hv with
    | [v, w, u], _ =>
      obtain ⟨σ', e', rs'⟩ := setAll_rs rd (rs.mono (e.kp rg)) es
      subst e'
      exact ⟨v, w, u, rfl, k1 _ _ _ _ e rg1 rs' p⟩
  · exact p.elim

/-! ### loops -/
def dLoop (tg : Tg) (tb : TDS) (E : DEnds) : List DV → DS → DG → Prop
  | [], δ, g => E.nx δ g
  | d :: ds, δ, g => match bindT tg d δ with
    | some δ1 => tb { E with nx := dLoop tg tb E ds, ct := dLoop tg tb E ds, bk := E.nx } δ1 g
    | none => False
def dFor (wi : TDI) (tg : Tg) (tb : TDS) : TDS := fun E δ g => wi δ g fun ds g1 => dLoop tg tb E ds δ g1
/-- what a step of a walk leaves -/
theorem step_kp {H H' : Hp} (h : H' = H ∨ ∃ p o, H p = none ∧ H' = upd H p o) : Kp H H' := by
  rcases h with h | ⟨p, o, h, e⟩
  · subst h; exact Kp.refl
  · subst e; exact Kp.fresh h
theorem step_rg {K : Fg} {g : DG} {H H' : Hp} (h : H' = H ∨ ∃ p o, H p = none ∧ H' = upd H p o) (rg : RG K H g) : RG K H' g := by
  rcases h with h | ⟨p, o, h, e⟩
  · subst h; exact rg
  · subst e; exact rg.fresh h
theorem step_ext {K : Fg} {g : DG} {H H' : Hp} (h : H' = H ∨ ∃ p o, H p = none ∧ H' = upd H p o) (rg : RG K H g) : Ext g H g H' := by
  rcases h with h | ⟨p, o, h, e⟩
  · subst h; exact Ext.refl
  · subst e; exact Ext.fresh rg h
theorem pds_for {iter tgx : Expr} {body : List Stmt} {wi : TDI} {tg : Tg} {tb : TDS} (hp : PassesOwn (model X.prog X.w) X.A X.env X.xe) (hc : X.calm = true) (hi : PI X tgx iter (upI X.K wi)) (hg : PG X tgx (tgG X.K tg)) (hb : PSs X body (upS X.K tb))
    (hs : ∀ x, foldedSetIterable iter X.env x = pure x := by intro _; rfl) : PS X (.For tgx iter body [] pos) (upS X.K (dFor wi tg tb)) := by
  refine PS_weak (ps_for hp hc hi hg hb hs) fun D σ H ⟨δ, g, E, rs, rg, h, k1, k2, k3, k4⟩ => ⟨δ, g, _, rs, rg, h, fun ds g1 J H1 e1 rg1 dw p => ?_⟩
  refine ⟨fun i m σ' H' => m = ds.length - i ∧ i ≤ ds.length ∧ ∃ δ' g', Ext g H g' H' ∧ Kp H1 H' ∧ RS X.K H' δ' σ' ∧ RG X.K H' g' ∧ dLoop tg tb E (ds.drop i) δ' g', ⟨ds.length, rfl, Nat.zero_le _, δ, g1, e1, Kp.refl, rs.mono (e1.kp rg), rg1, p⟩, ?_⟩
  rintro i m σ2 H2 ⟨rfl, hi, δ2, g2, e2, kp2, rs2, rg2, q⟩
  by_cases hlt : i < ds.length
  · have hd : ds.drop i = ds[i] :: ds.drop (i + 1) := List.drop_eq_getElem_cons hlt
    rw [hd] at q
    have q' : (match bindT tg ds[i] δ2 with
      | some δ1 => tb { E with nx := dLoop tg tb E (ds.drop (i + 1)), ct := dLoop tg tb E (ds.drop (i + 1)), bk := E.nx } δ1 g2
      | none => False) := q
    refine .inr ⟨dw.goes i H2 hlt kp2, fun σ' H' => ∃ δ' g', Ext g H g' H' ∧ Kp H1 H' ∧ RS X.K H' δ' σ' ∧ RG X.K H' g' ∧ dLoop tg tb E (ds.drop (i + 1)) δ' g', fun σ' H' z => ⟨ds.length - (i + 1), by omega, rfl, hlt, z⟩, fun x H3 y => ?_⟩
    obtain ⟨st, rd⟩ := dw.yields i H2 x H3 ds[i] (by simp [hlt]) kp2 y
    split at q'
    · rename_i δ3 eb
      refine tg_run rd (rs2.mono (step_kp st)) eb fun σ3 rs3 _ => ?_
      have rg3 := step_rg st rg2
      have e3 := step_ext st rg2
      refine ⟨δ3, g2, _, rs3, rg3, q', fun δ' g' σ' H' e rg' rs' z => ?_, fun d g' v H' e rg' rd' z => k2 _ _ _ _ ((e2.trans e3).trans e) rg' rd' z, fun δ' g' σ' H' e rg' rs' z => k1 _ _ _ _ ((e2.trans e3).trans e) rg' rs' z, fun δ' g' σ' H' e rg' rs' z => ?_⟩
      · exact ⟨δ', g', (e2.trans e3).trans e, (kp2.trans (step_kp st)).trans (e.kp rg3), rs', rg', z⟩
      · exact ⟨δ', g', (e2.trans e3).trans e, (kp2.trans (step_kp st)).trans (e.kp rg3), rs', rg', z⟩
    · exact q'.elim
  · have ei : i = ds.length := by omega
    subst ei
    rw [List.drop_length] at q
    exact .inl ⟨dw.stops H2 kp2, k1 _ _ _ _ e2 rg2 rs2 q⟩
def dWh (c : TDT) (tb : TDS) (E : DEnds) : Nat → DS → DG → Prop
  | 0, _, _ => False
  | n + 1, δ, g => c δ g fun b g1 => if b = true then tb { E with nx := dWh c tb E n, ct := dWh c tb E n, bk := E.nx } δ g1 else E.nx δ g1
def dWhile (c : TDT) (tb : TDS) : TDS := fun E δ g => ∃ n, dWh c tb E n δ g
theorem pds_while {c : Expr} {body : List Stmt} {tc : TDT} {tb : TDS} (hp : PassesOwn (model X.prog X.w) X.A X.env X.xe) (hc : PT X c (upT X.K tc)) (hb : PSs X body (upS X.K tb)) : PS X (.While c body [] pos) (upS X.K (dWhile tc tb)) := by
  refine PS_weak (ps_while hp hc hb) fun D σ H ⟨δ, g, E, rs, rg, ⟨n, h⟩, k1, k2, k3, k4⟩ => ?_
  refine ⟨fun m σ' H' => ∃ δ' g', Ext g H g' H' ∧ RS X.K H' δ' σ' ∧ RG X.K H' g' ∧ dWh tc tb E m δ' g', ⟨n, δ, g, Ext.refl, rs, rg, h⟩, ?_⟩
  rintro m σ2 H2 ⟨δ2, g2, e2, rs2, rg2, q⟩
  cases m with
  | zero => exact False.elim q
  | succ m =>
    refine ⟨δ2, g2, _, rs2, rg2, q, fun b g3 H3 e3 rg3 p => ?_⟩
    cases b with
    | false => rw [if_neg Bool.false_ne_true] at p ⊢; exact k1 _ _ _ _ (e2.trans e3) rg3 (rs2.mono (e3.kp rg2)) p
    | true =>
      rw [if_pos rfl] at p ⊢
      refine ⟨fun σ' H' => ∃ δ' g', Ext g H g' H' ∧ RS X.K H' δ' σ' ∧ RG X.K H' g' ∧ dWh tc tb E m δ' g', fun σ' H' z => ⟨m, Nat.lt_succ_self m, z⟩, δ2, g3, _, rs2.mono (e3.kp rg2), rg3, p, ?_, ?_, ?_, ?_⟩
      · exact fun δ' g' σ' H' e rg' rs' z => ⟨δ', g', (e2.trans e3).trans e, rs', rg', z⟩
      · exact fun d g' v H' e rg' rd' z => k2 _ _ _ _ ((e2.trans e3).trans e) rg' rd' z
      · exact fun δ' g' σ' H' e rg' rs' z => k1 _ _ _ _ ((e2.trans e3).trans e) rg' rs' z
      · exact fun δ' g' σ' H' e rg' rs' z => ⟨δ', g', (e2.trans e3).trans e, rs', rg', z⟩
end
end DL

/-! Deep layer D: walks, comprehensions, defs. -/
namespace DL
open PySem PyProof.Rows PySem.Spec L2
section
variable {X : Cx} {pos : Pos} {tgx e e2 : Expr} {te : TDE} {t : TDA}
/-! ### what is walked -/
def wSeq (te : TDE) : TDI := fun δ g R => te δ g fun x g1 => match x with | .tup ds => R ds g1 | .lst ds => R ds g1 | .scr ns => R (ns.map .int) g1 | _ => False
theorem dwalk_st {K : Fg} {a : Addr} {H : Hp} {ds : List DV} {vs : List V} (h : ∀ H', Kp H H' → SqL K H' a vs) (r : RDs K H ds vs) : DWalk K (Itl K a) ds H :=
  ⟨fun i H' hi k => ⟨vs, vs[i]'(by rw [← r.length]; exact hi), h _ k, by simp [show i < vs.length by rw [← r.length]; exact hi]⟩,
   fun H' k => ⟨vs, h _ k, by rw [r.length]; exact Nat.le_refl _⟩, fun i H1 x H' d hd k y => by
    obtain ⟨e, y⟩ := y
    subst e
    obtain ⟨v, hv, rv⟩ := r.get hd
    have := y vs (h _ k)
    rw [hv] at this; cases this
    exact ⟨.inl rfl, rv.mono k⟩⟩
theorem dwalk_list {K : Fg} {a : Addr} {H : Hp} {ds : List DV} {vs : List V} (h : FzL K H a vs) (r : RDs K H ds vs) : DWalk K (Itl K a) ds H := dwalk_st (fun _ k => (k.fz h).sq) r
theorem dwalk_tup {K : Fg} {a : Addr} {H : Hp} {ds : List DV} {vs : List V} (h : SqT K H a vs) (r : RDs K H ds vs) : DWalk K (Itt K a) ds H :=
  ⟨fun i H' hi k => ⟨vs, vs[i]'(by rw [← r.length]; exact hi), k.sqT h, by simp [show i < vs.length by rw [← r.length]; exact hi]⟩,
   fun H' k => ⟨vs, k.sqT h, by rw [r.length]; exact Nat.le_refl _⟩, fun i H1 x H' d hd k y => by
    obtain ⟨e, y⟩ := y
    subst e
    obtain ⟨v, hv, rv⟩ := r.get hd
    have := y vs (k.sqT h)
    rw [hv] at this; cases this
    exact ⟨.inl rfl, rv.mono k⟩⟩
def iSeq (K : Fg) (tl : TE) : TI := fun σ H R => tl σ H fun x H1 => ∃ a, x = .ref a ∧ (((∃ xs, SqL K H1 a xs) ∧ R (Itl K a) H1) ∨ ((∃ xs, SqT K H1 a xs) ∧ R (Itt K a) H1))
theorem pi_seq {l : Expr} {tl : TE} (hl : PE X l tl) : PI X tgx l (iSeq X.K tl) := by
  refine ⟨fun pinz s σ H R Iwz h => ?_⟩
  refine thn (hl.run pinz s σ H _ Iwz h) fun v suz ⟨x, Huz, Iuz, r1, q1⟩ => ?_
  obtain ⟨a, e, q1⟩ := q1
  subst e
  rcases q1 with ⟨⟨xs, hwz1⟩, q⟩ | ⟨⟨xs, hwz1⟩, q⟩
  · have h1 : PI { X with xe := X.xe } tgx l (iList X.K (fun σ H Q => Q (.ref a) H)) → True := fun _ => trivial
    cases r1
    obtain ⟨itz1, ruz1, p, hv1⟩ := Iuz.list hwz1
    refine wpAny_pyIter_list p.isList ?_
    refine ⟨suz.heap.objs.size, [suz.heap.objs.size], _, _, Huz, rfl, Iuz.kept (t' := suz.toks) fun b o e => Heap.get?_push_of_some _ e, turn_list a _, ⟨_, Heap.get?_push_size _ rfl, rfl, rfl⟩, fun b hb => ?_, q⟩
    have e : b = suz.heap.objs.size := by simpa using hb
    subst e
    exact Iuz.fpOk (Nat.le_refl _) (Iuz.hok.fresh (Nat.le_refl _))
  · cases r1
    obtain ⟨itz1, ruz1, p, hv1⟩ := Iuz.tuple hwz1
    refine wpAny_pyIter_tuple (show suz.heap.IsTuple a itz1.toArray from p) ?_
    refine ⟨suz.heap.objs.size, [suz.heap.objs.size], _, _, Huz, rfl, Iuz.kept (t' := suz.toks) fun b o e => Heap.get?_push_of_some _ e, turn_tuple a _, ⟨_, Heap.get?_push_size _ rfl, rfl, rfl⟩, fun b hb => ?_, q⟩
    have e : b = suz.heap.objs.size := by simpa using hb
    subst e
    exact Iuz.fpOk (Nat.le_refl _) (Iuz.hok.fresh (Nat.le_refl _))
theorem pid_seq (he : PE X e (upE X.K te)) : PI X tgx e (upI X.K (wSeq te)) := by
  refine PI_weak (pi_seq he) fun σ H R ⟨δ, g, P, rs, rg, h, k⟩ => ⟨δ, g, _, rs, rg, h, fun d g1 v H1 e1 rg1 rd p => ?_⟩
  cases rd with
  | tup hs hr => exact ⟨_, rfl, .inr ⟨⟨_, hs⟩, k _ _ _ _ e1 rg1 (dwalk_tup hs hr) p⟩⟩
  | lst hs hr => exact ⟨_, rfl, .inl ⟨⟨_, hs.sq⟩, k _ _ _ _ e1 rg1 (dwalk_list hs hr) p⟩⟩
  | scr hs => exact ⟨_, rfl, .inl ⟨⟨_, hs.sq⟩, k _ _ _ _ e1 rg1 (dwalk_st (fun _ k => (k.sc hs).sq) (RDs.ofInts _)) p⟩⟩
  | _ => exact False.elim p
/-- lo, lo + 1, .. -/
def rangeD (lo : Int) (n : Nat) : List DV := (List.range n).map fun (i : Nat) => DV.int (lo + i)
theorem dwalk_range {K : Fg} {H : Hp} {lo : Int} {n : Nat} : DWalk K (Itr lo n) (rangeD lo n) H := by
  have hl : (rangeD lo n).length = n := by simp [rangeD]
  refine ⟨fun i H' hi _ => by rw [hl] at hi; exact hi, fun H' _ => by rw [hl]; exact Nat.le_refl _, fun i H1 x H' d hd _ y => ?_⟩
  obtain ⟨e, y⟩ := y
  subst e y
  have hi : i < n := by rw [← hl]; exact (List.getElem?_eq_some_iff.mp hd).1
  have : d = .int (lo + i) := by simp [rangeD, hi] at hd; exact hd.symm
  subst this
  exact ⟨.inl rfl, .int _⟩
def rngOk (i j : Int) : Prop := -(2 ^ 62) ≤ i ∧ i < 2 ^ 62 ∧ -(2 ^ 62) ≤ j ∧ j < 2 ^ 62
def one1 (F : DV → DG → Prop) : List DV → DG → Prop := fun xs g => match xs with | [x] => F x g | _ => False
def one2 (F : DV → DV → DG → Prop) : List DV → DG → Prop := fun xs g => match xs with | [x, y] => F x y g | _ => False
def one3 (F : DV → DV → DV → DG → Prop) : List DV → DG → Prop := fun xs g => match xs with | [x, y, z] => F x y z g | _ => False
theorem one1_of {K : Fg} {H : Hp} {F : DV → DG → Prop} {xs : List DV} {vs : List V} {g : DG} (r : RDs K H xs vs) (h : one1 F xs g) : ∃ x v, xs = [x] ∧ vs = [v] ∧ RD K H x v ∧ F x g := by
  match xs, vs, r with
  | [x], [v], .cons r .nil => exact ⟨x, v, rfl, rfl, r, h⟩
  | [], _, _ => exact False.elim h
  | _ :: _ :: _, _, _ => exact False.elim h
theorem one2_of {K : Fg} {H : Hp} {F : DV → DV → DG → Prop} {xs : List DV} {vs : List V} {g : DG} (r : RDs K H xs vs) (h : one2 F xs g) : ∃ x y v u, xs = [x, y] ∧ vs = [v, u] ∧ RD K H x v ∧ RD K H y u ∧ F x y g := by
  match xs, vs, r with
  | [x, y], [v, u], .cons r (.cons r' .nil) => exact ⟨x, y, v, u, rfl, rfl, r, r', h⟩
  | [], _, _ => exact False.elim h
  | [_], _, _ => exact False.elim h
  | _ :: _ :: _ :: _, _, _ => exact False.elim h
theorem one3_of {K : Fg} {H : Hp} {F : DV → DV → DV → DG → Prop} {xs : List DV} {vs : List V} {g : DG} (r : RDs K H xs vs) (h : one3 F xs g) : ∃ x y z v u w, xs = [x, y, z] ∧ vs = [v, u, w] ∧ RD K H x v ∧ RD K H y u ∧ RD K H z w ∧ F x y z g := by
  match xs, vs, r with
  | [x, y, z], [v, u, w], .cons r (.cons r' (.cons r'' .nil)) => exact ⟨x, y, z, v, u, w, rfl, rfl, r, r', r'', h⟩
  | [], _, _ => exact False.elim h
  | [_], _, _ => exact False.elim h
  | [_, _], _, _ => exact False.elim h
  | _ :: _ :: _ :: _ :: _, _, _ => exact False.elim h
def wRng1 (t : TDA) : TDI := fun δ g R => t δ g (one1 fun x g1 => match x with | .int j => rngOk 0 j ∧ R (rangeD 0 j.toNat) g1 | _ => False)
def wRng2 (t : TDA) : TDI := fun δ g R => t δ g (one2 fun x y g1 => match x, y with | .int i, .int j => rngOk i j ∧ R (rangeD i (j - i).toNat) g1 | _, _ => False)
theorem pid_range1 {a : Expr} {p : Pos} (hm : X.mg "range" = none) (ha : PA X [a] (upA X.K t)) (hg : Gl X "range" := by rfl) (hs : starEach [a] X.env = [(false, eval a X.env)] := by rfl) : PI X tgx (.Call (.Name "range" p) [a] [] pos) (upI X.K (wRng1 t)) := by
  refine PI_weak (pi_range1 hg hm ha hs) fun σ H R ⟨δ, g, P, rs, rg, h, k⟩ => ⟨δ, g, _, rs, rg, h, fun xs g1 vs H1 e1 rg1 rd p => ?_⟩
  obtain ⟨x, v, rfl, rfl, r, p⟩ := one1_of rd p
  split at p
  · cases r
    exact ⟨_, rfl, p.1.2.2.1, p.1.2.2.2, k _ _ _ _ e1 rg1 dwalk_range p.2⟩
  · exact p.elim
theorem pid_range2 {a b : Expr} {p : Pos} (hm : X.mg "range" = none) (ha : PA X [a, b] (upA X.K t)) (hg : Gl X "range" := by rfl) (hs : starEach [a, b] X.env = [(false, eval a X.env), (false, eval b X.env)] := by rfl) (hs2 : starEach [b] X.env = [(false, eval b X.env)] := by rfl) : PI X tgx (.Call (.Name "range" p) [a, b] [] pos) (upI X.K (wRng2 t)) := by
  refine PI_weak (pi_range2 hg hm ha hs hs2) fun σ H R ⟨δ, g, P, rs, rg, h, k⟩ => ⟨δ, g, _, rs, rg, h, fun xs g1 vs H1 e1 rg1 rd p => ?_⟩
  obtain ⟨x, y, v, u, rfl, rfl, r, r', p⟩ := one2_of rd p
  split at p
  · cases r; cases r'
    exact ⟨_, _, rfl, p.1, k _ _ _ _ e1 rg1 dwalk_range p.2⟩
  · exact p.elim
/-- i, i - 1, .., j + 1 -/
def downD (i : Int) (n : Nat) : List DV := (List.range n).map fun (m : Nat) => DV.int (i + (m : Int) * (-1))
def wRngD (t : TDA) : TDI := fun δ g R => t δ g (one3 fun x y z g1 => match x, y, z with | .int i, .int j, .int c => (rngOk i j ∧ c = -1) ∧ R (downD i (i - j).toNat) g1 | _, _, _ => False)
theorem dwalk_down {K : Fg} {H : Hp} {i : Int} {n : Nat} : DWalk K (Itc i (-1) n) (downD i n) H := by
  have hl : (downD i n).length = n := by simp [downD]
  refine ⟨fun i H' hi _ => by rw [hl] at hi; exact hi, fun H' _ => by rw [hl]; exact Nat.le_refl _, fun m H1 x H' d hd _ y => ?_⟩
  obtain ⟨e, y⟩ := y
  subst e y
  have hi : m < n := by rw [← hl]; exact (List.getElem?_eq_some_iff.mp hd).1
  have : d = .int (i + (m : Int) * (-1)) := by simp [downD, hi] at hd; rw [← hd]; congr 1; omega
  subst this
  exact ⟨.inl rfl, .int _⟩
theorem pid_rangeD {a b c : Expr} {p : Pos} (hm : X.mg "range" = none) (ha : PA X [a, b, c] (upA X.K t)) (hg : Gl X "range" := by rfl)
    (hs : starEach [a, b, c] X.env = (false, eval a X.env) :: starEach [b, c] X.env := by rfl) (hpl : (backTo pos (starEach [b, c] X.env)).any (·.1) = false := by rfl) : PI X tgx (.Call (.Name "range" p) [a, b, c] [] pos) (upI X.K (wRngD t)) := by
  refine PI_weak (pi_range3 hg hm ha hs hpl) fun σ H R ⟨δ, g, P, rs, rg, h, k⟩ => ⟨δ, g, _, rs, rg, h, fun xs g1 vs H1 e1 rg1 rd p => ?_⟩
  obtain ⟨x, y, z, v, u, w, rfl, rfl, r, r', r'', p⟩ := one3_of rd p
  split at p
  · cases r; cases r'; cases r''
    obtain ⟨⟨⟨o1, o2, o3, o4⟩, ec⟩, pp⟩ := p
    subst ec
    exact ⟨_, _, _, _, rfl, RgC.neg o1 o2 o3 o4, k _ _ _ _ e1 rg1 dwalk_down pp⟩
  · exact p.elim
/-- zip of two tuples or two lists -/
def zipD : List DV → List DV → List DV
  | x :: xs, y :: ys => .tup [x, y] :: zipD xs ys
  | _, _ => []
theorem zipD_len : ∀ xs ys : List DV, (zipD xs ys).length = min xs.length ys.length
  | [], _ => by simp [zipD]
  | _ :: _, [] => by simp [zipD]
  | x :: xs, y :: ys => by simp only [zipD, List.length_cons, zipD_len xs ys]; omega
theorem zipD_get : ∀ {xs ys : List DV} {i : Nat} {d : DV}, (zipD xs ys)[i]? = some d → ∃ x y, xs[i]? = some x ∧ ys[i]? = some y ∧ d = .tup [x, y]
  | [], _, _, _, h => by simp [zipD] at h
  | _ :: _, [], _, _, h => by simp [zipD] at h
  | x :: xs, y :: ys, 0, d, h => by simp [zipD] at h; exact ⟨x, y, rfl, rfl, h.symm⟩
  | x :: xs, y :: ys, i + 1, d, h => by
    obtain ⟨x', y', h1, h2, h3⟩ := zipD_get (xs := xs) (ys := ys) (i := i) (by simpa [zipD] using h)
    exact ⟨x', y', by simpa using h1, by simpa using h2, h3⟩
def wZip (t : TDA) : TDI := fun δ g R => t δ g (one2 fun x y g1 => match x, y with
  | .tup xs, .tup ys => R (zipD xs ys) g1
  | .lst xs, .lst ys => R (zipD xs ys) g1
  | _, _ => False)
theorem dwalk_zipL {K : Fg} {H : Hp} {a b : Addr} {xs ys : List DV} {vs us : List V} (ha : FzL K H a vs) (hb : FzL K H b us) (ra : RDs K H xs vs) (rb : RDs K H ys us) : DWalk K (Itz K a b) (zipD xs ys) H := by
  have l1 := ra.length
  have l2 := rb.length
  have hl := zipD_len xs ys
  refine ⟨fun i H' hi k => ?_, fun H' k => ⟨vs, us, (k.fz ha).sq, (k.fz hb).sq, by omega⟩, fun i H1 x H' d hd k y => ?_⟩
  · have h1 : i < vs.length := by omega
    have h2 : i < us.length := by omega
    exact ⟨vs, us, vs[i], us[i], (k.fz ha).sq, (k.fz hb).sq, by simp [h1], by simp [h2]⟩
  · obtain ⟨T, v, u, h1, h2, h3, h4, h5⟩ := y
    obtain ⟨x, y, e1, e2, rfl⟩ := zipD_get hd
    have q1 := h4 vs (k.fz ha).sq
    have q2 := h5 us (k.fz hb).sq
    obtain ⟨v', e1', r1⟩ := ra.get e1
    obtain ⟨u', e2', r2⟩ := rb.get e2
    rw [q1] at e1'; cases e1'
    rw [q2] at e2'; cases e2'
    have kk : Kp H1 H' := by rw [h3]; exact Kp.fresh h2
    refine ⟨.inr ⟨T, _, h2, h3⟩, ?_⟩
    rw [h1]
    refine .tup (SqT.of (by rw [h3]; exact upd_same)) (.cons ((r1.mono k).mono kk) (.cons ((r2.mono k).mono kk) .nil))
theorem dwalk_zipT {K : Fg} {H : Hp} {a b : Addr} {xs ys : List DV} {vs us : List V} (ha : SqT K H a vs) (hb : SqT K H b us) (ra : RDs K H xs vs) (rb : RDs K H ys us) : DWalk K (RZ.ItzT K a b) (zipD xs ys) H := by
  have l1 := ra.length
  have l2 := rb.length
  have hl := zipD_len xs ys
  refine ⟨fun i H' hi k => ?_, fun H' k => ⟨vs, us, k.sqT ha, k.sqT hb, by omega⟩, fun i H1 x H' d hd k y => ?_⟩
  · have h1 : i < vs.length := by omega
    have h2 : i < us.length := by omega
    exact ⟨vs, us, vs[i], us[i], k.sqT ha, k.sqT hb, by simp [h1], by simp [h2]⟩
  · obtain ⟨T, v, u, h1, h2, h3, h4, h5⟩ := y
    obtain ⟨x, y, e1, e2, rfl⟩ := zipD_get hd
    have q1 := h4 vs (k.sqT ha)
    have q2 := h5 us (k.sqT hb)
    obtain ⟨v', e1', r1⟩ := ra.get e1
    obtain ⟨u', e2', r2⟩ := rb.get e2
    rw [q1] at e1'; cases e1'
    rw [q2] at e2'; cases e2'
    have kk : Kp H1 H' := by rw [h3]; exact Kp.fresh h2
    refine ⟨.inr ⟨T, _, h2, h3⟩, ?_⟩
    rw [h1]
    refine .tup (SqT.of (by rw [h3]; exact upd_same)) (.cons ((r1.mono k).mono kk) (.cons ((r2.mono k).mono kk) .nil))
theorem pid_zip {elts : List Expr} {kk : Nat} {p tpos : Pos} (hm : X.mg "zip" = none) (ha : PA X [e, e2] (upA X.K t)) (hg : Gl X "zip" := by rfl) (hs : starEach [e, e2] X.env = (false, eval e X.env) :: starEach [e2] X.env := by rfl) (hpl : (backTo pos (starEach [e2] X.env)).any (·.1) = false := by rfl) :
    PI X (.Tuple elts kk tpos) (.Call (.Name "zip" p) [e, e2] [] pos) (upI X.K (wZip t)) := by
  refine PI_weak (RZ.pi_zipA hg hm ha hs hpl) fun σ H R ⟨δ, g, P, rs, rg, h, k⟩ => ⟨δ, g, _, rs, rg, h, fun xs g1 vs H1 e1 rg1 rd p => ?_⟩
  obtain ⟨x, y, v, u, rfl, rfl, r, r', p⟩ := one2_of rd p
  split at p
  · cases r with
    | tup hs hr => cases r' with
      | tup hs' hr' => exact ⟨_, _, _, _, rfl, .inr ⟨hs, hs', k _ _ _ _ e1 rg1 (dwalk_zipT hs hs' hr hr') p⟩⟩
  · cases r with
    | lst hs hr => cases r' with
      | lst hs' hr' => exact ⟨_, _, _, _, rfl, .inl ⟨hs.sq, hs'.sq, k _ _ _ _ e1 rg1 (dwalk_zipL hs hs' hr hr') p⟩⟩
  · exact p.elim

/-! ### comprehensions -/
def wipeD (δ : DS) : List Nat → DS
  | [] => δ
  | v :: vs => (wipeD δ vs).set v none
theorem RS.wipe {K : Fg} {H : Hp} {δ : DS} {σ : L2.St} (r : RS K H δ σ) : ∀ vs : List Nat, RS K H (wipeD δ vs) (wipe σ vs)
  | [] => r
  | v :: vs => (RS.wipe r vs).unset v
def dComp (tg : Tg) (own : List Nat) (tt : TDT) (te : TDE) (δ : DS) : List DV → DG → (List DV → DG → Prop) → Prop
  | [], g, Q => Q [] g
  | d :: ds, g, Q => match bindT tg d (wipeD δ own) with
    | some δ2 => tt δ2 g fun b g3 => if b = true then te δ2 g3 fun y g4 => dComp tg own tt te δ ds g4 fun ys g5 => Q (y :: ys) g5 else dComp tg own tt te δ ds g3 Q
    | none => False
/-- the list that comes is changed by no one -/
def dLc (wi : TDI) (tg : Tg) (own : List Nat) (tt : TDT) (te : TDE) : TDE := fun δ g Q => wi δ g fun ds g1 => ds.length ≤ sizeLine ∧ dComp tg own tt te δ ds g1 fun ys g2 => Q (.lst ys) g2
/-- .. may be changed -/
def dLcM (wi : TDI) (tg : Tg) (own : List Nat) (tt : TDT) (te : TDE) : TDE := fun δ g Q => wi δ g fun ds g1 => ds.length ≤ sizeLine ∧ dComp tg own tt te δ ds g1 fun ys g2 => ∀ p, g2 p = none → Q (.ref p) (gup g2 p (.lst ys))
theorem wipe_wipe (σ : L2.St) : ∀ vs : List Nat, wipe (wipe σ vs) vs = wipe σ vs
  | [] => rfl
  | v :: vs => by
    show (wipe ((wipe σ vs).set v none) vs).set v none = (wipe σ vs).set v none
    by_cases h : v ∈ vs
    · rw [wipe_set h, wipe_wipe σ vs]
    · rw [wipe_set.wipe_comm h, wipe_wipe σ vs, List.set_set]
theorem lc_up {K : Fg} {wi : TDI} {tg : Tg} {own : List Nat} {tt : TDT} {tel : TDE} {δ : DS} {g : DG} {σ : L2.St} {H : Hp} {P : List DV → DG → Prop} {Q : VK} (hix : ∀ i ∈ tg.ix, i ∈ own) (rs : RS K H δ σ) (rg : RG K H g)
    (h : wi δ g fun ds g1 => ds.length ≤ sizeLine ∧ dComp tg own tt tel δ ds g1 P)
    (k : ∀ D ys vs g' H', Ext g H g' H' → RG K H' g' → g' D = none → (∀ o, H D = some o → g D = none → False) → H' D = some (.lst vs) → RDs K H' ys vs → P ys g' → Q (.ref D) H') :
    tLc (upI K wi) (tgG K tg) (upT K tt) (upE K tel) own σ H Q := by
  refine ⟨δ, g, _, rs, rg, h, fun ds g1 J H1 e1 rg1 dw p D hD => ?_⟩
  obtain ⟨hlen, p⟩ := p
  have hD0 : ∀ o, H D = some o → g D = none → False := fun o q n => by
    have := (e1 D o q n).1
    rw [hD] at this; cases this
  have k1 : Kp H1 (upd H1 D (.lst [])) := Kp.fresh hD
  refine ⟨fun i m H' => m = ds.length - i ∧ i ≤ ds.length ∧ Kp H1 H' ∧ ∃ (acc : List DV) (accV : List V) (g' : DG), Ext g H g' H' ∧ RG K H' g' ∧ g' D = none ∧ H' D = some (.lst accV) ∧ RDs K H' acc accV ∧ acc.length ≤ i ∧
    dComp tg own tt tel δ (ds.drop i) g' fun ys g2 => P (acc ++ ys) g2, ⟨ds.length, rfl, Nat.zero_le _, k1, [], [], g1, e1.trans (Ext.fresh rg1 hD), rg1.fresh hD, rg1.none hD, upd_same, .nil, Nat.le_refl _, p⟩, ?_⟩
  rintro i m H2 ⟨rfl, hi, kp2, acc, accV, g2, e2, rg2, gD, hD2, ra, hacc, q⟩
  by_cases hlt : i < ds.length
  · have hd : ds.drop i = ds[i] :: ds.drop (i + 1) := List.drop_eq_getElem_cons hlt
    rw [hd] at q
    have q' : (match bindT tg ds[i] (wipeD δ own) with
      | some δ2 => tt δ2 g2 fun b g3 => if b = true then tel δ2 g3 fun y g4 => dComp tg own tt tel δ (ds.drop (i + 1)) g4 fun ys g5 => P (acc ++ (y :: ys)) g5 else dComp tg own tt tel δ (ds.drop (i + 1)) g3 fun ys g2 => P (acc ++ ys) g2
      | none => False) := q
    refine .inr ⟨dw.goes i H2 hlt kp2, fun H' => Kp H1 H' ∧ ∃ (acc : List DV) (accV : List V) (g' : DG), Ext g H g' H' ∧ RG K H' g' ∧ g' D = none ∧ H' D = some (.lst accV) ∧ RDs K H' acc accV ∧ acc.length ≤ i + 1 ∧
      dComp tg own tt tel δ (ds.drop (i + 1)) g' fun ys g2 => P (acc ++ ys) g2, fun H' z => ⟨ds.length - (i + 1), by omega, rfl, hlt, z⟩, fun x H3 y => ?_⟩
    obtain ⟨st, rd⟩ := dw.yields i H2 x H3 ds[i] (by simp [hlt]) kp2 y
    split at q'
    · rename_i δ3 eb
      have rg3 := step_rg st rg2
      have e3 := step_ext st rg2
      have rs3 : RS K H3 (wipeD δ own) (wipe σ own) := ((rs.mono (e2.kp rg)).mono (step_kp st)).wipe own
      refine tg_run rd rs3 eb fun σ3 rsT hw => ⟨?_, ?_⟩
      · rw [hw own hix]
        exact wipe_wipe σ own
      · have hD3 : H3 D = some (.lst accV) := (e3 D _ hD2 gD).1
        refine ⟨δ3, g2, _, rsT, rg3, q', fun b g4 H4 e4 rg4 z => ?_⟩
        have hD4 := e4 D _ hD3 gD
        cases b with
        | false =>
          dsimp only
          rw [if_neg Bool.false_ne_true] at z ⊢
          exact ⟨(kp2.trans (step_kp st)).trans (e4.kp rg3), acc, accV, g4, (e2.trans e3).trans e4, rg4, hD4.2, hD4.1, (ra.mono (step_kp st)).mono (e4.kp rg3), by omega, z⟩
        | true =>
          dsimp only
          rw [if_pos rfl] at z ⊢
          refine ⟨δ3, g4, _, rsT.mono (e4.kp rg3), rg4, z, fun y g5 v H5 e5 rg5 rd5 w => ?_⟩
          have hD5 := e5 D _ hD4.1 hD4.2
          have la := ra.length
          refine ⟨accV, hD5.1, by omega, ?_⟩
          have km : Kp H5 (upd H5 D (.lst (accV ++ [v]))) := Kp.mut (by rw [hD5.1]; exact True.intro)
          refine ⟨(((kp2.trans (step_kp st)).trans (e4.kp rg3)).trans (e5.kp rg4)).trans km, acc ++ [y], accV ++ [v], g5, fun a o ha hn => ?_, fun a o ha => ?_, hD5.2, upd_same, ?_, by rw [List.length_append, List.length_singleton]; omega, ?_⟩
          · obtain ⟨z1, z2⟩ := ((e2.trans e3).trans (e4.trans e5)) a o ha hn
            refine ⟨?_, z2⟩
            rw [upd_ne (fun q => by subst q; exact hD0 o ha hn)]
            exact z1
          · have na : a ≠ D := fun q => by subst q; rw [hD5.2] at ha; cases ha
            exact (rg5 a o ha).keep km (upd_ne na)
          · exact ((((ra.mono (step_kp st)).mono (e4.kp rg3)).mono (e5.kp rg4)).mono km).append (.one (rd5.mono km))
          · have hw2 : (fun ys g2 => P (acc ++ [y] ++ ys) g2) = (fun ys g5 => P (acc ++ (y :: ys)) g5) := by
              funext ys g5
              rw [List.append_assoc]
              rfl
            rw [hw2]
            exact w
    · exact q'.elim
  · have ei : i = ds.length := by omega
    subst ei
    rw [List.drop_length] at q
    have q' : P (acc ++ []) g2 := q
    rw [List.append_nil] at q'
    exact .inl ⟨dw.stops H2 kp2, k D acc accV g2 H2 e2 rg2 gD hD0 hD2 ra q'⟩

theorem lock_ext {g g' : DG} {H H' : Hp} {D : Addr} {o : HO} (e : Ext g H g' H') (hD : ∀ o, H D = some o → g D = none → False) : Ext g H g' (upd H' D o) := fun a u ha hn => by
  obtain ⟨z1, z2⟩ := e a u ha hn
  exact ⟨by rw [upd_ne (fun q => by subst q; exact hD u ha hn)]; exact z1, z2⟩
theorem lock_rg {K : Fg} {g' : DG} {H' : Hp} {D : Addr} {o : HO} {vs : List V} (rg : RG K H' g') (gD : g' D = none) (hD : H' D = some (.lst vs)) : RG K (upd H' D o) g' := fun a u ha => by
  have na : a ≠ D := fun q => by subst q; rw [gD] at ha; cases ha
  exact (rg a u ha).keep (Kp.mut (by rw [hD]; exact True.intro)) (upd_ne na)
variable {elt iter : Expr} {ifs : List Expr} {scope : Scope} {own : List (Str × Nat)} {wi : TDI} {tg : Tg} {tt : TDT} {tel : TDE}
theorem pd_lc (hc : X.calm = true) (hN : X.N.Nodup) (hi : PI X tgx iter (upI X.K wi)) (ok : BlkOk X.N X.env.scope scope own)
    (hg : ∀ (s : Shared) (H : Hp) (C : Addr) (cl : List (Str × Addr)) (fp : List Addr), PG (X.blk s H scope (compEnvC scope cl C X.env) fp) tgx (tgG X.K tg)) (ht : ∀ (s : Shared) (H : Hp) (C : Addr) (cl : List (Str × Addr)) (fp : List Addr), PTs (X.blk s H scope (compEnvC scope cl C X.env) fp) ifs (upT X.K tt))
    (he : ∀ (s : Shared) (H : Hp) (C : Addr) (cl : List (Str × Addr)) (fp : List Addr), PE (X.blk s H scope (compEnvC scope cl C X.env) fp) elt (upE X.K tel)) (hix : ∀ i ∈ tg.ix, i ∈ own.map (·.2) := by decide) (hs : ∀ x, foldedSetIterable iter X.env x = pure x := by intro _; rfl) :
    PE X (.ListComp elt [⟨tgx, iter, ifs, 0⟩] scope pos) (upE X.K (dLc wi tg (own.map (·.2)) tt tel)) :=
  PE_weak (PE_fz (pe_lc hc hN hi ok hg ht he hs)) fun σ H Q ⟨δ, g, P, rs, rg, h, k⟩ => lc_up (P := fun ys g2 => P (.lst ys) g2) hix rs rg h fun D ys vs g' H' e rg' gD hD0 hD rd p =>
    .inr ⟨D, vs, rfl, hD, fun o => k _ g' _ _ (lock_ext e hD0) (lock_rg rg' gD hD) (.lst ⟨o, upd_same⟩ (rd.mono (Kp.mut (by rw [hD]; exact True.intro)))) p⟩
theorem ext_newM {g g' : DG} {H H' : Hp} {D : Addr} {u : DO} (e : Ext g H g' H') (hD : ∀ o, H D = some o → g D = none → False) : Ext g H (gup g' D u) H' := fun a o ha hn => by
  obtain ⟨z1, z2⟩ := e a o ha hn
  exact ⟨z1, by rw [gup_ne (fun q => by subst q; exact hD o ha hn)]; exact z2⟩
theorem rg_newM {K : Fg} {g' : DG} {H' : Hp} {D : Addr} {ys : List DV} {vs : List V} (rg : RG K H' g') (hD : H' D = some (.lst vs)) (rd : RDs K H' ys vs) : RG K H' (gup g' D (.lst ys)) := fun a u ha => by
  by_cases q : a = D
  · subst q; rw [gup_same] at ha; cases ha; exact ⟨vs, hD, rd⟩
  · rw [gup_ne q] at ha; exact rg a u ha
theorem pd_lcM (hc : X.calm = true) (hN : X.N.Nodup) (hi : PI X tgx iter (upI X.K wi)) (ok : BlkOk X.N X.env.scope scope own)
    (hg : ∀ (s : Shared) (H : Hp) (C : Addr) (cl : List (Str × Addr)) (fp : List Addr), PG (X.blk s H scope (compEnvC scope cl C X.env) fp) tgx (tgG X.K tg)) (ht : ∀ (s : Shared) (H : Hp) (C : Addr) (cl : List (Str × Addr)) (fp : List Addr), PTs (X.blk s H scope (compEnvC scope cl C X.env) fp) ifs (upT X.K tt))
    (he : ∀ (s : Shared) (H : Hp) (C : Addr) (cl : List (Str × Addr)) (fp : List Addr), PE (X.blk s H scope (compEnvC scope cl C X.env) fp) elt (upE X.K tel)) (hix : ∀ i ∈ tg.ix, i ∈ own.map (·.2) := by decide) (hs : ∀ x, foldedSetIterable iter X.env x = pure x := by intro _; rfl) :
    PE X (.ListComp elt [⟨tgx, iter, ifs, 0⟩] scope pos) (upE X.K (dLcM wi tg (own.map (·.2)) tt tel)) :=
  PE_weak (pe_lc hc hN hi ok hg ht he hs) fun σ H Q ⟨δ, g, P, rs, rg, h, k⟩ => lc_up (P := fun ys g2 => ∀ p, g2 p = none → P (.ref p) (gup g2 p (.lst ys))) hix rs rg h fun D ys vs g' H' e rg' gD hD0 hD rd p =>
    k _ _ _ _ (ext_newM e hD0) (rg_newM rg' hD rd) (.ref D) (p D gD)
theorem PS_fz {st : Stmt} {t : TS} (h : PS X st t) : PS X st (fun D σ H => t { D with nx := fun σ' H' => D.nx σ' H' ∨ ∃ p vs, H' p = some (.lst vs) ∧ ∀ o, D.nx σ' (upd H' p (.frz o (.lst vs))) } σ H) := by
  refine ⟨fun pins s σ H D I q => thn (h.run pins s σ H _ I q) fun f s' z => ?_⟩
  cases f with
  | next =>
    obtain ⟨σ', H', I', z⟩ := z
    rcases z with z | ⟨p, vs, hp, z⟩
    · exact ⟨σ', H', I', z⟩
    · obtain ⟨o, I2⟩ := I'.lock hp True.intro
      exact ⟨σ', _, I2, z o⟩
  | ret v => exact z
  | brk => exact z
  | cont => exact z
/-- name = [..], on one line, the name a local -/
theorem pds_setLc {i : Nat} {y : Str} {py spos : Pos} (hc : X.calm = true) (hN : X.N.Nodup) (hsw : swapsWith (.ListComp elt [⟨tgx, iter, ifs, 0⟩] scope pos) (some (.Name y py)) spos.line X.env = pure true) (hi : PI X tgx iter (upI X.K wi)) (ok : BlkOk X.N X.env.scope scope own)
    (hg : ∀ (s : Shared) (H : Hp) (C : Addr) (cl : List (Str × Addr)) (fp : List Addr), PG (X.blk s H scope (compEnvC scope cl C X.env) fp) tgx (tgG X.K tg)) (ht : ∀ (s : Shared) (H : Hp) (C : Addr) (cl : List (Str × Addr)) (fp : List Addr), PTs (X.blk s H scope (compEnvC scope cl C X.env) fp) ifs (upT X.K tt))
    (he : ∀ (s : Shared) (H : Hp) (C : Addr) (cl : List (Str × Addr)) (fp : List Addr), PE (X.blk s H scope (compEnvC scope cl C X.env) fp) elt (upE X.K tel)) (hy : X.N[i]? = some y := by rfl) (hyl : X.env.scope.names.lookup y = some .local := by rfl)
    (hix : ∀ i ∈ tg.ix, i ∈ own.map (·.2) := by decide) (hs : ∀ x, foldedSetIterable iter X.env x = pure x := by intro _; rfl) :
    PS X (.Assign [.Name y py] (.ListComp elt [⟨tgx, iter, ifs, 0⟩] scope pos) spos) (upS X.K (dAsg (.nm i) (dLc wi tg (own.map (·.2)) tt tel))) :=
  PS_weak (PS_fz (ps_setLc hc hN hy hyl hsw hi ok hg ht he hs)) fun D σ H ⟨δ, g, E, rs, rg, h, k1, _⟩ => lc_up (P := fun ys g2 => E.nx (δ.set i (some (.lst ys))) g2) hix rs rg h fun L ys vs g' H' e rg' gD hD0 hD rd p =>
    .inr ⟨L, vs, hD, fun o => k1 _ g' _ _ (lock_ext e hD0) (lock_rg rg' gD hD) ((rs.mono ((lock_ext e hD0).kp rg)).set i (.lst ⟨o, upd_same⟩ (rd.mono (Kp.mut (by rw [hD]; exact True.intro))))) p⟩
theorem pds_setLcM {i : Nat} {y : Str} {py spos : Pos} (hc : X.calm = true) (hN : X.N.Nodup) (hsw : swapsWith (.ListComp elt [⟨tgx, iter, ifs, 0⟩] scope pos) (some (.Name y py)) spos.line X.env = pure true) (hi : PI X tgx iter (upI X.K wi)) (ok : BlkOk X.N X.env.scope scope own)
    (hg : ∀ (s : Shared) (H : Hp) (C : Addr) (cl : List (Str × Addr)) (fp : List Addr), PG (X.blk s H scope (compEnvC scope cl C X.env) fp) tgx (tgG X.K tg)) (ht : ∀ (s : Shared) (H : Hp) (C : Addr) (cl : List (Str × Addr)) (fp : List Addr), PTs (X.blk s H scope (compEnvC scope cl C X.env) fp) ifs (upT X.K tt))
    (he : ∀ (s : Shared) (H : Hp) (C : Addr) (cl : List (Str × Addr)) (fp : List Addr), PE (X.blk s H scope (compEnvC scope cl C X.env) fp) elt (upE X.K tel)) (hy : X.N[i]? = some y := by rfl) (hyl : X.env.scope.names.lookup y = some .local := by rfl)
    (hix : ∀ i ∈ tg.ix, i ∈ own.map (·.2) := by decide) (hs : ∀ x, foldedSetIterable iter X.env x = pure x := by intro _; rfl) :
    PS X (.Assign [.Name y py] (.ListComp elt [⟨tgx, iter, ifs, 0⟩] scope pos) spos) (upS X.K (dAsg (.nm i) (dLcM wi tg (own.map (·.2)) tt tel))) :=
  PS_weak (ps_setLc hc hN hy hyl hsw hi ok hg ht he hs) fun D σ H ⟨δ, g, E, rs, rg, h, k1, _⟩ => lc_up (P := fun ys g2 => ∀ p, g2 p = none → E.nx (δ.set i (some (.ref p))) (gup g2 p (.lst ys))) hix rs rg h fun L ys vs g' H' e rg' gD hD0 hD rd p =>
    k1 _ _ _ _ (ext_newM e hD0) (rg_newM rg' hD rd) ((rs.mono (e.kp rg)).set i (.ref L)) (p L gD)

/-! ### ghost step: a list that no one will change any more is by content from now on -/
def dFz (i : Nat) (t : TDS) : TDS := fun E δ g => match nth δ i with
  | some (.ref p) => match g p with
    | some (.lst ds) => t E (δ.set i (some (.lst ds))) (gdel g p)
    | none => False
  | _ => False
theorem pds_fz (i : Nat) {st : List Stmt} {t : TDS} (h : PSs X st (upS X.K t)) : PSs X st (upS X.K (dFz i t)) := by
  refine ⟨fun pins s σ H D I ⟨δ, g, E, rs, rg, q, k1, k2, k3, k4⟩ => ?_⟩
  unfold dFz at q
  split at q <;> first | exact q.elim | skip
  rename_i p ep
  split at q <;> first | exact q.elim | skip
  rename_i ds eg
  obtain ⟨vs, hp, rd⟩ := rg p _ eg
  obtain ⟨o, I2⟩ := I.lock hp True.intro
  have km : Kp H (upd H p (.frz o (.lst vs))) := Kp.mut (by rw [hp]; exact True.intro)
  have ex : Ext g H (gdel g p) (upd H p (.frz o (.lst vs))) := fun a u ha hn => by
    have na : a ≠ p := fun z => by rw [z, eg] at hn; cases hn
    exact ⟨by rw [upd_ne na]; exact ha, by unfold gdel; rw [if_neg na]; exact hn⟩
  have rg2 : RG X.K (upd H p (.frz o (.lst vs))) (gdel g p) := fun a u ha => by
    unfold gdel at ha
    by_cases na : a = p
    · rw [if_pos na] at ha; cases ha
    · rw [if_neg na] at ha; exact (rg a u ha).keep km (upd_ne na)
  obtain ⟨v, hv, rv⟩ := rs.2 i _ (nth_get ep)
  cases rv
  have rs2 : RS X.K (upd H p (.frz o (.lst vs))) (δ.set i (some (.lst ds))) σ := by
    have z := (rs.mono km).set i (d := .lst ds) (v := .ref p) (.lst ⟨o, upd_same⟩ (rd.mono km))
    have e : σ.set i (some (.ref p)) = σ := by
      obtain ⟨h1, h2⟩ := List.getElem?_eq_some_iff.mp hv
      rw [← h2]
      exact List.set_getElem_self h1
    rw [e] at z
    exact z
  exact h.run pins s σ _ D I2 ⟨_, _, E, rs2, rg2, q, fun δ' g' σ' H' e => k1 _ _ _ _ (ex.trans e), fun d g' v H' e => k2 _ _ _ _ (ex.trans e), fun δ' g' σ' H' e => k3 _ _ _ _ (ex.trans e), fun δ' g' σ' H' e => k4 _ _ _ _ (ex.trans e)⟩
end

/-! ### defs -/
def startD (N : List Str) (ds : List DV) : DS := ds.map some ++ List.replicate (N.length - ds.length) none
theorem start_rs {K : Fg} {H : Hp} {N : List Str} {ds : List DV} {vs : List V} (r : RDs K H ds vs) : RS K H (startD N ds) (L2.start N vs) := by
  have hl := r.length
  refine ⟨by simp [startD, L2.start, hl], fun i d h => ?_⟩
  unfold startD at h
  unfold L2.start
  by_cases hi : i < ds.length
  · rw [List.getElem?_append_left (by simpa using hi)] at h
    rw [List.getElem?_append_left (by simpa [← hl] using hi)]
    rw [List.getElem?_map] at h
    cases e : ds[i]? with
    | none => rw [e] at h; cases h
    | some x =>
      rw [e] at h
      cases h
      obtain ⟨v, h1, h2⟩ := r.get e
      exact ⟨v, by rw [List.getElem?_map, h1]; rfl, h2⟩
  · rw [List.getElem?_append_right (by simpa using Nat.le_of_not_lt hi)] at h
    have := List.mem_of_getElem? h
    rw [List.mem_replicate] at this
    cases this.2
/-- what a def leaves: garbage is dropped -/
def DRet (P : DV → DG → Prop) : DV → DG → Prop := fun d g => ∃ g', Sub g' g ∧ P d g'
theorem dret {P : DV → DG → Prop} {d : DV} {g : DG} (h : P d g) : DRet P d g := ⟨g, Sub.refl, h⟩
def dEnds (P : DV → DG → Prop) : DEnds := { nx := fun _ g' => DRet P .non g', rt := DRet P }
theorem fun_okD {P : Program} {w : World} {K : Fg} {mg : Str → Option Value} {base : Heap} {x qual : Str} {st : Stmt} {f : Addr} {fd : FuncData} {N ps : List Str} {k : Nat} {sp : SpD} (F : Fun K x qual st f fd) (S : FnScope N ps (defScope st))
    (len : ∀ ds g Q, sp ds g Q → ds.length = ps.length)
    (hbody : ∀ (cdv : Value) (A : Around) (outer : List Env) (s : Shared) (H : Hp) (E : XK), Room k (A.deeper (envOfC qual (defScope st) s.heap.objs.size f cdv)) →
      ∃ t : TDS, PSs (cxOf CX0 P w K mg base N qual (defScope st) f cdv A outer s H E).nox (defBody st) (upS K t) ∧ ∀ ds g Q, sp ds g Q → t (dEnds Q) (startD N ds) g) :
    FnOk P w K mg base CX0 (k + 1) f fd ps (upSp K sp) := by
  refine F.ok S (fun vs H Q E ⟨ds, g, R, rd, rg, h, _⟩ => by rw [← rd.length]; exact len _ _ _ h) fun cdv A outer s H vs Q E hr ⟨ds, g, R, rd, rg, h, k⟩ => ?_
  obtain ⟨t, ht, hq⟩ := hbody cdv A outer s H E hr
  refine ⟨_, ht, startD N ds, g, dEnds R, start_rs rd, rg, hq ds g R h, fun δ' g' σ' H' e rg' _ z => ?_, fun d g' v H' e rg' rv z => ?_, fun _ _ _ _ _ _ _ z => z, fun _ _ _ _ _ _ _ z => z⟩
  · obtain ⟨g2, su, z⟩ := z
    exact k _ g2 _ _ (su.ext e) (su.rg rg') .non z
  · obtain ⟨g2, su, z⟩ := z
    exact k _ g2 _ _ (su.ext e) (su.rg rg') rv z
end DL

/-! Deep layer E: operators and built-ins over contents. -/
namespace DL
open PySem PyProof.Rows PySem.Spec L2

/-! ### content as data -/
mutual
def DV.py : DV → PyData
  | .non => .none
  | .bl b => .bool b
  | .int i => .int i
  | .str x => .str x
  | .tup ds => .tuple (pyAll ds)
  | .lst ds => .list (pyAll ds)
  | .ref _ => .none
  | .ty _ => .none
  | .scr _ => .none
def pyAll : List DV → List PyData
  | [] => []
  | d :: ds => d.py :: pyAll ds
end
mutual
/-- no address, no class within -/
def DV.pl : DV → Bool
  | .tup ds => plAll ds
  | .lst ds => plAll ds
  | .ref _ => false
  | .ty _ => false
  | .scr _ => false
  | _ => true
def plAll : List DV → Bool
  | [] => true
  | d :: ds => d.pl && plAll ds
end
theorem pyAll_map : ∀ ds : List DV, pyAll ds = ds.map DV.py
  | [] => rfl
  | d :: ds => by rw [pyAll, pyAll_map ds]; rfl
mutual
theorem RD.dp {K : Fg} {H : Hp} : ∀ {d : DV} {v : V}, RD K H d v → d.pl = true → Dp K H v d.py
  | _, _, .non, _ => .non
  | _, _, .bl b, _ => .bl b
  | _, _, .int i, _ => .int i
  | _, _, .str x, _ => .str x
  | _, _, .ref a, h => by cases h
  | _, _, .ty n, h => by cases h
  | _, _, .scr _, h => by cases h
  | _, _, .tup hs r, h => .tup hs (RDs.dp r h)
  | _, _, .lst hs r, h => .lst hs.sq (RDs.dp r h)
theorem RDs.dp {K : Fg} {H : Hp} : ∀ {ds : List DV} {vs : List V}, RDs K H ds vs → plAll ds = true → DpAll K H vs (pyAll ds)
  | _, _, .nil, _ => .nil
  | _, _, .cons r t, h => by
    rw [plAll, Bool.and_eq_true] at h
    exact .cons (RD.dp r h.1) (RDs.dp t h.2)
end
/-- == of content -/
def eqD (x y : DV) : Bool := PyData.eqv x.py y.py
def okD (x : DV) : Bool := x.pl && SeqAt.shaped x.py

section
variable {X : Cx}
/-! ### arithmetic -/
def rrAdd : RR2 := fun x y g P => match x, y with
  | .int i, .int j => P (.int (i + j))
  | .str i, .str j => i.length + j.length ≤ sizeLine ∧ P (.str (i ++ j))
  | .tup xs, .tup ys => xs.length + ys.length ≤ sizeLine ∧ P (.tup (xs ++ ys))
  | .lst xs, .lst ys => xs.length + ys.length ≤ sizeLine ∧ P (.lst (xs ++ ys))
  | _, _ => False
theorem Inv.lstR {pinz : List (Addr × Obj)} {σ : L2.St} {H : Hp} {s : Shared} {l : Addr} {xs : List V} (Iwz : Inv X pinz σ H s) (h : Rd H l (.lst xs)) : xs.length ≤ sizeLine ∧ ∃ (itz1 : List Value) (n : Nat), Vals xs itz1 ∧ xs.length = itz1.length ∧ s.heap.get? l = some { cls := .type "list", data := .seq itz1.toArray n } := by
  obtain ⟨z, itz1, n, r, e⟩ := h.ok Iwz.hok
  exact ⟨z, itz1, n, r, r.length, e⟩
def rCatF : R2 := fun x y H Q => ∃ l b xs zs, x = .ref l ∧ y = .ref b ∧ Rd H l (.lst xs) ∧ Rd H b (.lst zs) ∧ xs.length + zs.length ≤ sizeLine ∧ ∀ p, H p = none → Q (.ref p) (upd H p (.lst (xs ++ zs)))
theorem op_catF : OpR X (binaryOp .Add) rCatF := by
  intro pinz s σ H x y v u Q Iwz rx ry h
  obtain ⟨l, b, xs, zs, rfl, rfl, hI1, hI2, hv1, q⟩ := h
  cases rx
  cases ry
  obtain ⟨z, itz1, n, r, hl, e⟩ := Inv.lstR Iwz hI1
  obtain ⟨z2, itz2, n2, r2, hl2, e2⟩ := Inv.lstR Iwz hI2
  refine PySem.P.add_list e e2 ?_ (by rw [List.size_toArray, List.size_toArray]; omega)
  have ea : itz1.toArray ++ itz2.toArray = (itz1 ++ itz2).toArray := by simp
  rw [ea]
  exact ⟨.ref _, _, Iwz.lnew (t' := s.toks) (r.append r2) (by rw [List.length_append]; omega), rfl, q _ Iwz.fresh⟩
theorem fz_lift {g : DG} {H : Hp} {Q : VK} {P : DV → Prop} {K : Fg} (rg : RG K H g) (k : ∀ z w H', Ext g H g H' → RG K H' g → RD K H' z w → P z → Q w H') {ds : List DV} {vs : List V} (rd : RDs K H ds vs) (h : P (.lst ds)) (p : Addr) (hp : H p = none) :
    fz Q (.ref p) (upd H p (.lst vs)) := .inr ⟨p, vs, rfl, upd_same, fun o => by
  rw [upd_upd]
  exact k _ _ _ (Ext.fresh rg hp) (rg.fresh hp) (.lst ⟨o, upd_same⟩ (rd.mono (Kp.fresh hp))) h⟩
theorem tup_lift {g : DG} {H : Hp} {Q : VK} {P : DV → Prop} {K : Fg} (rg : RG K H g) (k : ∀ z w H', Ext g H g H' → RG K H' g → RD K H' z w → P z → Q w H') {ds : List DV} {vs : List V} (rd : RDs K H ds vs) (h : P (.tup ds)) (p : Addr) (hp : H p = none) :
    fz Q (.ref p) (upd H p (.tup vs)) := .inl (k _ _ _ (Ext.fresh rg hp) (rg.fresh hp) (.tup (SqT.of upd_same) (rd.mono (Kp.fresh hp))) h)
def RAdd (K : Fg) : R2 := fun x y H Q => (rI0 (fun i j => .int (i + j)) x y H Q ∨ (∃ i j, x = .str i ∧ y = .str j ∧ i.length + j.length ≤ sizeLine ∧ Q (.str (i ++ j)) H)) ∨ (rCatA K x y H Q ∨ rCatF x y H Q)
theorem op_addD : OpR X (binaryOp .Add) (RAdd X.K) := (op_add.or op_add_str).or (op_catA.or op_catF)
theorem ref_add {K : Fg} : RefOp K rrAdd (RAdd K) := by
  intro x y P v u H g Q rg rx ry k h
  unfold rrAdd at h
  split at h
  · cases rx; cases ry
    exact .inl (.inl ⟨_, _, rfl, rfl, .inl (k _ _ H Ext.refl rg (.int _) h)⟩)
  · cases rx; cases ry
    exact .inl (.inr ⟨_, _, rfl, rfl, h.1, .inl (k _ _ H Ext.refl rg (.str _) h.2)⟩)
  · cases rx with
    | tup hs hr =>
    cases ry with
    | tup hs' hr' =>
    rename_i ds es a vs b us
    refine .inr (.inl ⟨_, _, vs, us, rfl, rfl, hs, hs', by rw [← hr.length, ← hr'.length]; exact h.1, fun e => ?_, fun ne e => ?_, fun _ _ p hp => tup_lift rg k (hr.append hr') h.2 p hp⟩)
    · subst e
      cases hr
      exact .inl (k _ _ H Ext.refl rg (.tup hs' hr') h.2)
    · subst e
      cases hr'
      refine .inl (k _ _ H Ext.refl rg (.tup hs hr) ?_)
      have := h.2
      rw [List.append_nil] at this
      exact this
  · cases rx with
    | lst hs hr =>
    cases ry with
    | lst hs' hr' =>
    obtain ⟨o, e⟩ := hs
    obtain ⟨o', e'⟩ := hs'
    exact .inr (.inr ⟨_, _, _, _, rfl, rfl, .inr ⟨o, e⟩, .inr ⟨o', e'⟩, by rw [← hr.length, ← hr'.length]; exact h.1, fun p hp => fz_lift rg k (hr.append hr') h.2 p hp⟩)
  · exact h.elim
/-- two ints under a condition -/
def rrI (C : Int → Int → Prop) (f : Int → Int → DV) : RR2 := fun x y _ P => match x, y with
  | .int i, .int j => C i j ∧ P (f i j)
  | _, _ => False
theorem ref_rI {K : Fg} {C : Int → Int → Prop} {f : Int → Int → Int} : RefOp K (rrI C fun i j => .int (f i j)) (rI C fun i j => .int (f i j)) := by
  intro x y P v u H g Q rg rx ry k h
  unfold rrI at h
  split at h
  · cases rx; cases ry
    exact ⟨_, _, rfl, rfl, h.1, .inl (k _ _ H Ext.refl rg (.int _) h.2)⟩
  · exact h.elim
def TT2 (_ _ : Int) : Prop := True
theorem op_subC : OpR X (binaryOp .Sub) (rI TT2 fun i j => .int (i - j)) := fun pins s σ H x y v u Q I rx ry ⟨i, j, h1, h2, _, q⟩ => op_sub pins s σ H x y v u Q I rx ry ⟨i, j, h1, h2, q⟩
abbrev rrSub : RR2 := rrI TT2 fun i j => .int (i - j)
abbrev rrMul : RR2 := rrI CMulW fun i j => .int (i * j)
abbrev rrFdiv : RR2 := rrI CDivW fun i j => .int (i / j)
abbrev rrMod : RR2 := rrI (fun _ j => 0 < j) fun i j => .int (i % j)
def CPowW (i j : Int) : Prop := 0 ≤ j ∧ (Builtin.Int.intBits i : Int) * j ≤ 2 ^ 27
theorem op_powW : OpR X (binaryOp .Pow) (rI CPowW fun i j => .int (i ^ j.toNat)) := opI fun _ _ _ _ _ _ _ hc q => PyProof.Rows.pow_int hc.1 hc.2 q
abbrev rrPow : RR2 := rrI CPowW fun i j => .int (i ^ j.toNat)
variable {pos : Pos} {a b : Expr} {ta tb : TDE}
theorem pd_add (ha : PE X a (upE X.K ta)) (hb : PE X b (upE X.K tb)) : PE X (.BinOp a .Add b pos) (upE X.K (dOp rrAdd ta tb)) := pd_op op_addD ref_add ha hb
theorem pd_sub (ha : PE X a (upE X.K ta)) (hb : PE X b (upE X.K tb)) : PE X (.BinOp a .Sub b pos) (upE X.K (dOp rrSub ta tb)) := pd_op op_subC ref_rI ha hb
theorem pd_fdiv (ha : PE X a (upE X.K ta)) (hb : PE X b (upE X.K tb)) : PE X (.BinOp a .FloorDiv b pos) (upE X.K (dOp rrFdiv ta tb)) := pd_op op_fdivW ref_rI ha hb
theorem pd_mod (ha : PE X a (upE X.K ta)) (hb : PE X b (upE X.K tb)) : PE X (.BinOp a .Mod b pos) (upE X.K (dOp rrMod ta tb)) := pd_op op_mod ref_rI ha hb
theorem pd_pow (ha : PE X a (upE X.K ta)) (hb : PE X b (upE X.K tb)) : PE X (.BinOp a .Pow b pos) (upE X.K (dOp rrPow ta tb)) := pd_op op_powW ref_rI ha hb
theorem pd_mulI (ha : PE X a (upE X.K ta)) (hb : PE X b (upE X.K tb)) : PE X (.BinOp a .Mult b pos) (upE X.K (dOp rrMul ta tb)) := pd_op op_mulW ref_rI ha hb

/-! ### comparisons -/
def rrCmp (f : Int → Int → Bool) : RR2 := fun x y _ P => match x, y with
  | .int i, .int j => P (.bl (f i j))
  | _, _ => False
theorem ref_cmp {K : Fg} {f : Int → Int → Bool} : RefCmp K (rrCmp f) (rI0 fun i j => .bl (f i j)) := by
  intro x y P v u H g Q rg rx ry k h
  unfold rrCmp at h
  split at h
  · cases rx; cases ry
    exact ⟨_, _, rfl, rfl, k _ h⟩
  · exact h.elim
abbrev rrLt : RR2 := rrCmp fun i j => decide (i < j)
abbrev rrLe : RR2 := rrCmp fun i j => decide (i ≤ j)
abbrev rrGt : RR2 := rrCmp fun i j => decide (j < i)
abbrev rrGe : RR2 := rrCmp fun i j => decide (j ≤ i)
def rrEq : RR2 := fun x y _ P => okD x = true ∧ okD y = true ∧ P (.bl (eqD x y))
def rrNe : RR2 := fun x y _ P => okD x = true ∧ okD y = true ∧ P (.bl (!eqD x y))
theorem ref_eq {K : Fg} : RefCmp K rrEq (rEqD K) := by
  intro x y P v u H g Q rg rx ry k ⟨h1, h2, h⟩
  unfold okD at h1 h2
  rw [Bool.and_eq_true] at h1 h2
  exact ⟨_, _, rx.dp h1.1, ry.dp h2.1, h1.2, h2.2, k _ h⟩
theorem ref_ne {K : Fg} : RefCmp K rrNe (rNeD K) := by
  intro x y P v u H g Q rg rx ry k ⟨h1, h2, h⟩
  unfold okD at h1 h2
  rw [Bool.and_eq_true] at h1 h2
  exact ⟨_, _, rx.dp h1.1, ry.dp h2.1, h1.2, h2.2, k _ h⟩
def rrIsN : RR2 := fun x y _ P => match y with | .non => P (.bl (match x with | .non => true | _ => false)) | _ => False
def rrNotN : RR2 := fun x y _ P => match y with | .non => P (.bl (match x with | .non => false | _ => true)) | _ => False
theorem ref_isN {K : Fg} : RefCmp K rrIsN (fun x y H Q => y = .non ∧ Q (.bl (decide (x = .non))) H) := by
  intro x y P v u H g Q rg rx ry k h
  unfold rrIsN at h
  split at h
  · cases ry
    refine ⟨rfl, ?_⟩
    cases rx <;> exact k _ h
  · exact h.elim
theorem ref_notN {K : Fg} : RefCmp K rrNotN (fun x y H Q => y = .non ∧ Q (.bl (!decide (x = .non))) H) := by
  intro x y P v u H g Q rg rx ry k h
  unfold rrNotN at h
  split at h
  · cases ry
    refine ⟨rfl, ?_⟩
    cases rx <;> exact k _ h
  · exact h.elim

/-! ### built-ins -/
def intsD : List DV → Option (List Int)
  | [] => some []
  | .int i :: ds => (intsD ds).map (i :: ·)
  | _ :: _ => none
theorem intsD_map : ∀ ns : List Int, intsD (ns.map DV.int) = some ns
  | [] => rfl
  | n :: ns => by rw [List.map_cons, intsD, intsD_map ns]; rfl
theorem intsD_of : ∀ {ds : List DV} {ns : List Int}, intsD ds = some ns → ds = ns.map DV.int
  | [], _, h => by cases h; rfl
  | d :: ds, ns, h => by
    cases d <;> first
      | (rename_i i; rw [intsD] at h
         cases e : intsD ds with
         | none => rw [e] at h; cases h
         | some ms => rw [e] at h; cases h; rw [intsD_of e]; rfl)
      | cases h
def blsD : List DV → Option (List Bool)
  | [] => some []
  | .bl i :: ds => (blsD ds).map (i :: ·)
  | _ :: _ => none
theorem blsD_map : ∀ ns : List Bool, blsD (ns.map DV.bl) = some ns
  | [] => rfl
  | n :: ns => by rw [List.map_cons, blsD, blsD_map ns]; rfl
theorem blsD_of : ∀ {ds : List DV} {ns : List Bool}, blsD ds = some ns → ds = ns.map DV.bl
  | [], _, h => by cases h; rfl
  | d :: ds, ns, h => by
    cases d <;> first
      | (rename_i i; rw [blsD] at h
         cases e : blsD ds with
         | none => rw [e] at h; cases h
         | some ms => rw [e] at h; cases h; rw [blsD_of e]; rfl)
      | cases h
def rr1 (f : DV → DG → (DV → Prop) → Prop) : RRs := fun xs g P => match xs with | [x] => f x g P | _ => False
def rr2 (f : DV → DV → DG → (DV → Prop) → Prop) : RRs := fun xs g P => match xs with | [x, y] => f x y g P | _ => False
theorem rr1_of {K : Fg} {H : Hp} {f : DV → DG → (DV → Prop) → Prop} {xs : List DV} {vs : List V} {g : DG} {P : DV → Prop} (r : RDs K H xs vs) (h : rr1 f xs g P) : ∃ x v, xs = [x] ∧ vs = [v] ∧ RD K H x v ∧ f x g P := by
  match xs, vs, r with
  | [x], [v], .cons r .nil => exact ⟨x, v, rfl, rfl, r, h⟩
  | [], _, _ => exact False.elim h
  | _ :: _ :: _, _, _ => exact False.elim h
theorem rr2_of {K : Fg} {H : Hp} {f : DV → DV → DG → (DV → Prop) → Prop} {xs : List DV} {vs : List V} {g : DG} {P : DV → Prop} (r : RDs K H xs vs) (h : rr2 f xs g P) : ∃ x y v u, xs = [x, y] ∧ vs = [v, u] ∧ RD K H x v ∧ RD K H y u ∧ f x y g P := by
  match xs, vs, r with
  | [x, y], [v, u], .cons r (.cons r' .nil) => exact ⟨x, y, v, u, rfl, rfl, r, r', h⟩
  | [], _, _ => exact False.elim h
  | [_], _, _ => exact False.elim h
  | _ :: _ :: _ :: _, _, _ => exact False.elim h
def rrLen : RRs := rr1 fun x g P => match seqD g x with | some ds => P (.int ds.length) | none => False
theorem ref_len {K : Fg} : RefCall K rrLen (fun xs H Q => ∃ p ys, xs = [.ref p] ∧ (SqL K H p ys ∨ SqT K H p ys) ∧ Q (.int ys.length) H) := by
  intro xs P vs H g Q rg r k h
  obtain ⟨x, v, rfl, rfl, rx, h⟩ := rr1_of r h
  split at h
  · rename_i ds e
    obtain ⟨a, us, rfl, hq, hr⟩ := seqD_of rg rx e
    exact ⟨a, us, rfl, hq, .inl (by rw [← hr.length]; exact k _ _ H Ext.refl rg (.int _) h)⟩
  · exact h.elim
def rrInt : RRs := rr1 fun x _ P => match x with | .int i => P (.int i) | .bl b => P (.int (if b then 1 else 0)) | _ => False
theorem ref_int {K : Fg} : RefCall K rrInt (fun xs H Q => (∃ i, xs = [.int i] ∧ Q (.int i) H) ∨ ∃ k, xs = [.bl k] ∧ Q (.int (if k then 1 else 0)) H) := by
  intro xs P vs H g Q rg r k h
  obtain ⟨x, v, rfl, rfl, rx, h⟩ := rr1_of r h
  split at h
  · cases rx; exact .inl ⟨_, rfl, .inl (k _ _ H Ext.refl rg (.int _) h)⟩
  · cases rx; exact .inr ⟨_, rfl, .inl (k _ _ H Ext.refl rg (.int _) h)⟩
  · exact h.elim
def rrAbs : RRs := rr1 fun x _ P => match x with | .int i => P (.int (if i < 0 then -i else i)) | _ => False
theorem ref_abs {K : Fg} : RefCall K rrAbs (fun xs H Q => ∃ i, xs = [.int i] ∧ Q (.int (if i < 0 then -i else i)) H) := by
  intro xs P vs H g Q rg r k h
  obtain ⟨x, v, rfl, rfl, rx, h⟩ := rr1_of r h
  split at h
  · cases rx; exact ⟨_, rfl, .inl (k _ _ H Ext.refl rg (.int _) h)⟩
  · exact h.elim
def rrII (f : Int → Int → Int) : RRs := rr2 fun x y _ P => match x, y with | .int i, .int j => P (.int (f i j)) | _, _ => False
theorem ref_II {K : Fg} {f : Int → Int → Int} : RefCall K (rrII f) (fun xs H Q => ∃ i j, xs = [.int i, .int j] ∧ Q (.int (f i j)) H) := by
  intro xs P vs H g Q rg r k h
  obtain ⟨x, y, v, u, rfl, rfl, rx, ry, h⟩ := rr2_of r h
  split at h
  · cases rx; cases ry; exact ⟨_, _, rfl, .inl (k _ _ H Ext.refl rg (.int _) h)⟩
  · exact h.elim
abbrev rrMax : RRs := rrII fun i j => if j > i then j else i
abbrev rrMin : RRs := rrII fun i j => if j < i then j else i
def rrSum : RRs := rr1 fun x g P => match lstD g x with | some ds => (match intsD ds with | some ns => P (.int ns.sum) | none => False) | none => False
theorem ref_sum {K : Fg} : RefCall K rrSum (rSum K) := by
  intro xs P vs H g Q rg r k h
  obtain ⟨x, v, rfl, rfl, rx, h⟩ := rr1_of r h
  split at h
  · rename_i ds e
    split at h
    · rename_i ns e2
      obtain ⟨a, us, rfl, hq, hr, _⟩ := lstD_of rg rx e
      rw [intsD_of e2] at hr
      rw [hr.ints] at hq
      exact ⟨a, ns, rfl, hq, .inl (k _ _ H Ext.refl rg (.int _) h)⟩
    · exact h.elim
  · exact h.elim
def rrBs (f : List Bool → Bool) : RRs := rr1 fun x g P => match lstD g x with | some ds => (match blsD ds with | some ns => P (.bl (f ns)) | none => False) | none => False
theorem ref_bs {K : Fg} {f : List Bool → Bool} : RefCall K (rrBs f) (fun vs H Q => ∃ (a : Addr) (bs : List Bool), vs = [V.ref a] ∧ SqL K H a (bs.map V.bl) ∧ Q (.bl (f bs)) H) := by
  intro xs P vs H g Q rg r k h
  obtain ⟨x, v, rfl, rfl, rx, h⟩ := rr1_of r h
  split at h
  · rename_i ds e
    split at h
    · rename_i ns e2
      obtain ⟨a, us, rfl, hq, hr, _⟩ := lstD_of rg rx e
      rw [blsD_of e2] at hr
      rw [hr.bls] at hq
      exact ⟨a, ns, rfl, hq, .inl (k _ _ H Ext.refl rg (.bl _) h)⟩
    · exact h.elim
  · exact h.elim
abbrev rrAll : RRs := rrBs fun bs => bs.all id
abbrev rrAny : RRs := rrBs fun bs => bs.any id
def rrTuple : RRs := rr1 fun x g P => match seqD g x with | some ds => P (.tup ds) | none => False
theorem ref_tuple {K : Fg} : RefCall K rrTuple (fun xs H Q => ∃ p ys, xs = [.ref p] ∧ ((SqL K H p ys ∧ ∀ l, H l = none → Q (.ref l) (upd H l (.tup ys))) ∨ (SqT K H p ys ∧ Q (.ref p) H))) := by
  intro xs P vs H g Q rg r k h
  obtain ⟨x, v, rfl, rfl, rx, h⟩ := rr1_of r h
  split at h
  · rename_i ds e
    obtain ⟨a, us, rfl, hq, hr⟩ := seqD_of rg rx e
    rcases hq with hq | hq
    · exact ⟨a, us, rfl, .inl ⟨hq, fun p hp => tup_lift rg k hr h p hp⟩⟩
    · exact ⟨a, us, rfl, .inr ⟨hq, .inl (k _ _ H Ext.refl rg (.tup hq hr) h)⟩⟩
  · exact h.elim
def rrList : RRs := rr1 fun x g P => match seqD g x with | some ds => P (.lst ds) | none => False
theorem ref_list {K : Fg} : RefCall K rrList (fun xs H Q => ∃ p ys, xs = [.ref p] ∧ (SqL K H p ys ∨ SqT K H p ys) ∧ ∀ l, H l = none → Q (.ref l) (upd H l (.lst ys))) := by
  intro xs P vs H g Q rg r k h
  obtain ⟨x, v, rfl, rfl, rx, h⟩ := rr1_of r h
  split at h
  · rename_i ds e
    obtain ⟨a, us, rfl, hq, hr⟩ := seqD_of rg rx e
    exact ⟨a, us, rfl, hq, fun p hp => fz_lift rg k hr h p hp⟩
  · exact h.elim
end
end DL

/-! Deep layer F: methods of lists, slices, sorted, isinstance, stars. -/
namespace DL
open PySem PyProof.Rows PySem.Spec L2
section
variable {X : Cx} {pos apos cpos : Pos} {o e : Expr} {es : List Expr} {to te : TDE} {t : TDA} {name : Str} {id : String} {R : V → List V → Hp → VK → Prop}
/-! ### methods of lists -/
abbrev RRm := DV → List DV → DG → (DV → DG → Prop) → Prop
def dMt (r : RRm) (to : TDE) (t : TDA) : TDE := fun δ g Q => to δ g fun x g1 => (lstD g1 x).isSome = true ∧ t δ g1 fun xs g2 => r x xs g2 Q
def dMt0 (r : RRm) (to : TDE) : TDE := fun δ g Q => to δ g fun x g1 => (lstD g1 x).isSome = true ∧ r x [] g1 Q
def RefMt (K : Fg) (r : RRm) (R : V → List V → Hp → VK → Prop) : Prop := ∀ (x : DV) (xs : List DV) (P : DV → DG → Prop) (v : V) (vs : List V) (H : Hp) (g : DG) (Q : VK), RG K H g → RD K H x v → RDs K H xs vs →
  (∀ z g' w H', Ext g H g' H' → RG K H' g' → RD K H' z w → P z g' → Q w H') → r x xs g P → R v vs H Q
theorem lst_tyV {K : Fg} {H : Hp} {g : DG} {x : DV} {v : V} (rg : RG K H g) (r : RD K H x v) (h : (lstD g x).isSome = true) : tyV K "list" v H := by
  cases e : lstD g x with
  | none => rw [e] at h; cases h
  | some ds =>
    obtain ⟨a, vs, rfl, hwz1, _⟩ := lstD_of rg r e
    exact Or.inl ⟨rfl, vs, hwz1⟩
theorem pd_bm {r : RRm} (slot : Slot "list" name id) (hty : typeOf (.builtin id) = pure (.type "method_descriptor")) (hm : MtR X id R) (rf : RefMt X.K r R) (ho : PE X o (upE X.K to)) (ha : PA X (e :: es) (upA X.K t))
    (hw6 : attributeBase o name X.env (eval o X.env) = eval o X.env := by rfl)
    (hw4 : ((backTo cpos (starEach (e :: es) X.env)).all (fun x => !x.1) && (backToKw cpos (keywordEach [] X.env)).all (fun x => x.1.isSome)
      && decide ((e :: es).length + ([] : List Keyword).length + (if ([] : List Keyword).isEmpty then 0 else 1) < 30)) = true := by rfl)
    (hw5 : (apos.endLine == cpos.line) = true := by rfl) (hs : starEach (e :: es) X.env = (false, eval e X.env) :: starEach es X.env := by rfl) (hplain : (backTo cpos (starEach es X.env)).any (·.1) = false := by rfl) :
    PE X (.Call (.Attribute o name apos) (e :: es) [] cpos) (upE X.K (dMt r to t)) :=
  PE_weak (pe_bm PySem.F.plainAttrs_list slot hty hm ho ha hw6 hw4 hw5 hs hplain) fun σ H Q ⟨δ, g, P, rs, rg, h, k⟩ => ⟨δ, g, _, rs, rg, h, fun d g1 v Huz e1 rg1 rd1 h1 =>
    ⟨lst_tyV rg1 rd1 h1.1, δ, g1, _, rs.mono (e1.kp rg), rg1, h1.2, fun xs g2 vs H2 e2 rg2 rd2 h2 => rf d xs P v vs H2 g2 Q rg2 (rd1.mono (e2.kp rg1)) rd2 (fun z g' w H' e rg' rd' p => k z g' w H' ((e1.trans e2).trans e) rg' rd' p) h2⟩⟩
theorem pd_bm0 {r : RRm} (slot : Slot "list" name id) (hty : typeOf (.builtin id) = pure (.type "method_descriptor")) (hm : MtR X id R) (rf : RefMt X.K r R) (ho : PE X o (upE X.K to))
    (hbase : attributeBase o name X.env (eval o X.env) = eval o X.env := by rfl) (hline : (apos.endLine == cpos.line) = true := by rfl) : PE X (.Call (.Attribute o name apos) [] [] cpos) (upE X.K (dMt0 r to)) :=
  PE_weak (pe_bm0 PySem.F.plainAttrs_list slot hty hm ho hbase hline) fun σ H Q ⟨δ, g, P, rs, rg, h, k⟩ => ⟨δ, g, _, rs, rg, h, fun d g1 v H1 e1 rg1 rd1 h1 =>
    ⟨lst_tyV rg1 rd1 h1.1, rf d [] P v [] H1 g1 Q rg1 rd1 .nil (fun z g' w H' e rg' rd' p => k z g' w H' (e1.trans e) rg' rd' p) h1.2⟩⟩
/-- a list that is changed: what stands at it, then what follows -/
def atL (x : DV) (g : DG) (F : Addr → List DV → Prop) : Prop := match x with | .ref p => (match g p with | some (.lst ds) => F p ds | none => False) | _ => False
theorem atL_of {K : Fg} {H : Hp} {g : DG} {x : DV} {v : V} {F : Addr → List DV → Prop} (rg : RG K H g) (r : RD K H x v) (h : atL x g F) : ∃ p ds vs, x = .ref p ∧ v = .ref p ∧ g p = some (.lst ds) ∧ H p = some (.lst vs) ∧ RDs K H ds vs ∧ F p ds := by
  unfold atL at h
  split at h
  · cases r
    split at h
    · rename_i e
      obtain ⟨vs, q, rd⟩ := rg _ _ e
      exact ⟨_, _, vs, rfl, rfl, e, q, rd, h⟩
    · exact h.elim
  · exact h.elim
def rmAppend : RRm := fun x xs g P => match xs with | [y] => atL x g fun p ds => ds.length < sizeLine ∧ P .non (gup g p (.lst (ds ++ [y]))) | _ => False
theorem ref_append {K : Fg} : RefMt K rmAppend rAppend := by
  intro x xs P v vs H g Q rg rx rxs k h
  unfold rmAppend at h
  split at h
  · obtain ⟨u, rfl, ru⟩ := rxs.inj1
    obtain ⟨p, ds, ws, rfl, rfl, eg, eh, rd, hl, h⟩ := atL_of rg rx h
    exact ⟨p, ws, u, rfl, rfl, eh, by rw [← rd.length]; exact hl, k _ _ _ _ (Ext.set eg) (rg.set eg (rd.append (.one ru))) .non h⟩
  · exact h.elim
def rmExtend : RRm := fun x xs g P => match xs with | [y] => (match y with | .lst es => atL x g fun p ds => ds.length + es.length ≤ sizeLine ∧ P .non (gup g p (.lst (ds ++ es))) | _ => False) | _ => False
def rExtF : V → List V → Hp → VK → Prop := fun x vs H Q => ∃ l b xs zs, x = .ref l ∧ vs = [.ref b] ∧ H l = some (.lst xs) ∧ Rd H b (.lst zs) ∧ xs.length + zs.length ≤ sizeLine ∧ Q .non (upd H l (.lst (xs ++ zs)))
theorem mt_extF : MtM X "list.extend" rExtF := by
  intro pinz s σ H x vs v us Q Iwz rx ruz1 h
  obtain ⟨l, b, xs, zs, rfl, rfl, hI1, hI2, hv1, q⟩ := h
  cases rx
  obtain ⟨u, rfl, ru⟩ := ruz1.one
  cases ru
  obtain ⟨z, itz1, n, r, hl, e⟩ := Iwz.lstM hI1
  obtain ⟨z2, itz2, n2, r2, hl2, e2⟩ := Inv.lstR Iwz hI2
  have hw2 : itz1.toArray.size + itz2.toArray.size ≤ sizeLine := by rw [List.size_toArray, List.size_toArray]; omega
  have hw3 : ¬ (!itz1.toArray.isEmpty && Builtin.List.listTooLong (itz1.toArray.size + itz2.toArray.size)) = true := by
    rw [notLongL hw2, Bool.and_false]
    exact Bool.false_ne_true
  refine call_meets F.slot_list_extend ⟨_, e, rfl⟩ F.entry_list_extend (F.args_list_extend_2 _ _)
    (AutoSeq1.list_extend_list_list_0 l itz1.toArray n b itz2.toArray n2 hw3 (by rw [List.size_toArray]; omega) (by omega)) ⟨e, e2, ?_⟩
  refine ⟨.non, _, Iwz.lset (its' := itz1 ++ itz2) hI1 e (by simp) (r.append r2) ?_, rfl, q⟩
  rw [List.length_append]
  omega
theorem ref_extend {K : Fg} : RefMt K rmExtend rExtF := by
  intro x xs P v vs H g Q rg rx rxs k h
  unfold rmExtend at h
  split at h
  · obtain ⟨u, rfl, ru⟩ := rxs.inj1
    split at h
    · obtain ⟨p, ds, ws, rfl, rfl, eg, eh, rd, hl, h⟩ := atL_of rg rx h
      cases ru with
      | lst hs hr =>
      obtain ⟨o, e'⟩ := hs
      exact ⟨p, _, ws, _, rfl, rfl, eh, .inr ⟨o, e'⟩, by rw [← rd.length, ← hr.length]; exact hl, k _ _ _ _ (Ext.set eg) (rg.set eg (rd.append hr)) .non h⟩
    · exact h.elim
  · exact h.elim
def rmPop : RRm := fun x xs g P => match xs with | [] => atL x g fun p ds => (match ds[ds.length - 1]? with | some y => P y (gup g p (.lst ds.dropLast)) | none => False) | _ => False
theorem ref_pop {K : Fg} : RefMt K rmPop rPop := by
  intro x xs P v vs H g Q rg rx rxs k h
  unfold rmPop at h
  split at h
  · cases rxs
    obtain ⟨p, ds, ws, rfl, rfl, eg, eh, rd, h⟩ := atL_of rg rx h
    split at h
    · rename_i y ey
      obtain ⟨u, hu, ru⟩ := rd.get ey
      rw [rd.length] at hu
      refine ⟨p, ws, u, rfl, rfl, eh, hu, k _ _ _ _ (Ext.set eg) (rg.set eg rd.dropLast) (ru.mono (Kp.mut (by rw [eh]; exact True.intro))) h⟩
    · exact h.elim
  · exact h.elim
theorem pd_append (ho : PE X o (upE X.K to)) (ha : PA X [e] (upA X.K t)) (hw6 : attributeBase o "append" X.env (eval o X.env) = eval o X.env := by rfl)
    (hw4 : ((backTo cpos (starEach [e] X.env)).all (fun x => !x.1) && (backToKw cpos (keywordEach [] X.env)).all (fun x => x.1.isSome)
      && decide ([e].length + ([] : List Keyword).length + (if ([] : List Keyword).isEmpty then 0 else 1) < 30)) = true := by rfl)
    (hw5 : (apos.endLine == cpos.line) = true := by rfl) (hs : starEach [e] X.env = (false, eval e X.env) :: starEach [] X.env := by rfl) : PE X (.Call (.Attribute o "append" apos) [e] [] cpos) (upE X.K (dMt rmAppend to t)) :=
  pd_bm PySem.F.slot_list_append PySem.F.type_list_append mt_append ref_append ho ha hw6 hw4 hw5 hs rfl
theorem pd_extend (ho : PE X o (upE X.K to)) (ha : PA X [e] (upA X.K t)) (hw6 : attributeBase o "extend" X.env (eval o X.env) = eval o X.env := by rfl)
    (hw4 : ((backTo cpos (starEach [e] X.env)).all (fun x => !x.1) && (backToKw cpos (keywordEach [] X.env)).all (fun x => x.1.isSome)
      && decide ([e].length + ([] : List Keyword).length + (if ([] : List Keyword).isEmpty then 0 else 1) < 30)) = true := by rfl)
    (hw5 : (apos.endLine == cpos.line) = true := by rfl) (hs : starEach [e] X.env = (false, eval e X.env) :: starEach [] X.env := by rfl) : PE X (.Call (.Attribute o "extend" apos) [e] [] cpos) (upE X.K (dMt rmExtend to t)) :=
  pd_bm PySem.F.slot_list_extend PySem.F.type_list_extend mt_extF ref_extend ho ha hw6 hw4 hw5 hs rfl
theorem pd_pop (ho : PE X o (upE X.K to)) (hbase : attributeBase o "pop" X.env (eval o X.env) = eval o X.env := by rfl) (hline : (apos.endLine == cpos.line) = true := by rfl) : PE X (.Call (.Attribute o "pop" apos) [] [] cpos) (upE X.K (dMt0 rmPop to)) :=
  pd_bm0 PySem.F.slot_list_pop PySem.F.type_list_pop mt_pop ref_pop ho hbase hline
/-- xs[i] = e -/
def dSetI (te to ti : TDE) : TDS := fun E δ g => te δ g fun y g1 => to δ g1 fun x g2 => ti δ g2 fun i g3 => match i with
  | .int k => atL x g3 fun p ds => (match ixN ds.length k with | some j => E.nx δ (gup g3 p (.lst (ds.set j y))) | none => False)
  | _ => False
theorem pds_setI {i : Expr} {ti : TDE} {spos : Pos} (he : PE X e (upE X.K te)) (ho : PE X o (upE X.K to)) (hi : PE X i (upE X.K ti))
    (ha : ∀ v, assign (.Subscript o i spos) X.env v = (do
      let ov1 ← holding [v] (eval o X.env)
      let iv1 ← holding [v, ov1] (eval i X.env)
      standAt spos
      holding [v, ov1, iv1] (setItem ov1 iv1 v)
      release [v, ov1, iv1] []) := by intro _; rfl) (hs : swapsWithSole [.Subscript o i spos] e pos.line X.env = pure false := by rfl) (hw : swappedStores [.Subscript o i spos] e X.env = pure none := by rfl)
    (h1 : (assignEach [.Subscript o i spos] X.env).map (·.2) = [assign (.Subscript o i spos) X.env] := by rfl) : PS X (.Assign [.Subscript o i spos] e pos) (upS X.K (dSetI te to ti)) :=
  PS_weak (ps_asg he (pg_sub ho hi set_list ha) hs hw h1) fun D σ H ⟨δ, g, E, rs, rg, h, k1, _⟩ => ⟨δ, g, _, rs, rg, h, fun y g1 v Huz e1 rg1 rd1 h1 => ⟨δ, g1, _, rs.mono (e1.kp rg), rg1, h1, fun x g2 u H2 e2 rg2 rd2 h2 =>
    ⟨δ, g2, _, rs.mono ((e1.trans e2).kp rg), rg2, h2, fun z g3 w H3 e3 rg3 rd3 h3 => by
      split at h3
      · cases rd3
        obtain ⟨p, ds, ws, rfl, rfl, eg, eh, rd, h3⟩ := atL_of rg3 (rd2.mono (e3.kp rg2)) h3
        split at h3
        · rename_i j ej
          rw [rd.length] at ej
          have km : Kp H3 (upd H3 p (.lst (ws.set j v))) := Kp.mut (by rw [eh]; exact True.intro)
          exact ⟨p, ws, _, j, rfl, rfl, eh, ej, k1 _ _ _ _ ((e1.trans e2).trans (e3.trans (Ext.set eg))) (rg3.set eg (rd.set ((rd1.mono (e2.kp rg1)).mono (e3.kp rg2)) j)) ((rs.mono ((e1.trans (e2.trans e3)).kp rg)).mono km) h3⟩
        · exact h3.elim
      · exact h3.elim⟩⟩⟩

/-! ### slices -/
abbrev TDO := DS → DG → (Option Int → DG → Prop) → Prop
def upO (K : Fg) (t : TDO) : TO := fun σ H Q => ∃ δ g P, RS K H δ σ ∧ RG K H g ∧ t δ g P ∧ ∀ b g' H', Ext g H g' H' → RG K H' g' → P b g' → Q b H'
def dNoPart : TDO := fun _ g Q => Q none g
def dPart (t : TDE) : TDO := fun δ g Q => t δ g fun x g1 => match x with | .int i => Q (some i) g1 | _ => False
theorem PO_weak {X : Cx} {e : Option Expr} {t t' : TO} (h : PO X e t) (w : ∀ σ H Q, t' σ H Q → t σ H Q) : PO X e t' := ⟨fun pins s σ H Q I q => h.run pins s σ H Q I (w σ H Q q)⟩
theorem pod_none : PO X none (upO X.K dNoPart) := PO_weak po_none fun σ H Q ⟨δ, g, P, rs, rg, h, k⟩ => k _ _ _ Ext.refl rg h
theorem pod_some (h : PE X e (upE X.K te)) : PO X (some e) (upO X.K (dPart te)) := PO_weak (po_some h) fun σ H Q ⟨δ, g, P, rs, rg, h, k⟩ => ⟨δ, g, _, rs, rg, h, fun d g1 v H1 e1 rg1 rd p => by
  split at p
  · cases rd; exact ⟨_, rfl, k _ _ _ e1 rg1 p⟩
  · exact p.elim⟩
/-- the slice of a list of contents -/
def cutD (xs : List DV) (lo hi : Option Int) : List DV := (xs.drop (HT.sIx xs.length 0 lo)).take (HT.sIx xs.length xs.length hi - HT.sIx xs.length 0 lo)
theorem cut_rd {K : Fg} {H : Hp} {ds : List DV} {vs : List V} (r : RDs K H ds vs) (lo hi : Option Int) : RDs K H (cutD ds lo hi) (cutV vs lo hi) := by
  unfold cutD cutV
  rw [r.length]
  exact (r.drop _).take _
def dSl (te : TDE) (tl th : TDO) : TDE := fun δ g Q => te δ g fun x g1 => tl δ g1 fun lo g2 => th δ g2 fun hi g3 => match x with
  | .tup ds => Q (.tup (cutD ds lo hi)) g3
  | .lst ds => Q (.lst (cutD ds lo hi)) g3
  | .scr ns => Q (.lst (cutD (ns.map .int) lo hi)) g3
  | .ref p => (match g3 p with | some (.lst ds) => Q (.lst (cutD ds lo hi)) g3 | none => False)
  | _ => False
theorem pd_slice {lo hi : Option Expr} {tl th : TDO} {p2 : Pos} (he : PE X e (upE X.K te)) (hl : PO X lo (upO X.K tl)) (hu : PO X hi (upO X.K th)) : PE X (.Subscript e (.Slice lo hi none p2) pos) (upE X.K (dSl te tl th)) := by
  refine PE_weak (pe_slice ((SlR_fz sl_list).or (SlR_fz sl_tupA)) he hl hu) fun σ H Q ⟨δ, g, P, rs, rg, h, k⟩ => ⟨δ, g, _, rs, rg, h, fun x g1 v H1 e1 rg1 rd1 h1 => ⟨δ, g1, _, rs.mono (e1.kp rg), rg1, h1, fun l g2 H2 e2 rg2 h2 =>
    ⟨δ, g2, _, rs.mono ((e1.trans e2).kp rg), rg2, h2, fun u g3 H3 e3 rg3 h3 => ?_⟩⟩⟩
  have rd3 := (rd1.mono (e2.kp rg1)).mono (e3.kp rg2)
  have ee := (e1.trans e2).trans e3
  have kk : ∀ z w H', Ext g3 H3 g3 H' → RG X.K H' g3 → RD X.K H' z w → P z g3 → Q w H' := fun z w H' e rg' rd' p => k z g3 w H' (ee.trans e) rg' rd' p
  split at h3
  · cases rd3 with
    | tup hs hr =>
      refine .inr ⟨_, _, rfl, hs, fun hw => .inl ?_, fun hw p hp => tup_lift (P := fun z => P z g3) rg3 kk (cut_rd hr l u) h3 p hp⟩
      refine k _ _ _ _ ee rg3 (.tup hs ?_) h3
      unfold cutD
      rw [← hr.length] at hw
      rw [hw.1, hw.2, List.drop_zero, Nat.sub_zero, List.take_length]
      exact hr
  · cases rd3 with
    | lst hs hr => exact .inl ⟨_, _, rfl, hs.sq, fun p hp => fz_lift (P := fun z => P z g3) rg3 kk (cut_rd hr l u) h3 p hp⟩
  · cases rd3 with
    | scr hs => exact .inl ⟨_, _, rfl, hs.sq, fun p hp => fz_lift (P := fun z => P z g3) rg3 kk (cut_rd (RDs.ofInts _) l u) h3 p hp⟩
  · cases rd3
    split at h3
    · rename_i eg
      obtain ⟨vs, q, rd⟩ := rg3 _ _ eg
      exact .inl ⟨_, _, rfl, SqL.of q, fun p hp => fz_lift (P := fun z => P z g3) rg3 kk (cut_rd rd l u) h3 p hp⟩
    · exact h3.elim
  · exact h3.elim

/-! ### stars in displays -/
def dStar (te : TDE) (t : TDA) : TDA := fun δ g Q => te δ g fun x g1 => match seqD g1 x with | some ds => t δ g1 fun xs g2 => Q (ds ++ xs) g2 | none => False
theorem pda_star {p : Pos} (he : PE X e (upE X.K te)) (hr : PA X es (upA X.K t)) (hs : starEach (.Starred e p :: es) X.env = (true, eval e X.env) :: starEach es X.env := by rfl) : PA X (.Starred e p :: es) (upA X.K (dStar te t)) := by
  refine PA_weak (StX.pa_star he hr hs) fun σ H Q ⟨δ, g, P, rs, rg, h, k⟩ => ⟨δ, g, _, rs, rg, h, fun x g1 v H1 e1 rg1 rd1 h1 => ?_⟩
  split at h1
  · rename_i ds ed
    obtain ⟨a, vs, rfl, hq, hr⟩ := seqD_of rg1 rd1 ed
    exact ⟨a, vs, rfl, hq.symm, δ, g1, _, rs.mono (e1.kp rg), rg1, h1, fun xs g2 us H2 e2 rg2 rd2 h2 => k _ _ _ _ (e1.trans e2) rg2 ((hr.mono (e2.kp rg1)).append rd2) h2⟩
  · exact h1.elim

/-! ### isinstance -/
def tyNm (g : DG) : DV → Option String
  | .non => some "NoneType"
  | .bl _ => some "bool"
  | .int _ => some "int"
  | .str _ => some "str"
  | .tup _ => some "tuple"
  | .lst _ => some "list"
  | .ref p => (match g p with | some _ => some "list" | none => none)
  | .ty _ => none
  | .scr _ => none
def isiN (a T : String) : Option Bool := if T ∈ ["int", "bool", "tuple", "str", "list", "dict"] then some (a == T || (a == "bool" && T == "int")) else none
theorem isiN_kit : ∀ a ∈ ["NoneType", "bool", "int", "str", "tuple", "list"], ∀ T ∈ ["int", "bool", "tuple", "str", "list", "dict"], kitB a T = some (a == T || (a == "bool" && T == "int")) := by decide +kernel
theorem tyNm_of {K : Fg} {H : Hp} {g : DG} {x : DV} {v : V} {a : String} (rg : RG K H g) (r : RD K H x v) (h : tyNm g x = some a) : a ∈ ["NoneType", "bool", "int", "str", "tuple", "list"] ∧ TyX K H v (.type a) := by
  cases r with
  | non => cases h; exact ⟨by decide, .base .non⟩
  | bl b => cases h; exact ⟨by decide, .base (.bl b)⟩
  | int i => cases h; exact ⟨by decide, .base (.int i)⟩
  | str z => cases h; exact ⟨by decide, .base (.str z)⟩
  | ty n => cases h
  | scr _ => cases h
  | ref p =>
    have h' : (match g p with | some _ => some "list" | none => none) = some a := h
    split at h'
    · cases h'
      rename_i o e
      obtain ⟨vs, q⟩ := (rg _ _ e).some
      exact ⟨by decide, .base (.lst q)⟩
    · cases h'
  | tup hs hr =>
    cases h
    rcases hs with (hs | ⟨o, hs⟩) | ⟨o, its, n, hs, hc, _⟩
    · exact ⟨by decide, .base (.tup hs)⟩
    · exact ⟨by decide, .fTuple hs⟩
    · exact ⟨by decide, .kTuple hs hc⟩
  | lst hs hr =>
    cases h
    obtain ⟨o, hs⟩ := hs
    exact ⟨by decide, .base (.frz hs)⟩
def rrIsi : RRs := rr2 fun x y g P => match y with | .ty T => (match tyNm g x with | some a => (match isiN a T with | some b => P (.bl b) | none => False) | none => False) | _ => False
theorem ref_isi {K : Fg} : RefCall K rrIsi (rIsi K) := by
  intro xs P vs H g Q rg r k h
  obtain ⟨x, y, v, u, rfl, rfl, rx, ry, h⟩ := rr2_of r h
  split at h
  · cases ry
    split at h
    · rename_i a ea
      split at h
      · rename_i b eb
        obtain ⟨ma, ty⟩ := tyNm_of rg rx ea
        unfold isiN at eb
        split at eb
        · rename_i mT
          cases eb
          exact ⟨v, _, _, _, _, rfl, .ty _, ty, kit_ty (isiN_kit a ma _ mT), .inl (k _ _ H Ext.refl rg (.bl _) h)⟩
        · cases eb
      · exact h.elim
    · exact h.elim
  · exact h.elim
end
end DL

/-! Deep layer G: what the printed derivations and the readings lean on. -/
namespace DL
open PySem PyProof.Rows PySem.Spec L2
section
variable {X : Cx} {pos : Pos}
def dYes : TDT := fun _ g Q => Q true g
theorem ptsd_nil : PTs X [] (upT X.K dYes) := ⟨fun pins s σ H Q I ⟨δ, g, P, rs, rg, h, k⟩ => pts_nil.run pins s σ H Q I (k _ _ _ Ext.refl rg h)⟩
theorem ptsd_one {c : Expr} {t : TDT} (h : PT X c (upT X.K t)) : PTs X [c] (upT X.K t) := pts_one h
theorem pgd_nm {i : Nat} {x : Str} (hN : X.N.Nodup) (hi : X.N[i]? = some x := by rfl) (hx : Loc X.env.scope x := by first | exact Or.inl rfl | exact Or.inr rfl) (hf : X.fn x = true ∨ X.env.scope.names.lookup x = some .local := by first | exact .inl rfl | exact .inr rfl) : PG X (.Name x pos) (tgG X.K (.nm i)) := pg_name hN hi hx hf
theorem pgd_tp {es : List Expr} {k : Nat} {is : List Nat} (hc : X.calm = true) (h : PGs X es (gAll is)) (hn : (assignEach es X.env).length = is.length := by rfl) (hst : (assignEach es X.env).findIdx? (·.1) = none := by rfl) : PG X (.Tuple es k pos) (tgG X.K (.tp is)) := pg_tup hc h hn hst
theorem pgd_nil : PGs X [] (gAll []) := pgs_nil
theorem pgd_cons {i : Nat} {is : List Nat} {e : Expr} {es : List Expr} (h1 : PG X e (tgG X.K (.nm i))) (h2 : PGs X es (gAll is)) (hs : (assignEach (e :: es) X.env).map (·.2) = assign e X.env :: (assignEach es X.env).map (·.2) := by rfl) : PGs X (e :: es) (gAll (i :: is)) := pgs_cons h1 h2 hs
/-- x op= e of ints -/
theorem pds_aug {i : Nat} {x : Str} {e : Expr} {te : TDE} {op : Operator} {r : RR2} {R : R2} {pos' : Pos} (hN : X.N.Nodup) (ho : OpR X (inplaceOp op) R) (rf : RefOp X.K r R) (he : PE X e (upE X.K te)) (hi : X.N[i]? = some x := by rfl) (hx : Loc X.env.scope x := by first | exact Or.inl rfl | exact Or.inr rfl)
    (hf : X.fn x = true ∨ X.env.scope.names.lookup x = some .local := by first | exact .inl rfl | exact .inr rfl) : PS X (.AugAssign (.Name x pos') op e pos) (upS X.K (dAsg (.nm i) (dOp r (dVar i) te))) := by
  have hp : PIp X op (fun x y H Q => R x y H (fz Q)) := fun pins s σ H x y v u Q I rx ry q => OpR_fz ho pins s σ H x y v u Q I rx ry q
  refine PS_weak (ps_aug hN hi hx he hp hf) fun D σ H ⟨δ, g, E, rs, rg, h, k1, _⟩ => ?_
  have h' : (match nth δ i with | some d => te δ g (fun y g2 => r d y g2 fun z => E.nx (δ.set i (some z)) g2) | none => False) := h
  split at h'
  · rename_i d ed
    obtain ⟨v, hv, rd⟩ := rs.2 i d (nth_get ed)
    refine ⟨v, hv, δ, g, _, rs, rg, h', fun y g2 u H2 e2 rg2 rd2 h2 => ?_⟩
    exact rf d y _ v u H2 g2 _ rg2 (rd.mono (e2.kp rg)) rd2 (fun z w H' e rg' rd' p => k1 _ _ _ _ (e2.trans e) rg' ((rs.mono ((e2.trans e).kp rg)).set i rd') p) h2
  · exact h'.elim
theorem iop_addC : OpR X (inplaceOp .Add) (rI TT2 fun i j => .int (i + j)) := fun pins s σ H x y v u Q I rx ry ⟨i, j, h1, h2, _, q⟩ => iop_add pins s σ H x y v u Q I rx ry ⟨i, j, h1, h2, q⟩
theorem iop_subC : OpR X (inplaceOp .Sub) (rI TT2 fun i j => .int (i - j)) := fun pins s σ H x y v u Q I rx ry ⟨i, j, h1, h2, _, q⟩ => iop_sub pins s σ H x y v u Q I rx ry ⟨i, j, h1, h2, q⟩
theorem iop_mulW : OpR X (inplaceOp .Mult) (rI CMulW fun i j => .int (i * j)) := opI fun _ _ _ _ _ _ _ hc q => imul_int q hc.ok
abbrev rrAddI : RR2 := rrI TT2 fun i j => .int (i + j)

/-! ### sorted -/
def dleD (a b : DV) : Bool := !W.dataLt b.py a.py
def SortOk (ds : List DV) : Prop := plAll ds = true ∧ W.AllAlike (ds.map DV.py) ∧ W.Sortable (ds.map DV.py) ∧ ∀ d ∈ ds, d.py.depth ≤ 60
def rrSorted : RRs := rr1 fun x g P => match lstD g x with | some ds => SortOk ds ∧ P (.lst (ds.mergeSort dleD)) | none => False
def RSortD (K : Fg) : List V → Hp → VK → Prop := fun vs H Q => ∃ (a : Addr) (L : List (DV × V)), vs = [.ref a] ∧ SqL K H a (L.map Prod.snd) ∧ (∀ p ∈ L, RD K H p.1 p.2) ∧ SortOk (L.map Prod.fst) ∧
  ∀ p, H p = none → Q (.ref p) (upd H p (.lst ((L.mergeSort fun a b => dleD a.1 b.1).map Prod.snd)))
theorem each_L {K : Fg} {H : Hp} : ∀ {L : List (DV × V)} {its : List Value}, Vals (L.map Prod.snd) its → W.EachIs (fun (u : Value) (b : DV × V) => RelV b.2 u) its L
  | [], _, r => by cases r; exact .nil
  | _ :: _, _, r => by
    cases r with
    | cons r1 r2 => exact .cons r1 (each_L (K := K) (H := H) r2)
theorem vals_L : ∀ {L : List (DV × V)} {its : List Value}, W.EachIs (fun (u : Value) (b : DV × V) => RelV b.2 u) its L → Vals (L.map Prod.snd) its
  | _, _, .nil => .nil
  | _, _, .cons r1 r2 => .cons r1 (vals_L r2)
theorem reads_L {pins : List (Addr × Obj)} {σ : L2.St} {H : Hp} {s : Shared} (I : Inv X pins σ H s) : ∀ {L : List (DV × V)} {its : List Value}, (∀ p ∈ L, RD X.K H p.1 p.2) → plAll (L.map Prod.fst) = true → Vals (L.map Prod.snd) its →
    W.EachIs (fun (u : Value) (b : DV × V) => ∃ as, Reads s.heap u b.1.py as) its L
  | [], _, _, _, r => by cases r; exact .nil
  | b :: L, _, hr, hp, r => by
    cases r with
    | cons r1 r2 =>
      rw [List.map_cons, plAll, Bool.and_eq_true] at hp
      exact .cons (Dp.reads I _ _ _ ((hr b List.mem_cons_self).dp hp.1) r1) (reads_L I (fun p hp => hr p (List.mem_cons_of_mem _ hp)) hp.2 r2)
theorem cr_sortedD (hu : X.A.units + 64 < cLine) : CallR X (.builtin "sorted") (RSortD X.K) := by
  intro pinz s σ H vs us Q Iwz r h
  obtain ⟨a, L, rfl, hwz1, hr, ⟨suz, s2, s3, s4⟩, q⟩ := h
  rw [Vals.ref1 r]
  obtain ⟨itz1, ruz1, pl, hv1⟩ := Iwz.list hwz1
  have hlen : itz1.length = L.length := by rw [← ruz1.length, List.length_map]
  have e1 : L.map (fun b : DV × V => b.1.py) = (L.map Prod.fst).map DV.py := by rw [List.map_map]; rfl
  have hL : L.length ≤ sizeLine := by rw [List.length_map] at hv1; exact hv1
  refine PySem.W.sorted_data (bs := L) (enc := fun b : DV × V => b.1.py) (R := fun u b => RelV b.2 u) pl.isList (each_L (K := X.K) (H := H) ruz1) (reads_L Iwz hr suz ruz1) (by rw [e1]; exact s2) (by rw [e1]; exact s3) hL ?_ ?_
  · intro b hb
    have := s4 b.1 (List.mem_map.mpr ⟨b, hb, rfl⟩)
    omega
  · intro out ho eo
    have ev := vals_L eo
    rw [show PySem.W.dataLe false (fun b : DV × V => b.1.py) = fun a b => dleD a.1 b.1 from PySem.W.dataLe_eq false _] at ev
    obtain ⟨c, hc⟩ := sortedAll_at s.heap itz1 (List.toArray out)
    have hn : H (s.heap.objs.size + 1) = none := Iwz.hok.fresh (Nat.le_succ _)
    refine ⟨.ref _, _, Iwz.laid (t' := s.toks) (fun _ _ z => sortedAll_old z) (Nat.le_succ _) (?_ : ObjOk X.prog X.w _ _ _ (.lst _)), rfl, q _ hn⟩
    exact ⟨by rw [List.length_map, List.length_mergeSort]; exact hL, out, c, ev, hc⟩
theorem zip_rd {K : Fg} {H : Hp} : ∀ {ds : List DV} {vs : List V}, RDs K H ds vs → (ds.zip vs).map Prod.fst = ds ∧ (ds.zip vs).map Prod.snd = vs ∧ ∀ p ∈ ds.zip vs, RD K H p.1 p.2
  | _, _, .nil => ⟨rfl, rfl, fun _ h => by cases h⟩
  | d :: _, v :: _, .cons r t => by
    obtain ⟨h1, h2, h3⟩ := zip_rd t
    refine ⟨by rw [List.zip_cons_cons, List.map_cons, h1], by rw [List.zip_cons_cons, List.map_cons, h2], fun p hp => ?_⟩
    rw [List.zip_cons_cons] at hp
    rcases (List.mem_cons.mp hp) with e | e
    · subst e; exact r
    · exact h3 p e
theorem rds_pairs {K : Fg} {H : Hp} : ∀ {L : List (DV × V)}, (∀ p ∈ L, RD K H p.1 p.2) → RDs K H (L.map Prod.fst) (L.map Prod.snd)
  | [], _ => .nil
  | b :: L, h => .cons (h b List.mem_cons_self) (rds_pairs fun p hp => h p (List.mem_cons_of_mem _ hp))
theorem ref_sorted {K : Fg} : RefCall K rrSorted (RSortD K) := by
  intro xs P vs H g Q rg r k h
  obtain ⟨x, v, rfl, rfl, rx, h⟩ := rr1_of r h
  split at h
  · rename_i ds e
    obtain ⟨a, us, rfl, hq, hr, _⟩ := lstD_of rg rx e
    obtain ⟨z1, z2, z3⟩ := zip_rd hr
    refine ⟨a, ds.zip us, rfl, by rw [z2]; exact hq, z3, by rw [z1]; exact h.1, fun p hp => ?_⟩
    have hm : ((ds.zip us).mergeSort fun a b => dleD a.1 b.1).map Prod.fst = ds.mergeSort dleD := by
      rw [List.map_mergeSort (s := dleD) (fun _ _ _ _ => rfl), z1]
    refine fz_lift rg k (ds := ds.mergeSort dleD) ?_ h.2 p hp
    rw [← hm]
    exact rds_pairs fun p hp => z3 p (List.mem_mergeSort.mp hp)
  · exact h.elim
end

/-! ### promises by the number of arguments -/
def sp0 (f : DG → (DV → DG → Prop) → Prop) : SpD := fun ds g P => match ds with | [] => f g P | _ => False
def sp1 (f : DV → DG → (DV → DG → Prop) → Prop) : SpD := fun ds g P => match ds with | [a] => f a g P | _ => False
def sp2 (f : DV → DV → DG → (DV → DG → Prop) → Prop) : SpD := fun ds g P => match ds with | [a, b] => f a b g P | _ => False
def sp3 (f : DV → DV → DV → DG → (DV → DG → Prop) → Prop) : SpD := fun ds g P => match ds with | [a, b, c] => f a b c g P | _ => False
def sp4 (f : DV → DV → DV → DV → DG → (DV → DG → Prop) → Prop) : SpD := fun ds g P => match ds with | [a, b, c, d] => f a b c d g P | _ => False
theorem sp0_of {f} {ds : List DV} {g : DG} {P : DV → DG → Prop} (h : sp0 f ds g P) : ds = [] ∧ f g P := by
  match ds, h with
  | [], h => exact ⟨rfl, h⟩
theorem sp1_of {f} {ds : List DV} {g : DG} {P : DV → DG → Prop} (h : sp1 f ds g P) : ∃ a, ds = [a] ∧ f a g P := by
  match ds, h with
  | [a], h => exact ⟨a, rfl, h⟩
theorem sp2_of {f} {ds : List DV} {g : DG} {P : DV → DG → Prop} (h : sp2 f ds g P) : ∃ a b, ds = [a, b] ∧ f a b g P := by
  match ds, h with
  | [a, b], h => exact ⟨a, b, rfl, h⟩
theorem sp3_of {f} {ds : List DV} {g : DG} {P : DV → DG → Prop} (h : sp3 f ds g P) : ∃ a b c, ds = [a, b, c] ∧ f a b c g P := by
  match ds, h with
  | [a, b, c], h => exact ⟨a, b, c, rfl, h⟩
theorem sp4_of {f} {ds : List DV} {g : DG} {P : DV → DG → Prop} (h : sp4 f ds g P) : ∃ a b c d, ds = [a, b, c, d] ∧ f a b c d g P := by
  match ds, h with
  | [a, b, c, d], h => exact ⟨a, b, c, d, rfl, h⟩
theorem len0 {f} {ds : List DV} {g : DG} {P : DV → DG → Prop} (h : sp0 f ds g P) : ds.length = 0 := by obtain ⟨rfl, _⟩ := sp0_of h; rfl
theorem len1 {f} {ds : List DV} {g : DG} {P : DV → DG → Prop} (h : sp1 f ds g P) : ds.length = 1 := by obtain ⟨_, rfl, _⟩ := sp1_of h; rfl
theorem len2 {f} {ds : List DV} {g : DG} {P : DV → DG → Prop} (h : sp2 f ds g P) : ds.length = 2 := by obtain ⟨_, _, rfl, _⟩ := sp2_of h; rfl
theorem len3 {f} {ds : List DV} {g : DG} {P : DV → DG → Prop} (h : sp3 f ds g P) : ds.length = 3 := by obtain ⟨_, _, _, rfl, _⟩ := sp3_of h; rfl
theorem len4 {f} {ds : List DV} {g : DG} {P : DV → DG → Prop} (h : sp4 f ds g P) : ds.length = 4 := by obtain ⟨_, _, _, _, rfl, _⟩ := sp4_of h; rfl

/-! ### a def of the module -/
structure Dfn (K : Fg) (mg : Str → Option Value) (x : Str) (st : Stmt) (ps : List Str) (f : Addr) (fd : FuncData) : Prop where
  fn : Fun K x x st f fd
  at_ : mg x = some (.ref f)
  bd : Binds K fd ps []

/-! ### comprehensions whose parts change nothing -/
/-- no test -/
theorem comp_map {tg : Tg} {own : List Nat} {te : TDE} {δ : DS} {g : DG} {f : DV → DV} : ∀ {ds : List DV} {Q : List DV → DG → Prop},
    (∀ d ∈ ds, ∃ δ2, bindT tg d (wipeD δ own) = some δ2 ∧ ∀ Q2 : DV → DG → Prop, Q2 (f d) g → te δ2 g Q2) → Q (ds.map f) g → dComp tg own dYes te δ ds g Q
  | [], Q, _, hq => hq
  | d :: ds, Q, h, hq => by
    obtain ⟨δ2, e, he⟩ := h d List.mem_cons_self
    unfold dComp
    rw [e]
    dsimp only [dYes]
    rw [if_pos rfl]
    exact he _ (comp_map (fun d hd => h d (List.mem_cons_of_mem _ hd)) hq)
/-- a test -/
theorem comp_fil {tg : Tg} {own : List Nat} {tt : TDT} {te : TDE} {δ : DS} {g : DG} {p : DV → Bool} {f : DV → DV} : ∀ {ds : List DV} {Q : List DV → DG → Prop},
    (∀ d ∈ ds, ∃ δ2, bindT tg d (wipeD δ own) = some δ2 ∧ (∀ Q' : Bool → DG → Prop, Q' (p d) g → tt δ2 g Q') ∧ (p d = true → ∀ Q2 : DV → DG → Prop, Q2 (f d) g → te δ2 g Q2)) → Q ((ds.filter p).map f) g → dComp tg own tt te δ ds g Q
  | [], Q, _, hwz1 => hwz1
  | d :: ds, Q, h, hwz1 => by
    obtain ⟨δ2, e, ht, he⟩ := h d List.mem_cons_self
    unfold dComp
    rw [e]
    refine ht _ ?_
    cases hp : p d with
    | true =>
      rw [if_pos rfl]
      refine he hp _ (comp_fil (fun d hd => h d (List.mem_cons_of_mem _ hd)) ?_)
      rw [List.filter_cons_of_pos hp] at hwz1
      exact hwz1
    | false =>
      rw [if_neg Bool.false_ne_true]
      refine comp_fil (fun d hd => h d (List.mem_cons_of_mem _ hd)) ?_
      rw [List.filter_cons_of_neg (by rw [hp]; exact Bool.false_ne_true)] at hwz1
      exact hwz1
end DL

/-! Deep layer S: set(list of ints), sorted(set(list)). -/
namespace L2
open PyProof.Rows PySem.Spec PySem
/-- an empty set's object -/
abbrev sNew (u : World) : Obj := { cls := .type "set", dict := none, data := .set #[] 0 (.fresh 0 0 (!u.params.followText "set-order")) }
section
variable {P : Program} {u : World} {A : Around} {E : Value → Shared → Prop} {s : Shared}
set_option maxHeartbeats 8000000 in
theorem set_list_r {q : Addr} {xs : Array Value} (zs : List Int) {R : Value → Shared → Prop} (nh : A.handled = none) (ql : s.heap.IsList q xs) (qi : IntsAre xs.toList zs) (few : zs.length + 1 < scanBound)
    (fin : ∀ (h2 : Heap) (tk c : Nat), SetR u h2 s.heap.objs.size (fun j => decide (j ∈ zs)) c → c ≤ zs.length → (∀ b o, s.heap.get? b = some o → h2.get? b = some o) → R (.ref s.heap.objs.size) { s with heap := h2, toks := tk }) :
    wpAny (model P u) A (call (.type "set") [.ref q]) R E s := by
  have xl : xs.size = zs.length := by
    have z := qi.length
    rwa [Array.length_toList] at z
  obtain ⟨mc, mt, mro⟩ := F.called_set.mro
  have k1 := F.called_set.made
  have k2 := F.called_set.sub
  have k3 := F.called_set.notType
  have k4 := F.called_set.canCreate
  have k5 := F.typeCall_set_1 (.ref q)
  refine wpAny_call (codeAny_of_tree ?_)
  show wpAny (model P u) _ (callAny (.type "set") _) _ _ _
  refine wpAny_pure ⟨Code.quiet_builtin _ (by decide +kernel), codeAny_builtin F.entry_type_call ?_⟩
  rw [Around.under_plain (weight_type_call_type "set" [.ref q] []) rfl]
  repeat any_goals first | assumption | wp_step
  refine codeAny_mono (code_set_led1 (.ref q) (E := E) (Q₁ := fun z t => z = .ref s.heap.objs.size ∧ t = { s with heap := s.heap.push (sNew u) }) ⟨rfl, rfl⟩) fun res t0 hres => ?_
  cases res with
  | error _ => exact hres
  | ok fl =>
    cases fl with
    | ret obj =>
      obtain ⟨rfl, rfl⟩ := hres
      have at0 : (s.heap.push (sNew u)).get? s.heap.objs.size = some (sNew u) := Heap.get?_push_size _ rfl
      have ty0 : Shared.TypeIs { s with heap := s.heap.push (sNew u) } (.ref s.heap.objs.size) "set" := ⟨_, at0, rfl⟩
      have k6 := F.called_set.init.lookup
      have k7 := F.called_set.init.bind (.ref s.heap.objs.size)
      repeat any_goals first | assumption | wp_step
      refine codeAny_mono (codeAny_call_builtin (R := wants (fun r t => r = .none ∧ ∃ h2 tk c, t = { s with heap := h2, toks := tk } ∧ SetR u h2 s.heap.objs.size (fun j => decide (j ∈ zs)) c ∧ c ≤ zs.length ∧
          ∀ b o, s.heap.get? b = some o → h2.get? b = some o) E) F.called_set.init.plain F.entry_set_init (check_set_init_1 ty0 ?_)) fun res2 t2 hres2 => ?_
      · obtain ⟨⟨oc, od, odt, osl⟩, oq, c1, nq, c2⟩ := ql
        simp only at c1 c2
        subst c1 c2
        have oq1 : (s.heap.push (sNew u)).get? q = some { cls := .type "list", dict := od, data := .seq xs nq, slots := osl } := Heap.get?_push_of_some _ oq
        have k8 := F.sub_list_set
        have k9 := F.sub_list_frozenset
        have k10 : (Value.type "list" == Value.type "dict") = false := rfl
        have ql1 : (s.heap.push (sNew u)).IsList q xs := ⟨_, oq1, rfl, nq, rfl⟩
        unfold Builtin.«set.__init__» noKeywords Builtin.Frozenset.updateFrom
        generalize hPI : pyIter = PI
        wp_walk
        subst hPI
        refine wpAny_pyIter_list ql1 (wpAny_bind (wpAny_runValue ?_))
        have lt0 : q < s.heap.objs.size := Heap.lt_size oq
        have nh3 : A.in1.in1.in1.handled = none := by simp [nh]
        have sz1 : (s.heap.push (sNew u)).objs.size = s.heap.objs.size + 1 := Heap.size_push ..
        have ne1 : q ≠ (s.heap.push (sNew u)).objs.size := Nat.ne_of_lt (by rw [sz1]; exact Nat.lt_succ_of_lt lt0)
        have nin : s.heap.objs.size ∉ [(s.heap.push (sNew u)).objs.size, q] := by
          intro z
          rcases (List.mem_cons.mp z) with z | z
          · exact Nat.ne_of_lt (by rw [sz1]; exact Nat.lt_succ_self _) z
          · exact Nat.ne_of_gt lt0 (List.mem_singleton.mp z)
        have vals : ∀ (i : Nat) (v : Value), xs[i]? = some v → ∃ k t, zs[i]? = some k ∧ v = .int k t := fun i v hv => by
          have li : i < zs.length := xl ▸ (Array.getElem?_eq_some_iff.mp hv).1
          obtain ⟨t, e⟩ := qi.int_at i v (by rw [Array.getElem?_toList]; exact hv)
          exact ⟨zs[i], t, List.getElem?_eq_getElem li, by rw [e, List.getD_eq_getElem?_getD, List.getElem?_eq_getElem li]; rfl⟩
        refine set_update_ints ((Walks.list nh3 _ q ne1 xs).toS) s.heap.objs.size nin zs xl few vals (xs.size - 0) 0 _ (by omega) (Nat.zero_le _) ⟨⟨_, Heap.get?_push_size _ rfl, rfl, rfl⟩, ql1.push _⟩ ?z1 ?z2
        case z1 =>
          exact ⟨0, Nat.le_refl 0, setR_new_at (Heap.get?_push_of_some _ at0)⟩
        case z2 =>
          intro t c mv hc rr
          obtain ⟨h2, g2, d2, tk2, os2⟩ := t
          have e1 : g2 = s.gens := mv.gens
          have e2 : d2 = s.drawn := mv.drawn
          have e3 : os2 = s.os := mv.os
          subst e1 e2 e3
          show wpAny (model P u) _ _ _ _ _
          refine wpAny_pure ?_
          show wpAny (model P u) _ (ret Value.none) _ _ _
          refine wpAny_pure ⟨rfl, h2, tk2, c, rfl, rr, by omega, fun b o e => ?_⟩
          have bl := Heap.lt_size e
          refine mv.heap b o ?_ (Heap.get?_push_of_some _ (Heap.get?_push_of_some _ e))
          intro z
          rcases (List.mem_cons.mp z) with z | z
          · exact Nat.ne_of_lt bl z
          · exact Nat.ne_of_lt (by rw [sz1]; exact Nat.lt_succ_of_lt bl) (List.mem_singleton.mp z)
      · cases res2 with
        | error _ => exact hres2
        | ok fl2 =>
          cases fl2 with
          | ret r =>
            obtain ⟨rfl, h2, tk, c, rfl, rr, hc, kk⟩ := hres2
            repeat any_goals first | assumption | wp_step
            exact fin _ _ _ rr hc kk
          | _ => exact hres2.elim
    | _ => exact hres.elim
end
end L2
namespace DL
open PyProof.Rows PySem.Spec PySem L2
section
variable {X : Cx} {pos : Pos} {a : Expr} {ta : TDE}
/-- sorted(set(xs)), xs a list of ints -/
def dSS (ta : TDE) : TDE := fun δ g Q => ta δ g fun x g1 => match lstD g1 x with
  | some ds => (match intsD ds with | some ns => ns.length < 63 ∧ ∀ ms : List Int, ms.Pairwise (· < ·) → (∀ k, k ∈ ms ↔ k ∈ ns) → ms.length ≤ ns.length → Q (.lst (ms.map DV.int)) g1 | none => False)
  | none => False
theorem pd_sortedSet {p p2 q : Pos} (hm : X.mg "sorted" = none) (hm2 : X.mg "set" = none) (ha : PE X a (upE X.K ta)) (hc : X.calm = true := by rfl) (hg : Gl X "sorted" := by rfl) (hg2 : Gl X "set" := by rfl)
    (na : starEach [a] X.env = (false, eval a X.env) :: starEach [] X.env := by rfl) : PE X (.Call (.Name "sorted" p) [.Call (.Name "set" p2) [a] [] q] [] pos) (upE X.K (dSS ta)) := by
  refine ⟨fun pinz s σ H Q Iwz ⟨δ, g, P, rs, rg, h, k⟩ => ?_⟩
  refine Call_ (ld_blt Iwz hg hm (show bootBuiltins "sorted" = some (.builtin "sorted") by decide +kernel) ?_)
  refine PyProof.Rows.callWith_builtin1 (PyProof.Rows.args_cons ?_ rfl) rfl rfl
  refine Call_ (ld_blt Iwz hg2 hm2 boot_set ?_)
  refine PyProof.Rows.callWith_type1 (PyProof.Rows.args_cons (thn (ha.run pinz s σ H (fun v Huz => ∃ (l : Addr) (ns : List Int), v = .ref l ∧ SqL X.K Huz l (ns.map V.int) ∧ ns.length < 63 ∧
      ∀ (ms : List Int), ms.Pairwise (· < ·) → (∀ k, k ∈ ms ↔ k ∈ ns) → ms.length ≤ ns.length → ∀ (pn : Addr) (o : Obj), Huz pn = none → Q (.ref pn) (upd Huz pn (.frz o (.lst (ms.map V.int))))) Iwz ⟨δ, g, _, rs, rg, h, fun d g1 v Huz e1 rg1 rd1 h1 => ?_⟩) fun v suz ⟨x, Huz, Iuz, r1, q1⟩ => PyProof.Rows.args_nil ?_) na) na rfl
  · split at h1
    · rename_i ds ed
      split at h1
      · rename_i ns en
        obtain ⟨l, vs, rfl, hwz1, hr, _⟩ := lstD_of rg1 rd1 ed
        rw [intsD_of en] at hr
        rw [hr.ints] at hwz1
        refine ⟨l, ns, rfl, hwz1, h1.1, fun ms z1 z2 z3 pn o hp => k _ _ _ _ (e1.trans (Ext.fresh rg1 hp)) (rg1.fresh hp) (.lst ⟨o, upd_same⟩ (RDs.ofInts ms)) (h1.2 ms z1 z2 z3)⟩
      · exact h1.elim
    · exact h1.elim
  · obtain ⟨l, ns, rfl, hwz1, h63, q1⟩ := q1
    cases r1
    obtain ⟨itz1, ruz1, pl, hv1⟩ := Iuz.list hwz1
    have hi : IntsAre itz1.toArray.toList ns := by simpa using intsAre_of ruz1
    refine set_list_r ns (Iuz.ok.hd hc) pl.isList hi (by unfold scanBound; omega) fun h2 tk c hR hcl kk => PyProof.Rows.args_nil ?_
    have I2 : Inv X pinz σ Huz { suz with heap := h2, toks := tk } := Iuz.kept fun b o e => kk b o e
    refine sorted_set hR (I2.ok.hd hc) (by omega) fun s' pn out c' ms k' g' o' hp hgt him asc mem hl => ?_
    have hn : Huz pn = none := I2.hok.fresh hp
    have hlen : (ms.map V.int).length ≤ sizeLine := by rw [List.length_map, hl, sizeLine_eq]; omega
    have J : Inv X pinz σ (upd Huz pn (.lst (ms.map V.int))) { suz with heap := s'.heap, gens := s'.gens, drawn := s'.drawn, toks := s'.toks } :=
      L2.Inv.call (s := { suz with heap := h2, toks := tk }) (h' := s'.heap) (g' := s'.gens) (d' := s'.drawn) (t' := s'.toks) (ch := []) I2 (Un.laid k' hp hn) (I2.hok.laid k' hp ⟨hlen, out.toList, c', vals_of_ints him, hgt⟩) (by rw [g']; exact Iuz.bare) (fun _ z => nomatch z)
    have es : s' = { suz with heap := s'.heap, gens := s'.gens, drawn := s'.drawn, toks := s'.toks } := by
      cases s'
      cases suz
      cases o'
      rfl
    rw [es]
    obtain ⟨o, J2⟩ := J.lock upd_same True.intro
    rw [upd_upd] at J2
    exact ⟨.ref pn, _, J2, rfl, q1 ms asc (fun k => by rw [mem]; simp) (by omega) pn o hn⟩
end
end DL

/-! Deep layer T: small facts for readings. -/
namespace DL
open PySem L2
theorem atI_c0 (a : DV) (l : List DV) : atI (a :: l) 0 = some a := atI_nat (j := 0) rfl
theorem atI_c1 (a b : DV) (l : List DV) : atI (a :: b :: l) 1 = some b := atI_nat (j := 1) rfl
theorem atI_c2 (a b c : DV) (l : List DV) : atI (a :: b :: c :: l) 2 = some c := atI_nat (j := 2) rfl
theorem ixN_30 : ixN 3 0 = some 0 := by decide
theorem ixN_31 : ixN 3 1 = some 1 := by decide
theorem ixN_32 : ixN 3 2 = some 2 := by decide

theorem bl_if (b : Bool) (A B : Prop) : (if (decide (b = true)) = true then A else B) = if b = true then A else B := by cases b <;> rfl
theorem powW {i j : Int} (h : 0 ≤ j ∧ (Builtin.Int.intBits i : Int) * j ≤ 2 ^ 27) : CPowW i j := h
end DL

/-! Deep layer R: reading a derivation step by step, from the head on. -/
namespace DL
open PySem L2
section
variable {δ δ' : DS} {g : DG} {E : DEnds} {Q : DV → DG → Prop} {QB : Bool → DG → Prop} {QA : List DV → DG → Prop} {P : DV → Prop} {a b c : TDE} {ta : TDA} {t u : TDS} {x y d : DV} {ds es : List DV} {tc tc2 : TDT} {i j : Int} {p : Addr}
theorem rd_seq {n bk ct : DS → DG → Prop} {r : DV → DG → Prop} (h : t ⟨u ⟨n, r, bk, ct⟩, r, bk, ct⟩ δ g) : dSeq t u ⟨n, r, bk, ct⟩ δ g := h
theorem rd_seqE (h : t ⟨u ⟨fun _ g' => DRet Q .non g', DRet Q, (dEnds Q).bk, (dEnds Q).ct⟩, DRet Q, (dEnds Q).bk, (dEnds Q).ct⟩ δ g) : dSeq t u (dEnds Q) δ g := h
theorem rd_next (h : E.nx δ g) : dNext E δ g := h
theorem rd_break (h : E.bk δ g) : dBreak E δ g := h
theorem rd_cont (h : E.ct δ g) : dCont E δ g := h
theorem rd_nx {f bk ct : DS → DG → Prop} {rt : DV → DG → Prop} (h : f δ g) : (DEnds.mk f rt bk ct).nx δ g := h
theorem rd_bk {f bk ct : DS → DG → Prop} {rt : DV → DG → Prop} (h : bk δ g) : (DEnds.mk f rt bk ct).bk δ g := h
theorem rd_ct {f bk ct : DS → DG → Prop} {rt : DV → DG → Prop} (h : ct δ g) : (DEnds.mk f rt bk ct).ct δ g := h
theorem rd_rt {f bk ct : DS → DG → Prop} {rt : DV → DG → Prop} (h : rt d g) : (DEnds.mk f rt bk ct).rt d g := h
theorem rd_rtE (h : DRet Q d g) : (dEnds Q).rt d g := h
theorem rd_nxE (h : DRet Q .non g) : (dEnds Q).nx δ g := h
theorem rd_drop (h : a δ g fun _ g1 => E.nx δ g1) : dDrop a E δ g := h
theorem rd_ret (h : a δ g fun d g1 => E.rt d g1) : dRet a E δ g := h
theorem rd_retN (h : E.rt .non g) : dRetN E δ g := h
theorem rd_dif (h : tc δ g fun k g1 => if k = true then t E δ g1 else u E δ g1) : dIf tc t u E δ g := h
def asgK (tg : Tg) (E : DEnds) (δ : DS) (d : DV) (g : DG) : Prop := match bindT tg d δ with | some δ' => E.nx δ' g | none => False
theorem rd_asg {tg : Tg} (h : a δ g fun d g1 => asgK tg E δ d g1) : dAsg tg a E δ g := h
theorem rd_asgK {tg : Tg} (e : bindT tg d δ = some δ') (h : E.nx δ' g) : asgK tg E δ d g := by unfold asgK; rw [e]; exact h
def parK (is : List Nat) (E : DEnds) (δ : DS) (ds : List DV) (g : DG) : Prop := match setAll is ds δ with | some δ' => E.nx δ' g | none => False
theorem rd_par {is : List Nat} (h : ta δ g fun d g1 => parK is E δ d g1) : dPar is ta E δ g := h
theorem rd_parK {is : List Nat} (e : setAll is ds δ = some δ') (h : E.nx δ' g) : parK is E δ ds g := by unfold parK; rw [e]; exact h
theorem rd_for {wi : TDI} {tg : Tg} (h : wi δ g fun ds g1 => dLoop tg t E ds δ g1) : dFor wi tg t E δ g := h
theorem rd_loop0 {tg : Tg} (h : E.nx δ g) : dLoop tg t E [] δ g := h
theorem rd_loop {tg : Tg} {n bk ct : DS → DG → Prop} {r : DV → DG → Prop} (e : bindT tg d δ = some δ') (h : t ⟨dLoop tg t ⟨n, r, bk, ct⟩ ds, r, n, dLoop tg t ⟨n, r, bk, ct⟩ ds⟩ δ' g) : dLoop tg t ⟨n, r, bk, ct⟩ (d :: ds) δ g := by unfold dLoop; rw [e]; exact h
theorem rd_fz {n : Nat} (e : nth δ n = some (.ref p)) (e2 : g p = some (.lst ds)) (h : t E (δ.set n (some (.lst ds))) (gdel g p)) : dFz n t E δ g := by unfold dFz; rw [e]; dsimp only; rw [e2]; exact h
theorem rd_var {n : Nat} (e : nth δ n = some d) (h : Q d g) : dVar n δ g Q := by unfold dVar; rw [e]; exact h
theorem rd_c (h : Q d g) : dC d δ g Q := h
theorem rd_op {r : RR2} (h : a δ g fun x g1 => b δ g1 fun y g2 => r x y g2 fun z => Q z g2) : dOp r a b δ g Q := h
theorem rd_un {r : RR1} (h : a δ g fun x g1 => r x g1 fun z => Q z g1) : dUn r a δ g Q := h
def bK (Q : Bool → DG → Prop) (d : DV) (g : DG) : Prop := match d with | .bl c => Q c g | _ => False
theorem rd_b (h : a δ g fun d g1 => bK QB d g1) : dB a δ g QB := h
theorem rd_bK {k : Bool} (h : QB k g) : bK QB (.bl k) g := h
def tK (Q : Bool → DG → Prop) (d : DV) (g : DG) : Prop := match truD g d with | some b => Q b g | none => False
theorem rd_tru (h : a δ g fun d g1 => tK QB d g1) : dTru a δ g QB := h
theorem rd_tK {k : Bool} (e : truD g d = some k) (h : QB k g) : tK QB d g := by unfold tK; rw [e]; exact h
theorem rd_tKb {k : Bool} (h : QB k g) : tK QB (.bl k) g := h
def chK (r : RR2) (cf : TDE) (δ : DS) (g : DG) (Q : DV → DG → Prop) (y z : DV) : Prop := True
theorem rd_and (h : tc δ g fun k g1 => if k = true then tc2 δ g1 QB else QB false g1) : dAnd tc tc2 δ g QB := h
theorem rd_or (h : tc δ g fun k g1 => if k = true then QB true g1 else tc2 δ g1 QB) : dOr tc tc2 δ g QB := h
theorem rd_not (h : tc δ g fun k g1 => QB (!k) g1) : dNot tc δ g QB := h
def tvK (F : Bool → DV → DG → Prop) (x : DV) (g : DG) : Prop := match truD g x with | some k => F k x g | none => False
theorem rd_tvK {F : Bool → DV → DG → Prop} {k : Bool} (e : truD g d = some k) (h : F k d g) : tvK F d g := by unfold tvK; rw [e]; exact h
theorem rd_tvKb {F : Bool → DV → DG → Prop} {k : Bool} (h : F k (.bl k) g) : tvK F (.bl k) g := h
theorem rd_andV (h : a δ g fun x g1 => tvK (fun k x g1 => if k = true then b δ g1 Q else Q x g1) x g1) : dAndV a b δ g Q := h
theorem rd_orV (h : a δ g fun x g1 => tvK (fun k x g1 => if k = true then Q x g1 else b δ g1 Q) x g1) : dOrV a b δ g Q := h
theorem rd_notV (h : a δ g fun x g1 => tvK (fun k _ g1 => Q (.bl (!k)) g1) x g1) : dNotV a δ g Q := h
theorem rd_ifE (h : tc δ g fun k g1 => if k = true then a δ g1 Q else b δ g1 Q) : dIfE tc a b δ g Q := h
theorem rd_nil (h : QA [] g) : dNil δ g QA := h
theorem rd_cons (h : a δ g fun x g1 => ta δ g1 fun xs g2 => QA (x :: xs) g2) : dCons a ta δ g QA := h
def zK (Q : List DV → DG → Prop) (ds : List DV) (g : DG) : Prop := ds.length ≤ sizeLine ∧ Q ds g
theorem rd_zK (e : ds.length ≤ 16777216) (h : QA ds g) : zK QA ds g := ⟨by rw [sizeLine_eq]; exact e, h⟩
theorem rd_tup (h : ta δ g fun ds g1 => zK (fun ds g1 => Q (.tup ds) g1) ds g1) : dTup ta δ g Q := h
theorem rd_lst (h : ta δ g fun ds g1 => zK (fun ds g1 => Q (.lst ds) g1) ds g1) : dLst ta δ g Q := h
theorem rd_lstM (h : ta δ g fun ds g1 => zK (fun ds g1 => ∀ p, g1 p = none → Q (.ref p) (gup g1 p (.lst ds))) ds g1) : dLstM ta δ g Q := h
theorem rd_cb {r : RRs} (h : ta δ g fun xs g1 => r xs g1 fun z => Q z g1) : dCB r ta δ g Q := h
theorem rd_call {sp : SpD} (h : ta δ g fun xs g1 => sp xs g1 Q) : dCall sp ta δ g Q := h
theorem rd_sp0 {f : DG → (DV → DG → Prop) → Prop} (h : f g Q) : sp0 f [] g Q := h
theorem rd_sp1 {f : DV → DG → (DV → DG → Prop) → Prop} (h : f x g Q) : sp1 f [x] g Q := h
theorem rd_sp2 {f : DV → DV → DG → (DV → DG → Prop) → Prop} (h : f x y g Q) : sp2 f [x, y] g Q := h
theorem rd_sp3 {f : DV → DV → DV → DG → (DV → DG → Prop) → Prop} (h : f x y d g Q) : sp3 f [x, y, d] g Q := h
theorem rd_len (e : seqD g x = some ds) (h : P (.int ds.length)) : rrLen [x] g P := by unfold rrLen rr1; dsimp only; rw [e]; exact h
theorem rd_int (h : P (.int i)) : rrInt [.int i] g P := h
theorem rd_intb {k : Bool} (h : P (.int (if k then 1 else 0))) : rrInt [.bl k] g P := h
theorem rd_abs (h : P (.int (if i < 0 then -i else i))) : rrAbs [.int i] g P := h
theorem rd_ii {f : Int → Int → Int} (h : P (.int (f i j))) : rrII f [.int i, .int j] g P := h
theorem rd_sum {ns : List Int} (e : lstD g x = some ds) (e2 : intsD ds = some ns) (h : P (.int ns.sum)) : rrSum [x] g P := by unfold rrSum rr1; dsimp only; rw [e]; dsimp only; rw [e2]; exact h
theorem rd_bs {f : List Bool → Bool} {bs : List Bool} (e : lstD g x = some ds) (e2 : blsD ds = some bs) (h : P (.bl (f bs))) : rrBs f [x] g P := by unfold rrBs rr1; dsimp only; rw [e]; dsimp only; rw [e2]; exact h
theorem rd_tuple (e : seqD g x = some ds) (h : P (.tup ds)) : rrTuple [x] g P := by unfold rrTuple rr1; dsimp only; rw [e]; exact h
theorem rd_list (e : seqD g x = some ds) (h : P (.lst ds)) : rrList [x] g P := by unfold rrList rr1; dsimp only; rw [e]; exact h
theorem rd_sorted (e : lstD g x = some ds) (c : SortOk ds) (h : P (.lst (ds.mergeSort dleD))) : rrSorted [x] g P := by unfold rrSorted rr1; dsimp only; rw [e]; exact ⟨c, h⟩
theorem rd_isi {T s : String} {k : Bool} (e : tyNm g x = some s) (e2 : isiN s T = some k) (h : P (.bl k)) : rrIsi [x, .ty T] g P := by unfold rrIsi rr2; dsimp only; rw [e]; dsimp only; rw [e2]; exact h
theorem rd_add (h : P (.int (i + j))) : rrAdd (.int i) (.int j) g P := h
theorem rd_sub (h : P (.int (i - j))) : rrSub (.int i) (.int j) g P := ⟨trivial, h⟩
theorem rd_addI (h : P (.int (i + j))) : rrAddI (.int i) (.int j) g P := ⟨trivial, h⟩
theorem rd_rI {C : Int → Int → Prop} {f : Int → Int → DV} (c : C i j) (h : P (f i j)) : rrI C f (.int i) (.int j) g P := ⟨c, h⟩
theorem rd_cmp {f : Int → Int → Bool} (h : P (.bl (f i j))) : rrCmp f (.int i) (.int j) g P := h
theorem rd_eq (c : okD x = true) (c2 : okD y = true) (h : P (.bl (eqD x y))) : rrEq x y g P := ⟨c, c2, h⟩
theorem rd_ne (c : okD x = true) (c2 : okD y = true) (h : P (.bl (!eqD x y))) : rrNe x y g P := ⟨c, c2, h⟩
theorem rd_ix (e : seqD g x = some ds) (e2 : atI ds i = some d) (h : P d) : ixD x (.int i) g P := by unfold ixD; dsimp only; rw [e]; dsimp only; unfold optD; rw [e2]; exact h
def setK (E : DEnds) (δ : DS) (y x i : DV) (g : DG) : Prop := match i with
  | .int k => atL x g fun p ds => (match ixN ds.length k with | some j => E.nx δ (gup g p (.lst (ds.set j y))) | none => False)
  | _ => False
theorem rd_setI (h : a δ g fun y g1 => b δ g1 fun x g2 => c δ g2 fun i g3 => setK E δ y x i g3) : dSetI a b c E δ g := h
theorem rd_setK {k : Nat} (e : g p = some (.lst ds)) (e2 : ixN ds.length i = some k) (h : E.nx δ (gup g p (.lst (ds.set k y)))) : setK E δ y (.ref p) (.int i) g := by unfold setK; dsimp only; unfold atL; dsimp only; rw [e]; dsimp only; rw [e2]; exact h
theorem rd_set30 {a b c y : DV} (e : g p = some (.lst [a, b, c])) (h : E.nx δ (gup g p (.lst [y, b, c]))) : setK E δ y (.ref p) (.int 0) g := by
  unfold setK; dsimp only; unfold atL; dsimp only; rw [e]; dsimp only; rw [show ixN [a, b, c].length 0 = some 0 from ixN_30]; exact h
theorem rd_set32 {a b c y : DV} (e : g p = some (.lst [a, b, c])) (h : E.nx δ (gup g p (.lst [a, b, y]))) : setK E δ y (.ref p) (.int 2) g := by
  unfold setK; dsimp only; unfold atL; dsimp only; rw [e]; dsimp only; rw [show ixN [a, b, c].length 2 = some 2 from ixN_32]; exact h
theorem rd_mt {r : RRm} (h : a δ g fun x g1 => (lstD g1 x).isSome = true ∧ ta δ g1 fun xs g2 => r x xs g2 Q) : dMt r a ta δ g Q := h
theorem rd_some (e : lstD g x = some ds) {R : Prop} (h : R) : (lstD g x).isSome = true ∧ R := ⟨by rw [e]; rfl, h⟩
theorem rd_append (e : g p = some (.lst ds)) (c : ds.length < 16777216) (h : Q .non (gup g p (.lst (ds ++ [y])))) : rmAppend (.ref p) [y] g Q := by unfold rmAppend; dsimp only; unfold atL; dsimp only; rw [e]; exact ⟨by rw [sizeLine_eq]; exact c, h⟩
theorem rd_extend (e : g p = some (.lst ds)) (c : ds.length + es.length ≤ 16777216) (h : Q .non (gup g p (.lst (ds ++ es)))) : rmExtend (.ref p) [.lst es] g Q := by unfold rmExtend; dsimp only; unfold atL; dsimp only; rw [e]; exact ⟨by rw [sizeLine_eq]; exact c, h⟩
theorem rd_lc {wi : TDI} {tg : Tg} {own : List Nat} {tt : TDT} (h : wi δ g fun ds g1 => zK (fun ds g1 => dComp tg own tt a δ ds g1 fun ys g2 => Q (.lst ys) g2) ds g1) : dLc wi tg own tt a δ g Q := h
theorem rd_lcM {wi : TDI} {tg : Tg} {own : List Nat} {tt : TDT} (h : wi δ g fun ds g1 => zK (fun ds g1 => dComp tg own tt a δ ds g1 fun ys g2 => ∀ p, g2 p = none → Q (.ref p) (gup g2 p (.lst ys))) ds g1) : dLcM wi tg own tt a δ g Q := h
theorem rd_yes (h : QB true g) : dYes δ g QB := h
def wsK (R : List DV → DG → Prop) (x : DV) (g : DG) : Prop := match x with | .tup ds => R ds g | .lst ds => R ds g | .scr ns => R (ns.map .int) g | _ => False
theorem rd_wseq (h : a δ g fun x g1 => wsK QA x g1) : wSeq a δ g QA := h
theorem rd_wsT (h : QA ds g) : wsK QA (.tup ds) g := h
theorem rd_wsL (h : QA ds g) : wsK QA (.lst ds) g := h
theorem rd_wsS {ns : List Int} (h : QA (ns.map .int) g) : wsK QA (.scr ns) g := h
theorem rd_wzip (h : ta δ g (one2 fun x y g1 => match x, y with
  | .tup xs, .tup ys => QA (zipD xs ys) g1
  | .lst xs, .lst ys => QA (zipD xs ys) g1
  | _, _ => False)) : wZip ta δ g QA := h
theorem rd_zipT (h : QA (zipD ds es) g) : one2 (fun x y g1 => match x, y with
  | .tup xs, .tup ys => QA (zipD xs ys) g1
  | .lst xs, .lst ys => QA (zipD xs ys) g1
  | _, _ => False) [.tup ds, .tup es] g := h
def rgK (R : List DV → DG → Prop) (xs : List DV) (g1 : DG) : Prop := one1 (fun x g1 => match x with | .int j => rngOk 0 j ∧ R (rangeD 0 j.toNat) g1 | _ => False) xs g1
theorem rd_rng1 (h : ta δ g fun xs g1 => rgK QA xs g1) : wRng1 ta δ g QA := h
theorem rd_rng1K (c : j < 2 ^ 62 ∧ -(2 ^ 62) ≤ j) (h : QA (rangeD 0 j.toNat) g) : rgK QA [.int j] g := ⟨⟨by decide, by decide, c.2, c.1⟩, h⟩
def rgK2 (R : List DV → DG → Prop) (xs : List DV) (g1 : DG) : Prop := one2 (fun x y g1 => match x, y with | .int i, .int j => rngOk i j ∧ R (rangeD i (j - i).toNat) g1 | _, _ => False) xs g1
theorem rd_rng2 (h : ta δ g fun xs g1 => rgK2 QA xs g1) : wRng2 ta δ g QA := h
theorem rd_rng2K (c : rngOk i j) (h : QA (rangeD i (j - i).toNat) g) : rgK2 QA [.int i, .int j] g := ⟨c, h⟩
def slK (Q : DV → DG → Prop) (x : DV) (lo hi : Option Int) (g3 : DG) : Prop := match x with
  | .tup ds => Q (.tup (cutD ds lo hi)) g3
  | .lst ds => Q (.lst (cutD ds lo hi)) g3
  | .scr ns => Q (.lst (cutD (ns.map .int) lo hi)) g3
  | .ref p => (match g3 p with | some (.lst ds) => Q (.lst (cutD ds lo hi)) g3 | none => False)
  | _ => False
theorem rd_sl {lo hi : TDO} (h : a δ g fun x g1 => lo δ g1 fun lo g2 => hi δ g2 fun hi g3 => slK Q x lo hi g3) : dSl a lo hi δ g Q := h
theorem rd_slT {lo hi : Option Int} (h : Q (.tup (cutD ds lo hi)) g) : slK Q (.tup ds) lo hi g := h
theorem rd_slS {ns : List Int} {lo hi : Option Int} (h : Q (.lst (cutD (ns.map .int) lo hi)) g) : slK Q (.scr ns) lo hi g := h
theorem rd_slL {lo hi : Option Int} (h : Q (.lst (cutD ds lo hi)) g) : slK Q (.lst ds) lo hi g := h
theorem rd_slR {lo hi : Option Int} (e : g p = some (.lst ds)) (h : Q (.lst (cutD ds lo hi)) g) : slK Q (.ref p) lo hi g := by unfold slK; dsimp only; rw [e]; exact h
theorem rd_nopart {QO : Option Int → DG → Prop} (h : QO none g) : dNoPart δ g QO := h
def ptK (Q : Option Int → DG → Prop) (x : DV) (g : DG) : Prop := match x with | .int i => Q (some i) g | _ => False
theorem rd_part {QO : Option Int → DG → Prop} (h : a δ g fun x g1 => ptK QO x g1) : dPart a δ g QO := h
theorem rd_ptK {QO : Option Int → DG → Prop} (h : QO (some i) g) : ptK QO (.int i) g := h
def stK (t : TDA) (Q : List DV → DG → Prop) (δ : DS) (x : DV) (g1 : DG) : Prop := match seqD g1 x with | some ds => t δ g1 fun xs g2 => Q (ds ++ xs) g2 | none => False
theorem rd_star (h : a δ g fun x g1 => stK ta QA δ x g1) : dStar a ta δ g QA := h
theorem rd_stK (e : seqD g x = some ds) (h : ta δ g fun xs g2 => QA (ds ++ xs) g2) : stK ta QA δ x g := by unfold stK; rw [e]; exact h
def ssK (Q : DV → DG → Prop) (x : DV) (g1 : DG) : Prop := match lstD g1 x with
  | some ds => (match intsD ds with | some ns => ns.length < 63 ∧ ∀ ms : List Int, ms.Pairwise (· < ·) → (∀ k, k ∈ ms ↔ k ∈ ns) → ms.length ≤ ns.length → Q (.lst (ms.map DV.int)) g1 | none => False)
  | none => False
theorem rd_ss (h : a δ g fun x g1 => ssK Q x g1) : dSS a δ g Q := h
theorem rd_ssK {ns : List Int} (e : lstD g x = some ds) (e2 : intsD ds = some ns) (c : ns.length < 63) (h : ∀ ms : List Int, ms.Pairwise (· < ·) → (∀ k, k ∈ ms ↔ k ∈ ns) → ms.length ≤ ns.length → Q (.lst (ms.map DV.int)) g) : ssK Q x g := by
  unfold ssK; rw [e]; dsimp only; rw [e2]; exact ⟨c, h⟩
theorem rd_loopI {tg : Tg} {n bk ct : DS → DG → Prop} {r : DV → DG → Prop} (I : Nat → DS → DG → Prop) : ∀ {ds : List DV} {δ : DS} {g : DG}, I ds.length δ g →
    (∀ d ∈ ds, ∀ (k : Nat) (δ : DS) (g : DG) (f : DS → DG → Prop), (∀ δ g, I k δ g → f δ g) → I (k + 1) δ g → ∃ δ1, bindT tg d δ = some δ1 ∧ t ⟨f, r, n, f⟩ δ1 g) →
    (∀ δ g, I 0 δ g → n δ g) → dLoop tg t ⟨n, r, bk, ct⟩ ds δ g
  | [], δ, g, h0, _, he => he _ _ h0
  | d :: ds, δ, g, h0, hs, he => by
    obtain ⟨δ1, e, h⟩ := hs d List.mem_cons_self ds.length δ g (dLoop tg t ⟨n, r, bk, ct⟩ ds) (fun δ g hi => rd_loopI I hi (fun d hd => hs d (List.mem_cons_of_mem _ hd)) he) h0
    exact rd_loop e h
theorem rd_itei {c : Prop} [Decidable c] {A B : Prop} (h1 : c → A) (h2 : ¬c → B) : if decide c = true then A else B := by
  by_cases k : c
  · rw [if_pos (decide_eq_true k)]; exact h1 k
  · rw [if_neg (by simpa using k)]; exact h2 k
theorem rd_iteb {k : Bool} {A B : Prop} (h1 : k = true → A) (h2 : k = false → B) : if k = true then A else B := by
  cases k
  · exact h2 rfl
  · exact h1 rfl
theorem rd_itet {A B : Prop} (h1 : A) : if true = true then A else B := h1
theorem rd_itef {A B : Prop} (h1 : B) : if false = true then A else B := h1
theorem rd_itnt {A B : Prop} (h1 : B) : if (!true) = true then A else B := h1
theorem rd_itnf {A B : Prop} (h1 : A) : if (!false) = true then A else B := h1
theorem rd_itp {c : Prop} [Decidable c] {A B : Prop} (k : c) (h1 : A) : if decide c = true then A else B := by rw [if_pos (decide_eq_true k)]; exact h1
theorem rd_itn {c : Prop} [Decidable c] {A B : Prop} (k : ¬c) (h1 : B) : if decide c = true then A else B := by rw [if_neg (by simpa using k)]; exact h1
end
theorem seqD_ref {g : DG} {p : Addr} {ds : List DV} (e : g p = some (.lst ds)) : seqD g (.ref p) = some ds := by unfold seqD; dsimp only; rw [e]
theorem lstD_ref {g : DG} {p : Addr} {ds : List DV} (e : g p = some (.lst ds)) : lstD g (.ref p) = some ds := by unfold lstD; dsimp only; rw [e]
theorem truD_ref {g : DG} {p : Addr} {ds : List DV} (e : g p = some (.lst ds)) : truD g (.ref p) = some (!ds.isEmpty) := by unfold truD; dsimp only; rw [e]
theorem seqD_up {g : DG} {p : Addr} {ds : List DV} : seqD (gup g p (.lst ds)) (.ref p) = some ds := seqD_ref gup_same
theorem lstD_up {g : DG} {p : Addr} {ds : List DV} : lstD (gup g p (.lst ds)) (.ref p) = some ds := lstD_ref gup_same
end DL

/-! Deep layer Z: the start of a law. -/
namespace DL
open PySem PyProof.Rows PySem.Spec L2
theorem script_sc {K : Fg} {H : Hp} {a : Addr} {ns : List Int} (hO : Only H) (hS : SqL K H a (ns.map V.int)) : ScL K H a ns := by
  rcases hS with (h | h) | h
  · rcases hO a with e | ⟨o, xs, e⟩
    · rw [h] at e; cases e
    · rw [h] at e; cases e
  · exact .inl h
  · exact .inr h
/-- the law's own promise, at a script and no changing list -/
theorem law_start {K : Fg} {sp : SpD} {H : Hp} {a : Addr} {ns : List Int} (hO : Only H) (hS : SqL K H a (ns.map V.int)) (h : sp [.scr ns] (fun _ => none) fun d _ => d = .bl true) :
    upSp K sp [.ref a] H (fun v _ => v = .bl true) fun _ _ _ => False := by
  refine ⟨[.scr ns], fun _ => none, _, .cons (.scr (script_sc hO hS)) .nil, fun _ _ e => (nomatch e), h, fun d g' v H' _ _ r e => ?_⟩
  subst e
  cases r
  rfl
theorem law_end {K : Fg} {mg : Str → Option Value} {n x : Str} {st : Stmt} {f : Addr} {fd : FuncData} {Pr : FuncData → Prop} (_ : Dfn K mg n st [x] f fd)
    (b : ∀ (s : Shared) (v : Value), BindsTo s fd ⟨[v], []⟩ [(x, v)]) (g : Pr fd) : ∃ fd : FuncData, (∀ (s : Shared) (v : Value), BindsTo s fd ⟨[v], []⟩ [(x, v)]) ∧ Pr fd := ⟨fd, b, g⟩
end DL

namespace DL
open PySem L2
abbrev tI (ns : List Int) : DV := .tup (ns.map DV.int)
def isW : DV → Bool
  | .int _ => true
  | _ => false
def isWi (lo hi : Int) : DV → Bool
  | .int i => decide (lo ≤ i) && decide (i ≤ hi)
  | _ => false
def ltD : DV → Bool
  | .tup [.int i, .int j] => decide (i < j)
  | _ => false
def leD : DV → Bool
  | .tup [.int i, .int j] => decide (i ≤ j)
  | _ => false
def ascD (ds : List DV) : Bool := (zipD ds (ds.drop 1)).all ltD
def isPD : DV → Bool
  | .tup ds => decide (1 ≤ ds.length ∧ ds.length ≤ 9) && (ds.all (isWi 0 480) && ascD ds)
  | _ => false
theorem blsD_fun (p : DV → Bool) : ∀ ds : List DV, blsD (ds.map fun d => .bl (p d)) = some (ds.map p)
  | [] => rfl
  | d :: ds => by rw [List.map_cons, blsD, blsD_fun p ds]; rfl
theorem plAll_mem : ∀ {ds : List DV}, plAll ds = true → ∀ d ∈ ds, d.pl = true
  | [], _, _, h => by cases h
  | e :: ds, hp, d, h => by
    rw [plAll, Bool.and_eq_true] at hp
    rcases (List.mem_cons.mp h) with z | z
    · subst z; exact hp.1
    · exact plAll_mem hp.2 d z
theorem cutD_from (ds : List DV) (k : Nat) : cutD ds (some (k : Int)) none = ds.drop k := by
  unfold cutD
  rw [HT.sIx_nat, HT.sIx_none]
  by_cases h : k ≤ ds.length
  · rw [Nat.min_eq_left h]
    exact List.take_of_length_le (by rw [List.length_drop]; exact Nat.le_refl _)
  · rw [Nat.min_eq_right (by omega), List.drop_eq_nil_of_le (Nat.le_refl _), List.drop_eq_nil_of_le (by omega), List.take_nil]
theorem all_id_map (p : DV → Bool) (ds : List DV) : (ds.map p).all id = ds.all p := by rw [List.all_map]; rfl
theorem isWi_int {lo hi : Int} {d : DV} (h : isWi lo hi d = true) : ∃ i, d = .int i ∧ lo ≤ i ∧ i ≤ hi := by
  cases d <;> first | cases h; done | skip
  rename_i i
  have h' : (decide (lo ≤ i) && decide (i ≤ hi)) = true := h
  rw [Bool.and_eq_true, decide_eq_true_eq, decide_eq_true_eq] at h'
  exact ⟨i, rfl, h'.1, h'.2⟩
theorem wi_ints {lo hi : Int} : ∀ {ds : List DV}, ds.all (isWi lo hi) = true → ∃ ns : List Int, ds = ns.map DV.int ∧ ∀ n ∈ ns, lo ≤ n ∧ n ≤ hi
  | [], _ => ⟨[], rfl, fun _ h => by cases h⟩
  | d :: ds, h => by
    rw [List.all_cons, Bool.and_eq_true] at h
    obtain ⟨i, rfl, h1, h2⟩ := isWi_int h.1
    obtain ⟨ns, rfl, h3⟩ := wi_ints h.2
    refine ⟨i :: ns, rfl, fun n hn => ?_⟩
    rcases List.mem_cons.mp hn with z | z
    · subst z; exact ⟨h1, h2⟩
    · exact h3 n z
theorem zip_ints : ∀ xs ys : List Int, zipD (xs.map DV.int) (ys.map DV.int) = (xs.zip ys).map fun p => .tup [.int p.1, .int p.2]
  | [], _ => rfl
  | _ :: _, [] => rfl
  | x :: xs, y :: ys => by
    show DV.tup [.int x, .int y] :: zipD (xs.map DV.int) (ys.map DV.int) = _
    rw [zip_ints xs ys]
    rfl
theorem sz_le {n : Nat} (h : n ≤ 16777216) : n ≤ sizeLine := by rw [sizeLine_eq]; exact h
def belowB (xs ys : List Int) : Bool := decide (ys.length ≤ xs.length) && (xs.zip ys).all fun p => decide (p.1 ≤ p.2)
structure PD (xs : List Int) : Prop where
  ne : xs ≠ []
  len : xs.length ≤ 9
  rng : ∀ x ∈ xs, 0 ≤ x ∧ x ≤ 480
  asc : xs.Pairwise (· < ·)
theorem pl_ints : ∀ xs : List Int, plAll (xs.map DV.int) = true
  | [] => rfl
  | x :: xs => by rw [List.map_cons, plAll, pl_ints xs]; rfl
theorem pl_tI (xs : List Int) : (tI xs).pl = true := pl_ints xs
theorem zipD_ints_all {f : DV → Bool} {r : Int → Int → Bool} (hf : ∀ i j, f (.tup [.int i, .int j]) = r i j) (xs ys : List Int) : (zipD (xs.map DV.int) (ys.map DV.int)).all f = (xs.zip ys).all fun p => r p.1 p.2 := by
  rw [zip_ints, List.all_map]
  congr 1
  funext p
  exact hf p.1 p.2
/-- 0 ≤ v, so many draws -/
def PotL (n : Nat) (L : List DV) : Prop := ∃ u v k : Int, L = [.int u, .int v, .int k] ∧ 0 ≤ v ∧ v < 2305843009213693952 ∧ 0 ≤ k ∧ k ≤ n
theorem mulW {i j : Int} (h1 : -18446744073709551616 < i) (h2 : i < 18446744073709551616) (h3 : -18446744073709551616 < j) (h4 : j < 18446744073709551616) : CMulW i j :=
  wide_mul (a := 64) (b := 64) (by omega) (by omega) (by decide) (by decide) (by decide)
theorem divW {i j : Int} (h1 : 0 < j) (h2 : j < 18446744073709551616) : CDivW i j := wide_div (b := 64) h1 (by omega) (by decide) (by decide)
theorem atI_ints {ns : List Int} {i : Nat} (h : i < ns.length) : atI (ns.map DV.int) (i : Int) = some (.int ns[i]) := atI_nat (by rw [List.getElem?_map, List.getElem?_eq_getElem h]; rfl)
theorem tI_le {xs : List Int} (h : xs.length ≤ 16777216) : ∀ ds, tI xs = .tup ds → ds.length ≤ 16777216 := fun ds e => by
  cases e
  rw [List.length_map]; exact h
theorem asc_all : ∀ {xs : List Int}, xs.Pairwise (· < ·) → ((xs.zip (xs.drop 1)).all fun p => decide (p.1 < p.2)) = true
  | [], _ => rfl
  | [_], _ => rfl
  | x :: y :: r, h => by
    obtain ⟨h1, h2⟩ := List.pairwise_cons.mp h
    show (decide (x < y) && (((y :: r).zip r).all fun p => decide (p.1 < p.2))) = true
    rw [decide_eq_true (h1 y List.mem_cons_self)]
    exact asc_all h2
theorem isPD_of {xs : List Int} (h : PD xs) : isPD (tI xs) = true := by
  have hl : 1 ≤ xs.length := List.length_pos_iff.mpr h.ne
  have h9 := h.len
  have e1 : (xs.map DV.int).all (isWi 0 480) = true := by
    rw [List.all_map, List.all_eq_true]
    intro x hx
    have := h.rng x hx
    simp [isWi, this.1, this.2]
  have e2 : ascD (xs.map DV.int) = true := by
    unfold ascD
    rw [← List.map_drop, zipD_ints_all (r := fun i j => decide (i < j)) (fun _ _ => rfl)]
    exact asc_all h.asc
  simp only [isPD]
  rw [List.length_map, decide_eq_true (by omega), e1, e2]
  rfl
def lowerL (xs ys : List Int) : List Int := List.zipWith min xs ys ++ ((if ys.length ≤ xs.length then xs else ys).drop (min xs.length ys.length))
def upperL (xs ys : List Int) : List Int := List.zipWith max xs ys
def minD : DV → DV
  | .tup [.int i, .int j] => .int (if j < i then j else i)
  | _ => .non
def maxD : DV → DV
  | .tup [.int i, .int j] => .int (if j > i then j else i)
  | _ => .non
theorem zipW_map (f : Int → Int → Int) (F : DV → DV) (h : ∀ i j, F (.tup [.int i, .int j]) = .int (f i j)) : ∀ xs ys : List Int, (zipD (xs.map DV.int) (ys.map DV.int)).map F = (List.zipWith f xs ys).map DV.int
  | [], _ => rfl
  | _ :: _, [] => rfl
  | x :: xs, y :: ys => by
    show F (.tup [.int x, .int y]) :: (zipD (xs.map DV.int) (ys.map DV.int)).map F = _
    rw [zipW_map f F h xs ys, h]
    rfl
theorem zip_minD (xs ys : List Int) : (zipD (xs.map DV.int) (ys.map DV.int)).map minD = (List.zipWith min xs ys).map DV.int :=
  zipW_map min minD (fun i j => by show DV.int (if j < i then j else i) = DV.int (min i j); congr 1; split <;> omega) xs ys
theorem zip_maxD (xs ys : List Int) : (zipD (xs.map DV.int) (ys.map DV.int)).map maxD = (List.zipWith max xs ys).map DV.int :=
  zipW_map max maxD (fun i j => by show DV.int (if j > i then j else i) = DV.int (max i j); congr 1; split <;> omega) xs ys
end DL

namespace DL
open PySem L2
theorem py_ints : ∀ ns : List Int, pyAll (ns.map DV.int) = ns.map PyData.int
  | [] => rfl
  | n :: ns => by rw [List.map_cons, pyAll, py_ints ns]; rfl
theorem lay_is : ∀ ns : List Int, PyData.canLayAll0 (ns.map PyData.int) = true
  | [] => rfl
  | _ :: ns => by simp [PyData.canLayAll0, PyData.canLay0, lay_is ns]
theorem dep_is : ∀ ns : List Int, PyData.depthAll (ns.map PyData.int) = 0
  | [] => rfl
  | _ :: ns => by simp [PyData.depthAll, PyData.depth, dep_is ns]
theorem eqv_is : ∀ ns ms : List Int, PyData.eqvAll (ns.map PyData.int) (ms.map PyData.int) = decide (ns = ms)
  | [], [] => by simp [PyData.eqvAll]
  | [], _ :: _ => by simp [PyData.eqvAll]
  | _ :: _, [] => by simp [PyData.eqvAll]
  | n :: ns, m :: ms => by
    simp only [List.map_cons, PyData.eqvAll, PyData.eqv, eqv_is ns ms]
    by_cases h : n = m <;> by_cases h' : ns = ms <;> simp [h, h']
theorem okD_tI (ns : List Int) : okD (tI ns) = true := by
  unfold okD
  rw [pl_tI, Bool.true_and]
  show SeqAt.shaped (.tuple (pyAll (ns.map DV.int))) = true
  rw [py_ints]
  simp [SeqAt.shaped, PyData.canLay0, PyData.depth, lay_is, dep_is]
theorem eqD_tI (ns ms : List Int) : eqD (tI ns) (tI ms) = decide (ns = ms) := by
  show PyData.eqv (.tuple (pyAll (ns.map DV.int))) (.tuple (pyAll (ms.map DV.int))) = _
  rw [py_ints, py_ints, ← eqv_is]
  simp only [PyData.eqv]
theorem okD_lI (ns : List Int) : okD (.lst (ns.map DV.int)) = true := by
  unfold okD
  rw [show (DV.lst (ns.map DV.int)).pl = true from pl_ints ns, Bool.true_and]
  show SeqAt.shaped (.list (pyAll (ns.map DV.int))) = true
  rw [py_ints]
  simp [SeqAt.shaped, PyData.canLay0, PyData.depth, lay_is, dep_is]
theorem eqD_lI (ns ms : List Int) : eqD (.lst (ns.map DV.int)) (.lst (ms.map DV.int)) = decide (ns = ms) := by
  show PyData.eqv (.list (pyAll (ns.map DV.int))) (.list (pyAll (ms.map DV.int))) = _
  rw [py_ints, py_ints, ← eqv_is]
  simp only [PyData.eqv]
theorem okD_bl (b : Bool) : okD (.bl b) = true := by cases b <;> rfl
theorem okD_int (i : Int) : okD (.int i) = true := by
  simp [okD, DV.pl, DV.py, SeqAt.shaped, PyData.canLay0, PyData.depth]
theorem eqD_bl (b c : Bool) : eqD (.bl b) (.bl c) = (b == c) := by simp [eqD, DV.py, PyData.eqv]
theorem eqD_int (i j : Int) : eqD (.int i) (.int j) = decide (i = j) := by
  simp only [eqD, DV.py, PyData.eqv]
  by_cases h : i = j <;> simp [h]
def gtD : DV → Bool
  | .tup [.int i, .int j] => decide (j < i)
  | _ => false
def overs (xs ys : List Int) : List Int := ((xs.zip ys).filter fun p => decide (p.2 < p.1)).map fun _ => 1
theorem zip_gtD (xs ys : List Int) : ((zipD (xs.map DV.int) (ys.map DV.int)).filter gtD).map (fun _ => DV.int 1) = (overs xs ys).map DV.int := by
  rw [zip_ints, List.filter_map, List.map_map]
  unfold overs
  rw [List.map_map]
  rfl
theorem overs_nil (xs ys : List Int) : decide (overs xs ys = []) = (xs.zip ys).all fun p => decide (p.1 ≤ p.2) := by
  unfold overs
  rw [Bool.eq_iff_iff, decide_eq_true_eq, List.map_eq_nil_iff, List.filter_eq_nil_iff, List.all_eq_true]
  exact forall_congr' fun p => forall_congr' fun _ => by
    rw [decide_eq_true_eq, decide_eq_true_eq]
    omega
theorem alike_is : ∀ ns ms : List Int, W.alikeAll (ns.map PyData.int) (ms.map PyData.int) = true
  | [], _ => by simp [W.alikeAll]
  | _ :: _, [] => by simp [W.alikeAll]
  | _ :: ns, _ :: ms => by simp [W.alikeAll, W.alike, alike_is ns ms]
theorem py_tI (ns : List Int) : (tI ns).py = .tuple (ns.map PyData.int) := by
  show PyData.tuple (pyAll (ns.map DV.int)) = _
  rw [py_ints]
theorem pl_tIs : ∀ ws : List (List Int), plAll (ws.map tI) = true
  | [] => rfl
  | w :: ws => by rw [List.map_cons, plAll, pl_tIs ws, pl_tI]; rfl
theorem sort_tIs {ws : List (List Int)} (h : ∀ w ∈ ws, w ≠ []) : SortOk (ws.map tI) := by
  refine ⟨pl_tIs ws, ?_, .inl fun d hd => ?_, fun d hd => ?_⟩
  · rw [List.map_map]
    exact W.AllAlike.of fun a b => by
      show W.alike (tI a).py (tI b).py = true
      rw [py_tI, py_tI]
      simp only [W.alike]
      exact alike_is a b
  · obtain ⟨d', h1, e⟩ := List.mem_map.mp hd
    obtain ⟨w, h2, e2⟩ := List.mem_map.mp h1
    subst e e2
    cases w with
    | nil => exact absurd rfl (h _ h2)
    | cons x r => exact ⟨.int x, r.map PyData.int, py_tI _⟩
  · obtain ⟨w, h2, e2⟩ := List.mem_map.mp hd
    subst e2
    rw [py_tI]
    show PyData.depth (.tuple (w.map PyData.int)) ≤ 60
    rw [PyData.depth, dep_is]
    omega
def shortD : DV → Bool
  | .tup ds => decide ((ds.length : Int) ≤ 3)
  | _ => false
def addD (e : DV) : DV → DV
  | .tup ds => .tup (ds ++ [e])
  | d => d
theorem grown (ws : List (List Int)) (i : Int) : ((ws.map tI).filter shortD).map (addD (.int i)) = ((ws.filter fun w => decide (w.length ≤ 3)).map fun w => w ++ [i]).map tI := by
  induction ws with
  | nil => rfl
  | cons w ws ih =>
    rw [List.map_cons, List.filter_cons, List.filter_cons]
    have e : shortD (tI w) = decide (w.length ≤ 3) := by
      show decide (((w.map DV.int).length : Int) ≤ 3) = _
      rw [List.length_map]
      exact decide_eq_decide.mpr (by omega)
    rw [e]
    by_cases c : w.length ≤ 3
    · rw [if_pos (decide_eq_true c), if_pos (decide_eq_true c), List.map_cons, List.map_cons, List.map_cons, ih]
      congr 1
      show DV.tup (w.map DV.int ++ [.int i]) = .tup ((w ++ [i]).map DV.int)
      rw [List.map_append]
      rfl
    · rw [if_neg (by simpa using c), if_neg (by simpa using c)]
      exact ih
end DL

/-! The plain law of k78: lower and upper of ascending lists. -/
namespace DL
open PySem L2
def lo : List Int → List Int → List Int
  | [], ys => ys
  | x :: xs, [] => x :: xs
  | x :: xs, y :: ys => min x y :: lo xs ys
def up : List Int → List Int → List Int
  | [], _ => []
  | _ :: _, [] => []
  | x :: xs, y :: ys => max x y :: up xs ys
def be : List Int → List Int → Bool
  | _, [] => true
  | [], _ :: _ => false
  | x :: xs, y :: ys => decide (x ≤ y) && be xs ys
theorem lower_lo : ∀ xs ys, lowerL xs ys = lo xs ys
  | [], ys => by
    unfold lowerL lo
    cases ys with
    | nil => rfl
    | cons y ys => rw [if_neg (by simp)]; simp
  | x :: xs, [] => by
    unfold lowerL lo
    rw [if_pos (by simp)]; simp
  | x :: xs, y :: ys => by
    unfold lo
    rw [← lower_lo xs ys]
    unfold lowerL
    rw [List.zipWith_cons_cons, List.cons_append, List.length_cons, List.length_cons, Nat.add_min_add_right]
    by_cases c : ys.length ≤ xs.length
    · rw [if_pos c, if_pos (by omega), List.drop_succ_cons]
    · rw [if_neg c, if_neg (by omega), List.drop_succ_cons]
theorem upper_up : ∀ xs ys, upperL xs ys = up xs ys
  | [], ys => by simp [upperL, up]
  | x :: xs, [] => by simp [upperL, up]
  | x :: xs, y :: ys => by
    unfold up
    rw [← upper_up xs ys]
    rfl
theorem below_be : ∀ xs ys, belowB xs ys = be xs ys
  | xs, [] => by cases xs <;> simp [belowB, be]
  | [], y :: ys => by simp [belowB, be]
  | x :: xs, y :: ys => by
    unfold be
    rw [← below_be xs ys]
    unfold belowB
    simp only [List.length_cons, List.zip_cons_cons, List.all_cons, Nat.add_le_add_iff_right]
    cases decide (ys.length ≤ xs.length) <;> cases decide (x ≤ y) <;> rfl
theorem lo_len : ∀ xs ys, (lo xs ys).length = max xs.length ys.length
  | [], ys => by simp [lo]
  | x :: xs, [] => by simp [lo]
  | x :: xs, y :: ys => by simp only [lo, List.length_cons, lo_len xs ys]; omega
theorem up_len : ∀ xs ys, (up xs ys).length = min xs.length ys.length
  | [], ys => by simp [up]
  | x :: xs, [] => by simp [up]
  | x :: xs, y :: ys => by simp only [up, List.length_cons, up_len xs ys]; omega
theorem lo_comm : ∀ xs ys, lo xs ys = lo ys xs
  | [], [] => rfl
  | [], y :: ys => rfl
  | x :: xs, [] => rfl
  | x :: xs, y :: ys => by simp only [lo, lo_comm xs ys]; congr 1; omega
theorem up_comm : ∀ xs ys, up xs ys = up ys xs
  | [], [] => rfl
  | [], y :: ys => rfl
  | x :: xs, [] => rfl
  | x :: xs, y :: ys => by simp only [up, up_comm xs ys]; congr 1; omega
theorem be_self : ∀ xs, be xs xs = true
  | [] => rfl
  | x :: xs => by simp [be, be_self xs]
theorem lo_be : ∀ xs ys, be (lo xs ys) xs = true
  | [], ys => by cases ys <;> rfl
  | x :: xs, [] => by rw [lo]; exact be_self _
  | x :: xs, y :: ys => by
    simp only [lo, be, lo_be xs ys, Bool.and_true, decide_eq_true_eq]
    omega
theorem be_up : ∀ xs ys, be xs (up xs ys) = true
  | [], ys => by cases ys <;> rfl
  | x :: xs, [] => rfl
  | x :: xs, y :: ys => by
    simp only [up, be, be_up xs ys, Bool.and_true, decide_eq_true_eq]
    omega
theorem lo_self : ∀ xs, lo xs xs = xs
  | [] => rfl
  | x :: xs => by simp only [lo, lo_self xs]; congr 1; omega
theorem lo_nil (xs : List Int) : lo xs [] = xs := by cases xs <;> rfl
theorem up_nil (xs : List Int) : up xs [] = [] := by cases xs <;> rfl
theorem up_self : ∀ xs, up xs xs = xs
  | [] => rfl
  | x :: xs => by simp only [up, up_self xs]; congr 1; omega
theorem lo_up : ∀ xs ys, lo xs (up xs ys) = xs
  | [], ys => by cases ys <;> rfl
  | x :: xs, [] => rfl
  | x :: xs, y :: ys => by simp only [up, lo, lo_up xs ys]; congr 1; omega
theorem up_lo : ∀ xs ys, up xs (lo xs ys) = xs
  | [], ys => by cases ys <;> rfl
  | x :: xs, [] => by rw [lo]; exact up_self _
  | x :: xs, y :: ys => by simp only [up, lo, up_lo xs ys]; congr 1; omega
theorem lo_assoc : ∀ xs ys zs, lo (lo xs ys) zs = lo xs (lo ys zs)
  | [], ys, zs => by rw [lo, lo]
  | x :: xs, [], zs => by rw [lo_nil, lo]
  | x :: xs, y :: ys, [] => by rw [lo_nil, lo_nil]
  | x :: xs, y :: ys, z :: zs => by simp only [lo, lo_assoc xs ys zs]; congr 1; omega
theorem up_assoc : ∀ xs ys zs, up (up xs ys) zs = up xs (up ys zs)
  | [], ys, zs => by rw [up, up, up]
  | x :: xs, [], zs => by rw [up_nil, up, up]
  | x :: xs, y :: ys, [] => by rw [up_nil, up_nil, up_nil]
  | x :: xs, y :: ys, z :: zs => by simp only [up, up_assoc xs ys zs]; congr 1; omega
theorem be_lo : ∀ xs ys, be xs ys = decide (lo xs ys = xs)
  | [], [] => rfl
  | [], y :: ys => by simp [be, lo]
  | x :: xs, [] => by simp [be, lo]
  | x :: xs, y :: ys => by
    simp only [be, lo, be_lo xs ys, List.cons.injEq, Bool.decide_and]
    congr 1
    exact decide_eq_decide.mpr (by omega)
theorem be_up2 : ∀ xs ys, be xs ys = decide (up xs ys = ys)
  | [], [] => rfl
  | [], y :: ys => by simp [be, up]
  | x :: xs, [] => by simp [be, up]
  | x :: xs, y :: ys => by
    simp only [be, up, be_up2 xs ys, List.cons.injEq, Bool.decide_and]
    congr 1
    exact decide_eq_decide.mpr (by omega)
theorem be_both : ∀ s xs ys, (be s xs && be s ys) = be s (lo xs ys)
  | s, [], ys => by cases s <;> simp [be, lo]
  | s, x :: xs, [] => by cases s <;> simp [be, lo]
  | [], x :: xs, y :: ys => by simp [be, lo]
  | c :: s, x :: xs, y :: ys => by
    simp only [be, lo, ← be_both s xs ys]
    rw [show decide (c ≤ min x y) = (decide (c ≤ x) && decide (c ≤ y)) from by rw [← Bool.decide_and]; exact decide_eq_decide.mpr (by omega)]
    cases decide (c ≤ x) <;> cases decide (c ≤ y) <;> cases be s xs <;> cases be s ys <;> rfl
theorem both_be : ∀ s xs ys, (be xs s && be ys s) = be (up xs ys) s
  | [], xs, ys => by simp [be]
  | c :: s, [], ys => by cases ys <;> simp [be, up]
  | c :: s, x :: xs, [] => by simp [be, up]
  | c :: s, x :: xs, y :: ys => by
    simp only [be, up, ← both_be s xs ys]
    rw [show decide (max x y ≤ c) = (decide (x ≤ c) && decide (y ≤ c)) from by rw [← Bool.decide_and]; exact decide_eq_decide.mpr (by omega)]
    cases decide (x ≤ c) <;> cases decide (y ≤ c) <;> cases be xs s <;> cases be ys s <;> rfl
theorem lo_mem : ∀ {xs ys : List Int} {c : Int}, c ∈ lo xs ys → c ∈ xs ∨ c ∈ ys
  | [], ys, c, h => .inr h
  | x :: xs, [], c, h => .inl h
  | x :: xs, y :: ys, c, h => by
    rcases (List.mem_cons.mp h) with z | z
    · rcases Int.le_total x y with q | q
      · left; rw [z, Int.min_eq_left q]; exact List.mem_cons_self
      · right; rw [z, Int.min_eq_right q]; exact List.mem_cons_self
    · rcases lo_mem z with q | q
      · exact .inl (List.mem_cons_of_mem _ q)
      · exact .inr (List.mem_cons_of_mem _ q)
theorem up_mem : ∀ {xs ys : List Int} {c : Int}, c ∈ up xs ys → ∃ a ∈ xs, ∃ b ∈ ys, c = max a b
  | [], ys, c, h => nomatch h
  | x :: xs, [], c, h => nomatch h
  | x :: xs, y :: ys, c, h => by
    rcases (List.mem_cons.mp h) with z | z
    · exact ⟨x, List.mem_cons_self, y, List.mem_cons_self, z⟩
    · obtain ⟨a, ha, b, hb, e⟩ := up_mem z
      exact ⟨a, List.mem_cons_of_mem _ ha, b, List.mem_cons_of_mem _ hb, e⟩
theorem lo_asc : ∀ {xs ys : List Int}, xs.Pairwise (· < ·) → ys.Pairwise (· < ·) → (lo xs ys).Pairwise (· < ·)
  | [], ys, _, h => h
  | x :: xs, [], h, _ => h
  | x :: xs, y :: ys, h, h' => by
    obtain ⟨h1, h2⟩ := List.pairwise_cons.mp h
    obtain ⟨h3, h4⟩ := List.pairwise_cons.mp h'
    refine List.pairwise_cons.mpr ⟨fun c hc => ?_, lo_asc h2 h4⟩
    rcases lo_mem hc with q | q
    · have := h1 c q; omega
    · have := h3 c q; omega
theorem up_asc : ∀ {xs ys : List Int}, xs.Pairwise (· < ·) → ys.Pairwise (· < ·) → (up xs ys).Pairwise (· < ·)
  | [], ys, _, h => .nil
  | x :: xs, [], h, _ => .nil
  | x :: xs, y :: ys, h, h' => by
    obtain ⟨h1, h2⟩ := List.pairwise_cons.mp h
    obtain ⟨h3, h4⟩ := List.pairwise_cons.mp h'
    refine List.pairwise_cons.mpr ⟨fun c hc => ?_, up_asc h2 h4⟩
    obtain ⟨a, ha, b, hb, e⟩ := up_mem hc
    have := h1 a ha
    have := h3 b hb
    omega
theorem PD.lo {xs ys : List Int} (h : PD xs) (h' : PD ys) : PD (lo xs ys) := by
  have l := lo_len xs ys
  have a := List.length_pos_iff.mpr h.ne
  have b := h.len
  have c := h'.len
  refine ⟨List.length_pos_iff.mp (by omega), by omega, fun x hx => ?_, lo_asc h.asc h'.asc⟩
  rcases lo_mem hx with q | q
  · exact h.rng x q
  · exact h'.rng x q
theorem PD.up {xs ys : List Int} (h : PD xs) (h' : PD ys) : PD (up xs ys) := by
  have l := up_len xs ys
  have a := List.length_pos_iff.mpr h.ne
  have a' := List.length_pos_iff.mpr h'.ne
  have b := h.len
  refine ⟨List.length_pos_iff.mp (by omega), by omega, fun x hx => ?_, up_asc h.asc h'.asc⟩
  obtain ⟨a, ha, b, hb, e⟩ := up_mem hx
  have := h.rng a ha
  have := h'.rng b hb
  omega
theorem rd_neI {i j : Int} {g : DG} {P : DV → Prop} (e : i = j) (h : P (.bl false)) : rrNe (.int i) (.int j) g P := ⟨okD_int i, okD_int j, by rw [eqD_int, decide_eq_true e]; exact h⟩
theorem rd_neT {xs ys : List Int} {g : DG} {P : DV → Prop} (e : xs = ys) (h : P (.bl false)) : rrNe (tI xs) (tI ys) g P := ⟨okD_tI xs, okD_tI ys, by rw [eqD_tI, decide_eq_true e]; exact h⟩
theorem rd_neB {b c : Bool} {g : DG} {P : DV → Prop} (e : b = c) (h : P (.bl false)) : rrNe (.bl b) (.bl c) g P := ⟨okD_bl b, okD_bl c, by rw [eqD_bl, e, beq_self_eq_true]; exact h⟩
theorem rd_eqT {xs ys : List Int} {g : DG} {P : DV → Prop} (h : P (.bl (decide (xs = ys)))) : rrEq (tI xs) (tI ys) g P := ⟨okD_tI xs, okD_tI ys, by rw [eqD_tI]; exact h⟩
theorem lo_be2 (xs ys : List Int) : be (lo xs ys) ys = true := by rw [lo_comm]; exact lo_be ys xs
theorem be_up3 (xs ys : List Int) : be ys (up xs ys) = true := by rw [up_comm]; exact be_up ys xs
end DL

namespace DL
open PySem L2

def topS (i : Nat) : Stmt := PySem.Challenge.pw_pureladders_k78_whole_lower_and_upper_de.main.body.getD i (.Pass ⟨0, 0, 0, 0⟩)
structure Txt (K : Fg) (mg : Str → Option Value) (t_MAX_PLACE t_MAX_STEP t_MOST_LAST t_MOST_MOST : Tok) : Prop where
  b_abs : mg "abs" = none
  b_all : mg "all" = none
  b_bool : mg "bool" = none
  b_int : mg "int" = none
  b_isinstance : mg "isinstance" = none
  b_len : mg "len" = none
  b_list : mg "list" = none
  b_max : mg "max" = none
  b_min : mg "min" = none
  b_range : mg "range" = none
  b_set : mg "set" = none
  b_sorted : mg "sorted" = none
  b_tuple : mg "tuple" = none
  b_zip : mg "zip" = none
  c_MAX_PLACE : mg "MAX_PLACE" = some (.int 480 t_MAX_PLACE)
  c_MAX_STEP : mg "MAX_STEP" = some (.int 8 t_MAX_STEP)
  c_MOST_LAST : mg "MOST_LAST" = some (.int 3 t_MOST_LAST)
  c_MOST_MOST : mg "MOST_MOST" = some (.int 5 t_MOST_MOST)

abbrev s_is_whole : Stmt := topS 5
abbrev N_is_whole : List Str := ["value"]
theorem sc_is_whole : FnScope N_is_whole ["value"] (defScope s_is_whole) := ⟨rfl, rfl, rfl, by decide +kernel, rfl, by decide +kernel, by decide +kernel⟩
abbrev sp_is_whole : SpD :=
  sp1 fun a g P => a.pl = true ∧ P (.bl (isW a)) g
theorem ok_is_whole {P : Program} {w : World} {K : Fg} {mg : Str → Option Value} {base : Heap} {t_MAX_PLACE t_MAX_STEP t_MOST_LAST t_MOST_MOST : Tok} {f : Addr} {fd : FuncData} (D : Dfn K mg "is_whole" s_is_whole ["value"] f fd) (T : Txt K mg t_MAX_PLACE t_MAX_STEP t_MOST_LAST t_MOST_MOST) :
    FnOk P w K mg base CX0 1 f fd ["value"] (upSp K sp_is_whole) := by
  refine fun_okD D.fn sc_is_whole (fun ds g Q h => len1 h) (fun cdv A outer s H E hr => ⟨_, (pds_one (pds_ret (pd_and (pd_callB call_isi ref_isi T.b_isinstance (by decide +kernel) (pda_cons (pdv 0) (pda_cons (pd_ty (n := "int") T.b_int (by decide +kernel)) pda_nil))) (pd_one (pd_not (pd_callB call_isi ref_isi T.b_isinstance (by decide +kernel) (pda_cons (pdv 0) (pda_cons (pd_ty (n := "bool") T.b_bool (by decide +kernel)) pda_nil)))))))), ?_⟩)
  intro ds g Q h
  obtain ⟨a0, rfl, h⟩ := sp1_of h
  rw [show startD N_is_whole [a0] = [some a0] from rfl]
  obtain ⟨hp, k⟩ := h
  cases a0 <;> first | cases hp; done | skip
  all_goals simp [dSeq, dNext, dDrop, dRet, dRetN, dIf, dAsg, bindT, setAll, dPar, dFor, dVar, dC, dOp, dB, dChain, dTru, dAnd, dOr, dNot, dAndV, dOrV, dNotV, dIfE, dUn, dNil, dCons, dTup, dLst, dLstM, dCB, dCall, ixD, optD, wSeq, wRng1, wRng2, wRngD, wZip, one1, one2, one3, dLc, dLcM, dYes, dMt, dMt0, rmAppend, rmExtend, rmPop, atL, dSetI, dSl, dPart, dNoPart, dStar, rr1, rr2, rrLen, rrInt, rrAbs, rrII, rrSum, rrBs, rrTuple, rrList, rrSorted, rrIsi, rrAdd, rrI, rrCmp, rrEq, rrNe, rrIsN, rrNotN, nth, truD, seqD, lstD, tyNm, isiN, dEnds, List.set, wipeD, gup_same, dFz, dWhile, dNever, dBreak, dCont, atI_c0, atI_c1, atI_c2, ixN_30, ixN_31, ixN_32, List.length_cons, List.length_nil, Nat.zero_add, Nat.reduceAdd, decide_eq_true_eq]
  all_goals exact dret k

abbrev s_is_within : Stmt := topS 6
abbrev N_is_within : List Str := ["value", "least", "greatest"]
theorem sc_is_within : FnScope N_is_within ["value", "least", "greatest"] (defScope s_is_within) := ⟨rfl, rfl, rfl, by decide +kernel, rfl, by decide +kernel, by decide +kernel⟩
abbrev sp_is_within : SpD :=
  sp3 fun a b c g P => a.pl = true ∧ ∃ lo hi, b = .int lo ∧ c = .int hi ∧ P (.bl (isWi lo hi a)) g
theorem ok_is_within {P : Program} {w : World} {K : Fg} {mg : Str → Option Value} {base : Heap} {t_MAX_PLACE t_MAX_STEP t_MOST_LAST t_MOST_MOST : Tok} {f f_is_whole : Addr} {fd d_is_whole : FuncData} (D : Dfn K mg "is_within" s_is_within ["value", "least", "greatest"] f fd) (T : Txt K mg t_MAX_PLACE t_MAX_STEP t_MOST_LAST t_MOST_MOST) (D_is_whole : Dfn K mg "is_whole" s_is_whole ["value"] f_is_whole d_is_whole) (G_is_whole : FnOk P w K mg base CX0 1 f_is_whole d_is_whole ["value"] (upSp K sp_is_whole)) :
    FnOk P w K mg base CX0 2 f fd ["value", "least", "greatest"] (upSp K sp_is_within) := by
  refine fun_okD D.fn sc_is_within (fun ds g Q h => len3 h) (fun cdv A outer s H E hr => ⟨_, (pds_one (pds_ret (pd_and (pd_call G_is_whole (hr.mono (by decide)) D_is_whole.at_ D_is_whole.fn.kp D_is_whole.bd pass0 (pda_cons (pdv 0) pda_nil)) (pd_one (pd_chain op_le ref_cmp op_le ref_cmp (pdv 1) (pdv 0) (pdv 2)))))), ?_⟩)
  intro ds g Q h
  obtain ⟨a0, a1, a2, rfl, h⟩ := sp3_of h
  rw [show startD N_is_within [a0, a1, a2] = [some a0, some a1, some a2] from rfl]
  obtain ⟨hp, lo, hi, e1, e2, k⟩ := h
  subst e1 e2
  simp only [dSeq, dNext, dDrop, dRet, dRetN, dIf, dAsg, bindT, setAll, dPar, dFor, dVar, dC, dOp, dB, dChain, dTru, dAnd, dOr, dNot, dAndV, dOrV, dNotV, dIfE, dUn, dNil, dCons, dTup, dLst, dLstM, dCB, dCall, ixD, optD, wSeq, wRng1, wRng2, wRngD, wZip, one1, one2, one3, dLc, dLcM, dYes, dMt, dMt0, rmAppend, rmExtend, rmPop, atL, dSetI, dSl, dPart, dNoPart, dStar, rr1, rr2, rrLen, rrInt, rrAbs, rrII, rrSum, rrBs, rrTuple, rrList, rrSorted, rrIsi, rrAdd, rrI, rrCmp, rrEq, rrNe, rrIsN, rrNotN, nth, truD, seqD, lstD, tyNm, isiN, dEnds, List.set, wipeD, gup_same, dFz, dWhile, dNever, dBreak, dCont, atI_c0, atI_c1, atI_c2, ixN_30, ixN_31, ixN_32, List.length_cons, List.length_nil, Nat.zero_add, Nat.reduceAdd, decide_eq_true_eq, sp_is_whole, sp1]
  refine ⟨hp, ?_⟩
  cases a0 <;> simp only [isW]
  case int i =>
    by_cases c : lo ≤ i
    · simpa [isWi, c] using dret k
    · simpa [isWi, c] using dret k
  all_goals exact dret k

abbrev s_require_within : Stmt := topS 7
abbrev N_require_within : List Str := ["value", "least", "greatest"]
theorem sc_require_within : FnScope N_require_within ["value", "least", "greatest"] (defScope s_require_within) := ⟨rfl, rfl, rfl, by decide +kernel, rfl, by decide +kernel, by decide +kernel⟩
abbrev sp_require_within : SpD :=
  sp3 fun a b c g P => ∃ i lo hi : Int, a = .int i ∧ b = .int lo ∧ c = .int hi ∧ lo ≤ i ∧ i ≤ hi ∧ P .non g
theorem ok_require_within {P : Program} {w : World} {K : Fg} {mg : Str → Option Value} {base : Heap} {t_MAX_PLACE t_MAX_STEP t_MOST_LAST t_MOST_MOST : Tok} {f f_is_within : Addr} {fd d_is_within : FuncData} (D : Dfn K mg "require_within" s_require_within ["value", "least", "greatest"] f fd) (T : Txt K mg t_MAX_PLACE t_MAX_STEP t_MOST_LAST t_MOST_MOST) (D_is_within : Dfn K mg "is_within" s_is_within ["value", "least", "greatest"] f_is_within d_is_within) (G_is_within : FnOk P w K mg base CX0 2 f_is_within d_is_within ["value", "least", "greatest"] (upSp K sp_is_within)) :
    FnOk P w K mg base CX0 3 f fd ["value", "least", "greatest"] (upSp K sp_require_within) := by
  refine fun_okD D.fn sc_require_within (fun ds g Q h => len3 h) (fun cdv A outer s H E hr => ⟨_, (pds_one (pds_if (pt_notD (pt_truD (pd_call G_is_within (hr.mono (by decide)) D_is_within.at_ D_is_within.fn.kp D_is_within.bd pass0 (pda_cons (pdv 0) (pda_cons (pdv 1) (pda_cons (pdv 2) pda_nil)))))) (pds_one pds_never) pds_nil)), ?_⟩)
  intro ds g Q h
  obtain ⟨a0, a1, a2, rfl, h⟩ := sp3_of h
  rw [show startD N_require_within [a0, a1, a2] = [some a0, some a1, some a2] from rfl]
  obtain ⟨i, lo, hi, e1, e2, e3, h1, h2, k⟩ := h
  subst e1 e2 e3
  simp only [dSeq, dNext, dDrop, dRet, dRetN, dIf, dAsg, bindT, setAll, dPar, dFor, dVar, dC, dOp, dB, dChain, dTru, dAnd, dOr, dNot, dAndV, dOrV, dNotV, dIfE, dUn, dNil, dCons, dTup, dLst, dLstM, dCB, dCall, ixD, optD, wSeq, wRng1, wRng2, wRngD, wZip, one1, one2, one3, dLc, dLcM, dYes, dMt, dMt0, rmAppend, rmExtend, rmPop, atL, dSetI, dSl, dPart, dNoPart, dStar, rr1, rr2, rrLen, rrInt, rrAbs, rrII, rrSum, rrBs, rrTuple, rrList, rrSorted, rrIsi, rrAdd, rrI, rrCmp, rrEq, rrNe, rrIsN, rrNotN, nth, truD, seqD, lstD, tyNm, isiN, dEnds, List.set, wipeD, gup_same, dFz, dWhile, dNever, dBreak, dCont, atI_c0, atI_c1, atI_c2, ixN_30, ixN_31, ixN_32, List.length_cons, List.length_nil, Nat.zero_add, Nat.reduceAdd, decide_eq_true_eq, sp_is_within, sp3]
  refine ⟨rfl, lo, hi, rfl, rfl, ?_⟩
  rw [show isWi lo hi (.int i) = true from by simp [isWi, h1, h2], if_neg (by decide)]
  exact dret k

abbrev s_is_pure_degrees : Stmt := topS 13
abbrev N_is_pure_degrees : List Str := ["value", "degree", "one", "other"]
theorem sc_is_pure_degrees : FnScope N_is_pure_degrees ["value"] (defScope s_is_pure_degrees) := ⟨rfl, rfl, rfl, by decide +kernel, rfl, by decide +kernel, by decide +kernel⟩
abbrev sp_is_pure_degrees : SpD :=
  sp1 fun a g P => a.pl = true ∧ (∀ ds, a = .tup ds → ds.length ≤ 16777216) ∧ P (.bl (isPD a)) g
theorem ok_is_pure_degrees {P : Program} {w : World} {K : Fg} {mg : Str → Option Value} {base : Heap} {t_MAX_PLACE t_MAX_STEP t_MOST_LAST t_MOST_MOST : Tok} {f f_is_within : Addr} {fd d_is_within : FuncData} (D : Dfn K mg "is_pure_degrees" s_is_pure_degrees ["value"] f fd) (T : Txt K mg t_MAX_PLACE t_MAX_STEP t_MOST_LAST t_MOST_MOST) (D_is_within : Dfn K mg "is_within" s_is_within ["value", "least", "greatest"] f_is_within d_is_within) (G_is_within : FnOk P w K mg base CX0 2 f_is_within d_is_within ["value", "least", "greatest"] (upSp K sp_is_within)) :
    FnOk P w K mg base CX0 3 f fd ["value"] (upSp K sp_is_pure_degrees) := by
  refine fun_okD D.fn sc_is_pure_degrees (fun ds g Q h => len1 h) (fun cdv A outer s H E hr => ⟨_, (pds_cons (pds_if (pwd_pt (pwd_or (pt_notD (pt_truD (pd_callB call_isi ref_isi T.b_isinstance (by decide +kernel) (pda_cons (pdv 0) (pda_cons (pd_ty (n := "tuple") T.b_tuple (by decide +kernel)) pda_nil))))) (pwd_or1 (pt_notD (pt_chainD op_le ref_cmp op_le ref_cmp pd_int (pd_callB call_len_seq ref_len T.b_len (by decide +kernel) (pda_cons (pdv 0) pda_nil)) (pd_add (pd_globI T.c_MAX_STEP) pd_int)))))) (pds_one (pds_ret pd_bl)) pds_nil) (pds_cons (pds_if (pt_notD (pt_truD (pd_callB (cr_all rfl) ref_bs T.b_all (by decide +kernel) (pda_cons (pd_lc (own := [("degree", 1)]) (tg := .nm 1) rfl sc_is_pure_degrees.nd (pid_seq (pdv 0)) (blkOk_by (own := [("degree", 1)]) (N := N_is_pure_degrees) (sc := defScope s_is_pure_degrees) (by decide +kernel)) (fun _ _ _ _ _ => (pgd_nm (i := 1) sc_is_pure_degrees.nd)) (fun _ _ _ _ _ => ptsd_nil) (fun _ _ _ _ _ => (pd_call G_is_within (hr.mono (by decide)) D_is_within.at_ D_is_within.fn.kp D_is_within.bd pass0 (pda_cons (pdv 1) (pda_cons pd_int (pda_cons (pd_globI T.c_MAX_PLACE) pda_nil)))))) pda_nil)))) (pds_one (pds_ret pd_bl)) pds_nil) (pds_one (pds_ret (pd_callB (cr_all rfl) ref_bs T.b_all (by decide +kernel) (pda_cons (pd_lc (own := [("one", 2), ("other", 3)]) (tg := .tp [2, 3]) rfl sc_is_pure_degrees.nd (pid_zip T.b_zip (pda_cons (pdv 0) (pda_cons (pd_slice (pdv 0) (pod_some pd_int) pod_none) pda_nil))) (blkOk_by (own := [("one", 2), ("other", 3)]) (N := N_is_pure_degrees) (sc := defScope s_is_pure_degrees) (by decide +kernel)) (fun _ _ _ _ _ => (pgd_tp (is := [2, 3]) rfl (pgd_cons (i := 2) (pgd_nm (i := 2) sc_is_pure_degrees.nd) (pgd_cons (i := 3) (pgd_nm (i := 3) sc_is_pure_degrees.nd) pgd_nil)))) (fun _ _ _ _ _ => ptsd_nil) (fun _ _ _ _ _ => (pd_cmp op_lt (RefCmp.op ref_cmp) (pdv 2) (pdv 3) (nomark _)))) pda_nil)))))), ?_⟩)
  intro ds g Q h
  obtain ⟨a0, rfl, h⟩ := sp1_of h
  rw [show startD N_is_pure_degrees [a0] = [some a0, none, none, none] from rfl]
  obtain ⟨hp, hz, k⟩ := h
  by_cases ht : ∃ ds, a0 = .tup ds
  · obtain ⟨ds, e⟩ := ht
    subst e
    have hz' := hz ds rfl
    have hpa : plAll ds = true := hp
    have hno : isPD (.tup ds) = false → DRet Q (.bl false) g := fun e => dret (by rw [← e]; exact k)
    simp [dSeq, dNext, dDrop, dRet, dRetN, dIf, dAsg, bindT, setAll, dPar, dFor, dVar, dC, dOp, dB, dChain, dTru, dAnd, dOr, dNot, dAndV, dOrV, dNotV, dIfE, dUn, dNil, dCons, dTup, dLst, dLstM, dCB, dCall, ixD, optD, wSeq, wRng1, wRng2, wRngD, wZip, one1, one2, one3, dLc, dLcM, dYes, dMt, dMt0, rmAppend, rmExtend, rmPop, atL, dSetI, dSl, dPart, dNoPart, dStar, rr1, rr2, rrLen, rrInt, rrAbs, rrII, rrSum, rrBs, rrTuple, rrList, rrSorted, rrIsi, rrAdd, rrI, rrCmp, rrEq, rrNe, rrIsN, rrNotN, nth, truD, seqD, lstD, tyNm, isiN, dEnds, List.set, wipeD, gup_same, dFz, dWhile, dNever, dBreak, dCont, atI_c0, atI_c1, atI_c2, ixN_30, ixN_31, ixN_32, List.length_cons, List.length_nil, Nat.zero_add, Nat.reduceAdd, decide_eq_true_eq]
    by_cases c1 : 1 ≤ (ds.length : Int)
    · rw [if_pos c1]
      by_cases c2 : 9 < (ds.length : Int)
      · rw [if_pos c2]
        exact hno (by simp only [isPD]; rw [decide_eq_false (by omega)]; rfl)
      · rw [if_neg c2]
        refine ⟨sz_le hz', comp_map (f := fun d => .bl (isWi 0 480 d)) (fun d hd => ⟨_, rfl, fun Q2 h2 => ?_⟩) ?_⟩
        · simp only [dSeq, dNext, dDrop, dRet, dRetN, dIf, dAsg, bindT, setAll, dPar, dFor, dVar, dC, dOp, dB, dChain, dTru, dAnd, dOr, dNot, dAndV, dOrV, dNotV, dIfE, dUn, dNil, dCons, dTup, dLst, dLstM, dCB, dCall, ixD, optD, wSeq, wRng1, wRng2, wRngD, wZip, one1, one2, one3, dLc, dLcM, dYes, dMt, dMt0, rmAppend, rmExtend, rmPop, atL, dSetI, dSl, dPart, dNoPart, dStar, rr1, rr2, rrLen, rrInt, rrAbs, rrII, rrSum, rrBs, rrTuple, rrList, rrSorted, rrIsi, rrAdd, rrI, rrCmp, rrEq, rrNe, rrIsN, rrNotN, nth, truD, seqD, lstD, tyNm, isiN, dEnds, List.set, wipeD, gup_same, dFz, dWhile, dNever, dBreak, dCont, atI_c0, atI_c1, atI_c2, ixN_30, ixN_31, ixN_32, List.length_cons, List.length_nil, Nat.zero_add, Nat.reduceAdd, decide_eq_true_eq, sp_is_within, sp3]
          exact ⟨plAll_mem hpa d hd, 0, 480, rfl, rfl, h2⟩
        · rw [blsD_fun]
          dsimp only
          by_cases c3 : ds.all (isWi 0 480) = true
          · obtain ⟨ns, e, hn⟩ := wi_ints c3
            have hf : ¬ false ∈ ds.map (isWi 0 480) := by
              intro hm
              obtain ⟨d, hd, hq⟩ := List.mem_map.mp hm
              have := List.all_eq_true.mp c3 d hd
              rw [hq] at this
              cases this
            rw [if_neg hf, show (1 : Int) = ((1 : Nat) : Int) from rfl, cutD_from]
            have hzz : (zipD ds (ds.drop 1)).length ≤ sizeLine := by
              rw [zipD_len, List.length_drop]
              exact sz_le (by omega)
            refine ⟨hzz, comp_map (f := fun d => .bl (ltD d)) (fun d hd => ?_) ?_⟩
            · subst e
              rw [← List.map_drop, zip_ints] at hd
              obtain ⟨p, _, e⟩ := List.mem_map.mp hd
              subst e
              exact ⟨_, rfl, fun Q2 h2 => h2⟩
            · rw [blsD_fun]
              dsimp only
              rw [all_id_map]
              refine dret ?_
              have e2 : isPD (.tup ds) = ascD ds := by
                simp only [isPD]
                rw [decide_eq_true (by omega), c3]
                rfl
              rw [e2] at k
              exact k
          · have hf : false ∈ ds.map (isWi 0 480) := by
              have c4 := c3
              rw [List.all_eq_true] at c4
              have ⟨d, hd⟩ := Classical.not_forall.mp c4
              have ⟨hm, hq⟩ := Classical.not_imp.mp hd
              exact List.mem_map.mpr ⟨d, hm, by simpa using hq⟩
            rw [if_pos hf]
            refine hno ?_
            simp only [isPD]
            rw [show ds.all (isWi 0 480) = false from by simpa using c3]
            simp
    · rw [if_neg c1]
      exact hno (by simp only [isPD]; rw [decide_eq_false (by omega)]; rfl)
  · have hn : ∀ ds, a0 ≠ .tup ds := fun ds e => ht ⟨ds, e⟩
    have e : isPD a0 = false := by
      cases a0 <;> first | rfl | (exact absurd rfl (hn _))
    rw [e] at k
    cases a0 <;> first | (cases hp; done) | (exact absurd rfl (hn _)) | skip
    all_goals (simp [dSeq, dNext, dDrop, dRet, dRetN, dIf, dAsg, bindT, setAll, dPar, dFor, dVar, dC, dOp, dB, dChain, dTru, dAnd, dOr, dNot, dAndV, dOrV, dNotV, dIfE, dUn, dNil, dCons, dTup, dLst, dLstM, dCB, dCall, ixD, optD, wSeq, wRng1, wRng2, wRngD, wZip, one1, one2, one3, dLc, dLcM, dYes, dMt, dMt0, rmAppend, rmExtend, rmPop, atL, dSetI, dSl, dPart, dNoPart, dStar, rr1, rr2, rrLen, rrInt, rrAbs, rrII, rrSum, rrBs, rrTuple, rrList, rrSorted, rrIsi, rrAdd, rrI, rrCmp, rrEq, rrNe, rrIsN, rrNotN, nth, truD, seqD, lstD, tyNm, isiN, dEnds, List.set, wipeD, gup_same, dFz, dWhile, dNever, dBreak, dCont, atI_c0, atI_c1, atI_c2, ixN_30, ixN_31, ixN_32, List.length_cons, List.length_nil, Nat.zero_add, Nat.reduceAdd, decide_eq_true_eq]; exact dret k)

abbrev s_is_below_in : Stmt := topS 14
abbrev N_is_below_in : List Str := ["one", "other", "least", "most"]
theorem sc_is_below_in : FnScope N_is_below_in ["one", "other"] (defScope s_is_below_in) := ⟨rfl, rfl, rfl, by decide +kernel, rfl, by decide +kernel, by decide +kernel⟩
abbrev sp_is_below_in : SpD :=
  sp2 fun a b g P => ∃ xs ys : List Int, a = tI xs ∧ b = tI ys ∧ xs.length ≤ 9 ∧ ys.length ≤ 9 ∧ P (.bl (belowB xs ys)) g
theorem ok_is_below_in {P : Program} {w : World} {K : Fg} {mg : Str → Option Value} {base : Heap} {t_MAX_PLACE t_MAX_STEP t_MOST_LAST t_MOST_MOST : Tok} {f : Addr} {fd : FuncData} (D : Dfn K mg "is_below_in" s_is_below_in ["one", "other"] f fd) (T : Txt K mg t_MAX_PLACE t_MAX_STEP t_MOST_LAST t_MOST_MOST) :
    FnOk P w K mg base CX0 1 f fd ["one", "other"] (upSp K sp_is_below_in) := by
  refine fun_okD D.fn sc_is_below_in (fun ds g Q h => len2 h) (fun cdv A outer s H E hr => ⟨_, (pds_one (pds_ret (pd_and (pd_cmp op_ge (RefCmp.op ref_cmp) (pd_callB call_len_seq ref_len T.b_len (by decide +kernel) (pda_cons (pdv 0) pda_nil)) (pd_callB call_len_seq ref_len T.b_len (by decide +kernel) (pda_cons (pdv 1) pda_nil)) (nomark _)) (pd_one (pd_callB (cr_all rfl) ref_bs T.b_all (by decide +kernel) (pda_cons (pd_lc (own := [("least", 2), ("most", 3)]) (tg := .tp [2, 3]) rfl sc_is_below_in.nd (pid_zip T.b_zip (pda_cons (pdv 0) (pda_cons (pdv 1) pda_nil))) (blkOk_by (own := [("least", 2), ("most", 3)]) (N := N_is_below_in) (sc := defScope s_is_below_in) (by decide +kernel)) (fun _ _ _ _ _ => (pgd_tp (is := [2, 3]) rfl (pgd_cons (i := 2) (pgd_nm (i := 2) sc_is_below_in.nd) (pgd_cons (i := 3) (pgd_nm (i := 3) sc_is_below_in.nd) pgd_nil)))) (fun _ _ _ _ _ => ptsd_nil) (fun _ _ _ _ _ => (pd_cmp op_le (RefCmp.op ref_cmp) (pdv 2) (pdv 3) (nomark _)))) pda_nil)))))), ?_⟩)
  intro ds g Q h
  obtain ⟨a0, a1, rfl, h⟩ := sp2_of h
  rw [show startD N_is_below_in [a0, a1] = [some a0, some a1, none, none] from rfl]
  obtain ⟨xs, ys, e1, e2, h1, h2, k⟩ := h
  subst e1 e2
  simp [dSeq, dNext, dDrop, dRet, dRetN, dIf, dAsg, bindT, setAll, dPar, dFor, dVar, dC, dOp, dB, dChain, dTru, dAnd, dOr, dNot, dAndV, dOrV, dNotV, dIfE, dUn, dNil, dCons, dTup, dLst, dLstM, dCB, dCall, ixD, optD, wSeq, wRng1, wRng2, wRngD, wZip, one1, one2, one3, dLc, dLcM, dYes, dMt, dMt0, rmAppend, rmExtend, rmPop, atL, dSetI, dSl, dPart, dNoPart, dStar, rr1, rr2, rrLen, rrInt, rrAbs, rrII, rrSum, rrBs, rrTuple, rrList, rrSorted, rrIsi, rrAdd, rrI, rrCmp, rrEq, rrNe, rrIsN, rrNotN, nth, truD, seqD, lstD, tyNm, isiN, dEnds, List.set, wipeD, gup_same, dFz, dWhile, dNever, dBreak, dCont, atI_c0, atI_c1, atI_c2, ixN_30, ixN_31, ixN_32, List.length_cons, List.length_nil, Nat.zero_add, Nat.reduceAdd, decide_eq_true_eq]
  by_cases c : ys.length ≤ xs.length
  · simp only [c, decide_true, if_true]
    refine ⟨by rw [zipD_len, List.length_map, List.length_map]; exact sz_le (by omega), comp_map (f := fun d => .bl (leD d)) (fun d hd => ?_) ?_⟩
    · rw [zip_ints] at hd
      obtain ⟨p, _, e⟩ := List.mem_map.mp hd
      subst e
      exact ⟨_, rfl, fun Q2 h2 => h2⟩
    · rw [blsD_fun]
      dsimp only
      rw [all_id_map, zipD_ints_all (r := fun i j => decide (i ≤ j)) (fun _ _ => rfl)]
      refine dret ?_
      unfold belowB at k
      rw [decide_eq_true c] at k
      exact k
  · rw [if_neg c, decide_eq_false c]
    refine dret ?_
    unfold belowB at k
    rw [decide_eq_false c] at k
    exact k

abbrev s_windowed : Stmt := topS 15
abbrev N_windowed : List Str := ["last", "most", "found", "degree", "degrees"]
theorem sc_windowed : FnScope N_windowed ["last", "most"] (defScope s_windowed) := ⟨rfl, rfl, rfl, by decide +kernel, rfl, by decide +kernel, by decide +kernel⟩
abbrev sp_windowed : SpD :=
  sp2 fun a b g P => a = .int 3 ∧ b = .int 5 ∧ ∀ ds, (∀ d ∈ ds, ∃ xs : List Int, d = tI xs ∧ xs.length ≤ 4) → ds.length ≤ 64 → P (.lst ds) g
theorem ok_windowed {P : Program} {w : World} {K : Fg} {mg : Str → Option Value} {base : Heap} {t_MAX_PLACE t_MAX_STEP t_MOST_LAST t_MOST_MOST : Tok} {f : Addr} {fd : FuncData} (D : Dfn K mg "windowed" s_windowed ["last", "most"] f fd) (T : Txt K mg t_MAX_PLACE t_MAX_STEP t_MOST_LAST t_MOST_MOST) :
    FnOk P w K mg base CX0 1 f fd ["last", "most"] (upSp K sp_windowed) := by
  refine fun_okD D.fn sc_windowed (fun ds g Q h => len2 h) (fun cdv A outer s H E hr => ⟨_, (pds_cons (pds_set (i := 2) sc_windowed.nd (pd_lstM (pda_cons (pd_tup pda_nil) pda_nil))) (pds_cons (pds_for (tg := .nm 3) PassesOwn.never rfl (pid_range1 T.b_range (pda_cons (pd_add (pdv 1) pd_int) pda_nil)) (pgd_nm (i := 3) sc_windowed.nd) (pds_one (pds_expr (pd_extend (pdv 2) (pda_cons (pd_lc (own := [("degrees", 4)]) (tg := .nm 4) rfl sc_windowed.nd (pid_seq (pd_callTy call_list_of ref_list T.b_list (by decide +kernel) (pda_cons (pdv 2) pda_nil))) (blkOk_by (own := [("degrees", 4)]) (N := N_windowed) (sc := defScope s_windowed) (by decide +kernel)) (fun _ _ _ _ _ => (pgd_nm (i := 4) sc_windowed.nd)) (fun _ _ _ _ _ => (ptsd_one (pt_cmpD op_le (RefCmp.op ref_cmp) (pd_callB call_len_seq ref_len T.b_len (by decide +kernel) (pda_cons (pdv 4) pda_nil)) (pdv 0) (nomark _)))) (fun _ _ _ _ _ => (pd_tup (pda_star (pdv 4) (pda_cons (pdv 3) pda_nil))))) pda_nil))))) (pds_one (pds_ret (pd_callB (cr_sortedD hr.units) ref_sorted T.b_sorted (by decide +kernel) (pda_cons (pd_slice (pdv 2) (pod_some pd_int) pod_none) pda_nil)))))), ?_⟩)
  intro ds g Q h
  obtain ⟨a0, a1, rfl, h⟩ := sp2_of h
  rw [show startD N_windowed [a0, a1] = [some a0, some a1, none, none, none] from rfl]
  obtain ⟨e1, e2, k⟩ := h
  subst e1 e2
  (repeat (first | (with_reducible first | refine rd_seq ?_ | refine rd_seqE ?_ | refine rd_next ?_ | refine rd_rtE ?_ | refine rd_nxE ?_ | refine rd_nx ?_ | refine rd_rt ?_ | refine rd_ct ?_ | refine rd_bk ?_ | refine rd_drop ?_ | refine rd_ret ?_ | refine rd_retN ?_ | refine rd_dif ?_ | refine rd_asg ?_ | refine rd_par ?_ | refine rd_for ?_ | refine rd_break ?_ | refine rd_cont ?_ | refine rd_c ?_ | refine rd_op ?_ | refine rd_un ?_ | refine rd_b ?_ | refine rd_bK ?_ | refine rd_tru ?_ | refine rd_tKb ?_ | refine rd_and ?_ | refine rd_or ?_ | refine rd_not ?_ | refine rd_andV ?_ | refine rd_orV ?_ | refine rd_notV ?_ | refine rd_tvKb ?_ | refine rd_ifE ?_ | refine rd_nil ?_ | refine rd_cons ?_ | refine rd_tup ?_ | refine rd_lst ?_ | refine rd_lstM ?_ | refine rd_cb ?_ | refine rd_call ?_ | refine rd_sp0 ?_ | refine rd_sp1 ?_ | refine rd_sp2 ?_ | refine rd_sp3 ?_ | refine rd_int ?_ | refine rd_intb ?_ | refine rd_abs ?_ | refine rd_ii ?_ | refine rd_add ?_ | refine rd_sub ?_ | refine rd_addI ?_ | refine rd_cmp ?_ | refine rd_setI ?_ | refine rd_mt ?_ | refine rd_lc ?_ | refine rd_lcM ?_ | refine rd_yes ?_ | refine rd_wseq ?_ | refine rd_wsT ?_ | refine rd_wsL ?_ | refine rd_wsS ?_ | refine rd_wzip ?_ | refine rd_zipT ?_ | refine rd_rng1 ?_ | refine rd_rng2 ?_ | refine rd_sl ?_ | refine rd_slT ?_ | refine rd_slL ?_ | refine rd_slS ?_ | refine rd_nopart ?_ | refine rd_part ?_ | refine rd_ptK ?_ | refine rd_star ?_ | refine rd_ss ?_ | refine rd_itet ?_ | refine rd_itef ?_ | refine rd_itnt ?_ | refine rd_itnf ?_) | ((with_reducible apply rd_var); (· exact rfl)) | ((with_reducible apply rd_asgK); (· exact rfl)) | ((with_reducible apply rd_parK); (· exact rfl)) | ((with_reducible apply rd_len); (· (first | assumption | exact seqD_ref (by assumption) | exact seqD_up | exact lstD_ref (by assumption) | exact lstD_up | rfl))) | ((with_reducible apply rd_tuple); (· (first | assumption | exact seqD_ref (by assumption) | exact seqD_up | exact lstD_ref (by assumption) | exact lstD_up | rfl))) | ((with_reducible apply rd_list); (· (first | assumption | exact seqD_ref (by assumption) | exact seqD_up | exact lstD_ref (by assumption) | exact lstD_up | rfl))) | ((with_reducible apply rd_stK); (· (first | assumption | exact seqD_ref (by assumption) | exact seqD_up | exact lstD_ref (by assumption) | exact lstD_up | rfl))) | ((with_reducible apply rd_ix); (· (first | assumption | exact seqD_ref (by assumption) | exact seqD_up | exact lstD_ref (by assumption) | exact lstD_up | rfl)); (· (first | exact atI_c0 _ _ | exact atI_c1 _ _ _ | exact atI_c2 _ _ _ _ | assumption | rfl))) | ((with_reducible apply rd_set30); (· (first | assumption | exact gup_same))) | ((with_reducible apply rd_set32); (· (first | assumption | exact gup_same))) | ((with_reducible apply rd_some); (· (first | assumption | exact seqD_ref (by assumption) | exact seqD_up | exact lstD_ref (by assumption) | exact lstD_up | rfl)))))
  refine rd_zK (by show 0 ≤ 16777216; decide) ?_
  (repeat (first | (with_reducible first | refine rd_seq ?_ | refine rd_seqE ?_ | refine rd_next ?_ | refine rd_rtE ?_ | refine rd_nxE ?_ | refine rd_nx ?_ | refine rd_rt ?_ | refine rd_ct ?_ | refine rd_bk ?_ | refine rd_drop ?_ | refine rd_ret ?_ | refine rd_retN ?_ | refine rd_dif ?_ | refine rd_asg ?_ | refine rd_par ?_ | refine rd_for ?_ | refine rd_break ?_ | refine rd_cont ?_ | refine rd_c ?_ | refine rd_op ?_ | refine rd_un ?_ | refine rd_b ?_ | refine rd_bK ?_ | refine rd_tru ?_ | refine rd_tKb ?_ | refine rd_and ?_ | refine rd_or ?_ | refine rd_not ?_ | refine rd_andV ?_ | refine rd_orV ?_ | refine rd_notV ?_ | refine rd_tvKb ?_ | refine rd_ifE ?_ | refine rd_nil ?_ | refine rd_cons ?_ | refine rd_tup ?_ | refine rd_lst ?_ | refine rd_lstM ?_ | refine rd_cb ?_ | refine rd_call ?_ | refine rd_sp0 ?_ | refine rd_sp1 ?_ | refine rd_sp2 ?_ | refine rd_sp3 ?_ | refine rd_int ?_ | refine rd_intb ?_ | refine rd_abs ?_ | refine rd_ii ?_ | refine rd_add ?_ | refine rd_sub ?_ | refine rd_addI ?_ | refine rd_cmp ?_ | refine rd_setI ?_ | refine rd_mt ?_ | refine rd_lc ?_ | refine rd_lcM ?_ | refine rd_yes ?_ | refine rd_wseq ?_ | refine rd_wsT ?_ | refine rd_wsL ?_ | refine rd_wsS ?_ | refine rd_wzip ?_ | refine rd_zipT ?_ | refine rd_rng1 ?_ | refine rd_rng2 ?_ | refine rd_sl ?_ | refine rd_slT ?_ | refine rd_slL ?_ | refine rd_slS ?_ | refine rd_nopart ?_ | refine rd_part ?_ | refine rd_ptK ?_ | refine rd_star ?_ | refine rd_ss ?_ | refine rd_itet ?_ | refine rd_itef ?_ | refine rd_itnt ?_ | refine rd_itnf ?_) | ((with_reducible apply rd_var); (· exact rfl)) | ((with_reducible apply rd_asgK); (· exact rfl)) | ((with_reducible apply rd_parK); (· exact rfl)) | ((with_reducible apply rd_len); (· (first | assumption | exact seqD_ref (by assumption) | exact seqD_up | exact lstD_ref (by assumption) | exact lstD_up | rfl))) | ((with_reducible apply rd_tuple); (· (first | assumption | exact seqD_ref (by assumption) | exact seqD_up | exact lstD_ref (by assumption) | exact lstD_up | rfl))) | ((with_reducible apply rd_list); (· (first | assumption | exact seqD_ref (by assumption) | exact seqD_up | exact lstD_ref (by assumption) | exact lstD_up | rfl))) | ((with_reducible apply rd_stK); (· (first | assumption | exact seqD_ref (by assumption) | exact seqD_up | exact lstD_ref (by assumption) | exact lstD_up | rfl))) | ((with_reducible apply rd_ix); (· (first | assumption | exact seqD_ref (by assumption) | exact seqD_up | exact lstD_ref (by assumption) | exact lstD_up | rfl)); (· (first | exact atI_c0 _ _ | exact atI_c1 _ _ _ | exact atI_c2 _ _ _ _ | assumption | rfl))) | ((with_reducible apply rd_set30); (· (first | assumption | exact gup_same))) | ((with_reducible apply rd_set32); (· (first | assumption | exact gup_same))) | ((with_reducible apply rd_some); (· (first | assumption | exact seqD_ref (by assumption) | exact seqD_up | exact lstD_ref (by assumption) | exact lstD_up | rfl)))))
  refine rd_zK (by show 1 ≤ 16777216; decide) ?_
  intro q hq
  (repeat (first | (with_reducible first | refine rd_seq ?_ | refine rd_seqE ?_ | refine rd_next ?_ | refine rd_rtE ?_ | refine rd_nxE ?_ | refine rd_nx ?_ | refine rd_rt ?_ | refine rd_ct ?_ | refine rd_bk ?_ | refine rd_drop ?_ | refine rd_ret ?_ | refine rd_retN ?_ | refine rd_dif ?_ | refine rd_asg ?_ | refine rd_par ?_ | refine rd_for ?_ | refine rd_break ?_ | refine rd_cont ?_ | refine rd_c ?_ | refine rd_op ?_ | refine rd_un ?_ | refine rd_b ?_ | refine rd_bK ?_ | refine rd_tru ?_ | refine rd_tKb ?_ | refine rd_and ?_ | refine rd_or ?_ | refine rd_not ?_ | refine rd_andV ?_ | refine rd_orV ?_ | refine rd_notV ?_ | refine rd_tvKb ?_ | refine rd_ifE ?_ | refine rd_nil ?_ | refine rd_cons ?_ | refine rd_tup ?_ | refine rd_lst ?_ | refine rd_lstM ?_ | refine rd_cb ?_ | refine rd_call ?_ | refine rd_sp0 ?_ | refine rd_sp1 ?_ | refine rd_sp2 ?_ | refine rd_sp3 ?_ | refine rd_int ?_ | refine rd_intb ?_ | refine rd_abs ?_ | refine rd_ii ?_ | refine rd_add ?_ | refine rd_sub ?_ | refine rd_addI ?_ | refine rd_cmp ?_ | refine rd_setI ?_ | refine rd_mt ?_ | refine rd_lc ?_ | refine rd_lcM ?_ | refine rd_yes ?_ | refine rd_wseq ?_ | refine rd_wsT ?_ | refine rd_wsL ?_ | refine rd_wsS ?_ | refine rd_wzip ?_ | refine rd_zipT ?_ | refine rd_rng1 ?_ | refine rd_rng2 ?_ | refine rd_sl ?_ | refine rd_slT ?_ | refine rd_slL ?_ | refine rd_slS ?_ | refine rd_nopart ?_ | refine rd_part ?_ | refine rd_ptK ?_ | refine rd_star ?_ | refine rd_ss ?_ | refine rd_itet ?_ | refine rd_itef ?_ | refine rd_itnt ?_ | refine rd_itnf ?_) | ((with_reducible apply rd_var); (· exact rfl)) | ((with_reducible apply rd_asgK); (· exact rfl)) | ((with_reducible apply rd_parK); (· exact rfl)) | ((with_reducible apply rd_len); (· (first | assumption | exact seqD_ref (by assumption) | exact seqD_up | exact lstD_ref (by assumption) | exact lstD_up | rfl))) | ((with_reducible apply rd_tuple); (· (first | assumption | exact seqD_ref (by assumption) | exact seqD_up | exact lstD_ref (by assumption) | exact lstD_up | rfl))) | ((with_reducible apply rd_list); (· (first | assumption | exact seqD_ref (by assumption) | exact seqD_up | exact lstD_ref (by assumption) | exact lstD_up | rfl))) | ((with_reducible apply rd_stK); (· (first | assumption | exact seqD_ref (by assumption) | exact seqD_up | exact lstD_ref (by assumption) | exact lstD_up | rfl))) | ((with_reducible apply rd_ix); (· (first | assumption | exact seqD_ref (by assumption) | exact seqD_up | exact lstD_ref (by assumption) | exact lstD_up | rfl)); (· (first | exact atI_c0 _ _ | exact atI_c1 _ _ _ | exact atI_c2 _ _ _ _ | assumption | rfl))) | ((with_reducible apply rd_set30); (· (first | assumption | exact gup_same))) | ((with_reducible apply rd_set32); (· (first | assumption | exact gup_same))) | ((with_reducible apply rd_some); (· (first | assumption | exact seqD_ref (by assumption) | exact seqD_up | exact lstD_ref (by assumption) | exact lstD_up | rfl)))))
  refine rd_rng1K (j := 5 + 1) ⟨by decide, by decide⟩ ?_
  refine rd_loopI (I := fun j δ g' => ∃ (v v' : Option DV) (ws : List (List Int)), δ = [some (.int 3), some (.int 5), some (.ref q), v, v'] ∧ g' q = some (.lst (tI [] :: ws.map tI)) ∧ (∀ w ∈ ws, w ≠ [] ∧ w.length ≤ 4) ∧ j ≤ 6 ∧ (ws.length + 1) * 2 ^ j ≤ 64 ∧ (∀ a, a ≠ q → g' a = g a)) ?_ ?_ ?_
  · exact ⟨none, none, [], rfl, gup_same, fun w hw => (nomatch hw), by decide, by decide, fun a h1 => gup_ne h1⟩
  · intro d hd j δ g' f hf hI
    obtain ⟨v, v', ws, e, h1, h2, h3, h4, h5⟩ := hI
    subst e
    have hi : ∃ i : Int, d = .int i := by
      obtain ⟨i, _, e⟩ := List.mem_map.mp hd
      exact ⟨_, e.symm⟩
    obtain ⟨i, e⟩ := hi
    subst e
    have hw : ws.length + 1 ≤ 64 := Nat.le_trans (Nat.le_mul_of_pos_right _ (Nat.two_pow_pos _)) h4
    refine ⟨_, rfl, ?_⟩
    (repeat (first | (with_reducible first | refine rd_seq ?_ | refine rd_seqE ?_ | refine rd_next ?_ | refine rd_rtE ?_ | refine rd_nxE ?_ | refine rd_nx ?_ | refine rd_rt ?_ | refine rd_ct ?_ | refine rd_bk ?_ | refine rd_drop ?_ | refine rd_ret ?_ | refine rd_retN ?_ | refine rd_dif ?_ | refine rd_asg ?_ | refine rd_par ?_ | refine rd_for ?_ | refine rd_break ?_ | refine rd_cont ?_ | refine rd_c ?_ | refine rd_op ?_ | refine rd_un ?_ | refine rd_b ?_ | refine rd_bK ?_ | refine rd_tru ?_ | refine rd_tKb ?_ | refine rd_and ?_ | refine rd_or ?_ | refine rd_not ?_ | refine rd_andV ?_ | refine rd_orV ?_ | refine rd_notV ?_ | refine rd_tvKb ?_ | refine rd_ifE ?_ | refine rd_nil ?_ | refine rd_cons ?_ | refine rd_tup ?_ | refine rd_lst ?_ | refine rd_lstM ?_ | refine rd_cb ?_ | refine rd_call ?_ | refine rd_sp0 ?_ | refine rd_sp1 ?_ | refine rd_sp2 ?_ | refine rd_sp3 ?_ | refine rd_int ?_ | refine rd_intb ?_ | refine rd_abs ?_ | refine rd_ii ?_ | refine rd_add ?_ | refine rd_sub ?_ | refine rd_addI ?_ | refine rd_cmp ?_ | refine rd_setI ?_ | refine rd_mt ?_ | refine rd_lc ?_ | refine rd_lcM ?_ | refine rd_yes ?_ | refine rd_wseq ?_ | refine rd_wsT ?_ | refine rd_wsL ?_ | refine rd_wsS ?_ | refine rd_wzip ?_ | refine rd_zipT ?_ | refine rd_rng1 ?_ | refine rd_rng2 ?_ | refine rd_sl ?_ | refine rd_slT ?_ | refine rd_slL ?_ | refine rd_slS ?_ | refine rd_nopart ?_ | refine rd_part ?_ | refine rd_ptK ?_ | refine rd_star ?_ | refine rd_ss ?_ | refine rd_itet ?_ | refine rd_itef ?_ | refine rd_itnt ?_ | refine rd_itnf ?_) | ((with_reducible apply rd_var); (· exact rfl)) | ((with_reducible apply rd_asgK); (· exact rfl)) | ((with_reducible apply rd_parK); (· exact rfl)) | ((with_reducible apply rd_len); (· (first | assumption | exact seqD_ref (by assumption) | exact seqD_up | exact lstD_ref (by assumption) | exact lstD_up | rfl))) | ((with_reducible apply rd_tuple); (· (first | assumption | exact seqD_ref (by assumption) | exact seqD_up | exact lstD_ref (by assumption) | exact lstD_up | rfl))) | ((with_reducible apply rd_list); (· (first | assumption | exact seqD_ref (by assumption) | exact seqD_up | exact lstD_ref (by assumption) | exact lstD_up | rfl))) | ((with_reducible apply rd_stK); (· (first | assumption | exact seqD_ref (by assumption) | exact seqD_up | exact lstD_ref (by assumption) | exact lstD_up | rfl))) | ((with_reducible apply rd_ix); (· (first | assumption | exact seqD_ref (by assumption) | exact seqD_up | exact lstD_ref (by assumption) | exact lstD_up | rfl)); (· (first | exact atI_c0 _ _ | exact atI_c1 _ _ _ | exact atI_c2 _ _ _ _ | assumption | rfl))) | ((with_reducible apply rd_set30); (· (first | assumption | exact gup_same))) | ((with_reducible apply rd_set32); (· (first | assumption | exact gup_same))) | ((with_reducible apply rd_some); (· (first | assumption | exact seqD_ref (by assumption) | exact seqD_up | exact lstD_ref (by assumption) | exact lstD_up | rfl)))))
    refine rd_zK (by show (ws.map tI).length + 1 ≤ 16777216; rw [List.length_map]; omega) (comp_fil (p := shortD) (f := addD (.int i)) (fun d hd => ?_) ?_)
    · have hx : ∃ xs : List Int, d = tI xs ∧ xs.length ≤ 4 := by
        rcases List.mem_cons.mp hd with z | z
        · exact ⟨[], z, by decide⟩
        · obtain ⟨w, hw, e⟩ := List.mem_map.mp z
          exact ⟨w, e.symm, (h2 w hw).2⟩
      obtain ⟨xs, e, hx⟩ := hx
      subst e
      refine ⟨_, rfl, fun Q' h' => ?_, fun _ Q2 h2 => ?_⟩
      · (repeat (first | (with_reducible first | refine rd_seq ?_ | refine rd_seqE ?_ | refine rd_next ?_ | refine rd_rtE ?_ | refine rd_nxE ?_ | refine rd_nx ?_ | refine rd_rt ?_ | refine rd_ct ?_ | refine rd_bk ?_ | refine rd_drop ?_ | refine rd_ret ?_ | refine rd_retN ?_ | refine rd_dif ?_ | refine rd_asg ?_ | refine rd_par ?_ | refine rd_for ?_ | refine rd_break ?_ | refine rd_cont ?_ | refine rd_c ?_ | refine rd_op ?_ | refine rd_un ?_ | refine rd_b ?_ | refine rd_bK ?_ | refine rd_tru ?_ | refine rd_tKb ?_ | refine rd_and ?_ | refine rd_or ?_ | refine rd_not ?_ | refine rd_andV ?_ | refine rd_orV ?_ | refine rd_notV ?_ | refine rd_tvKb ?_ | refine rd_ifE ?_ | refine rd_nil ?_ | refine rd_cons ?_ | refine rd_tup ?_ | refine rd_lst ?_ | refine rd_lstM ?_ | refine rd_cb ?_ | refine rd_call ?_ | refine rd_sp0 ?_ | refine rd_sp1 ?_ | refine rd_sp2 ?_ | refine rd_sp3 ?_ | refine rd_int ?_ | refine rd_intb ?_ | refine rd_abs ?_ | refine rd_ii ?_ | refine rd_add ?_ | refine rd_sub ?_ | refine rd_addI ?_ | refine rd_cmp ?_ | refine rd_setI ?_ | refine rd_mt ?_ | refine rd_lc ?_ | refine rd_lcM ?_ | refine rd_yes ?_ | refine rd_wseq ?_ | refine rd_wsT ?_ | refine rd_wsL ?_ | refine rd_wsS ?_ | refine rd_wzip ?_ | refine rd_zipT ?_ | refine rd_rng1 ?_ | refine rd_rng2 ?_ | refine rd_sl ?_ | refine rd_slT ?_ | refine rd_slL ?_ | refine rd_slS ?_ | refine rd_nopart ?_ | refine rd_part ?_ | refine rd_ptK ?_ | refine rd_star ?_ | refine rd_ss ?_ | refine rd_itet ?_ | refine rd_itef ?_ | refine rd_itnt ?_ | refine rd_itnf ?_) | ((with_reducible apply rd_var); (· exact rfl)) | ((with_reducible apply rd_asgK); (· exact rfl)) | ((with_reducible apply rd_parK); (· exact rfl)) | ((with_reducible apply rd_len); (· (first | assumption | exact seqD_ref (by assumption) | exact seqD_up | exact lstD_ref (by assumption) | exact lstD_up | rfl))) | ((with_reducible apply rd_tuple); (· (first | assumption | exact seqD_ref (by assumption) | exact seqD_up | exact lstD_ref (by assumption) | exact lstD_up | rfl))) | ((with_reducible apply rd_list); (· (first | assumption | exact seqD_ref (by assumption) | exact seqD_up | exact lstD_ref (by assumption) | exact lstD_up | rfl))) | ((with_reducible apply rd_stK); (· (first | assumption | exact seqD_ref (by assumption) | exact seqD_up | exact lstD_ref (by assumption) | exact lstD_up | rfl))) | ((with_reducible apply rd_ix); (· (first | assumption | exact seqD_ref (by assumption) | exact seqD_up | exact lstD_ref (by assumption) | exact lstD_up | rfl)); (· (first | exact atI_c0 _ _ | exact atI_c1 _ _ _ | exact atI_c2 _ _ _ _ | assumption | rfl))) | ((with_reducible apply rd_set30); (· (first | assumption | exact gup_same))) | ((with_reducible apply rd_set32); (· (first | assumption | exact gup_same))) | ((with_reducible apply rd_some); (· (first | assumption | exact seqD_ref (by assumption) | exact seqD_up | exact lstD_ref (by assumption) | exact lstD_up | rfl)))))
        exact h'
      · (repeat (first | (with_reducible first | refine rd_seq ?_ | refine rd_seqE ?_ | refine rd_next ?_ | refine rd_rtE ?_ | refine rd_nxE ?_ | refine rd_nx ?_ | refine rd_rt ?_ | refine rd_ct ?_ | refine rd_bk ?_ | refine rd_drop ?_ | refine rd_ret ?_ | refine rd_retN ?_ | refine rd_dif ?_ | refine rd_asg ?_ | refine rd_par ?_ | refine rd_for ?_ | refine rd_break ?_ | refine rd_cont ?_ | refine rd_c ?_ | refine rd_op ?_ | refine rd_un ?_ | refine rd_b ?_ | refine rd_bK ?_ | refine rd_tru ?_ | refine rd_tKb ?_ | refine rd_and ?_ | refine rd_or ?_ | refine rd_not ?_ | refine rd_andV ?_ | refine rd_orV ?_ | refine rd_notV ?_ | refine rd_tvKb ?_ | refine rd_ifE ?_ | refine rd_nil ?_ | refine rd_cons ?_ | refine rd_tup ?_ | refine rd_lst ?_ | refine rd_lstM ?_ | refine rd_cb ?_ | refine rd_call ?_ | refine rd_sp0 ?_ | refine rd_sp1 ?_ | refine rd_sp2 ?_ | refine rd_sp3 ?_ | refine rd_int ?_ | refine rd_intb ?_ | refine rd_abs ?_ | refine rd_ii ?_ | refine rd_add ?_ | refine rd_sub ?_ | refine rd_addI ?_ | refine rd_cmp ?_ | refine rd_setI ?_ | refine rd_mt ?_ | refine rd_lc ?_ | refine rd_lcM ?_ | refine rd_yes ?_ | refine rd_wseq ?_ | refine rd_wsT ?_ | refine rd_wsL ?_ | refine rd_wsS ?_ | refine rd_wzip ?_ | refine rd_zipT ?_ | refine rd_rng1 ?_ | refine rd_rng2 ?_ | refine rd_sl ?_ | refine rd_slT ?_ | refine rd_slL ?_ | refine rd_slS ?_ | refine rd_nopart ?_ | refine rd_part ?_ | refine rd_ptK ?_ | refine rd_star ?_ | refine rd_ss ?_ | refine rd_itet ?_ | refine rd_itef ?_ | refine rd_itnt ?_ | refine rd_itnf ?_) | ((with_reducible apply rd_var); (· exact rfl)) | ((with_reducible apply rd_asgK); (· exact rfl)) | ((with_reducible apply rd_parK); (· exact rfl)) | ((with_reducible apply rd_len); (· (first | assumption | exact seqD_ref (by assumption) | exact seqD_up | exact lstD_ref (by assumption) | exact lstD_up | rfl))) | ((with_reducible apply rd_tuple); (· (first | assumption | exact seqD_ref (by assumption) | exact seqD_up | exact lstD_ref (by assumption) | exact lstD_up | rfl))) | ((with_reducible apply rd_list); (· (first | assumption | exact seqD_ref (by assumption) | exact seqD_up | exact lstD_ref (by assumption) | exact lstD_up | rfl))) | ((with_reducible apply rd_stK); (· (first | assumption | exact seqD_ref (by assumption) | exact seqD_up | exact lstD_ref (by assumption) | exact lstD_up | rfl))) | ((with_reducible apply rd_ix); (· (first | assumption | exact seqD_ref (by assumption) | exact seqD_up | exact lstD_ref (by assumption) | exact lstD_up | rfl)); (· (first | exact atI_c0 _ _ | exact atI_c1 _ _ _ | exact atI_c2 _ _ _ _ | assumption | rfl))) | ((with_reducible apply rd_set30); (· (first | assumption | exact gup_same))) | ((with_reducible apply rd_set32); (· (first | assumption | exact gup_same))) | ((with_reducible apply rd_some); (· (first | assumption | exact seqD_ref (by assumption) | exact seqD_up | exact lstD_ref (by assumption) | exact lstD_up | rfl)))))
        refine rd_zK (by rw [List.length_append, List.length_map]; show xs.length + 1 ≤ 16777216; omega) ?_
        exact h2
    · rw [show tI [] :: ws.map tI = ([] :: ws).map tI from rfl, grown]
      have hN : ∀ w ∈ (([] :: ws).filter fun w => decide (w.length ≤ 3)).map (fun w => w ++ [i]), w ≠ [] ∧ w.length ≤ 4 := by
        intro w hw
        obtain ⟨w', hw', e⟩ := List.mem_map.mp hw
        have h3' := (List.mem_filter.mp hw').2
        rw [decide_eq_true_eq] at h3'
        subst e
        refine ⟨by simp, ?_⟩
        rw [List.length_append]
        show w'.length + 1 ≤ 4
        omega
      have hL : ((([] :: ws).filter fun w => decide (w.length ≤ 3)).map (fun w => w ++ [i])).length ≤ ws.length + 1 := by
        rw [List.length_map]
        exact List.length_filter_le _ ([] :: ws)
      generalize (([] :: ws).filter fun w => decide (w.length ≤ 3)).map (fun w => w ++ [i]) = N at hN hL ⊢
      (repeat (first | (with_reducible first | refine rd_seq ?_ | refine rd_seqE ?_ | refine rd_next ?_ | refine rd_rtE ?_ | refine rd_nxE ?_ | refine rd_nx ?_ | refine rd_rt ?_ | refine rd_ct ?_ | refine rd_bk ?_ | refine rd_drop ?_ | refine rd_ret ?_ | refine rd_retN ?_ | refine rd_dif ?_ | refine rd_asg ?_ | refine rd_par ?_ | refine rd_for ?_ | refine rd_break ?_ | refine rd_cont ?_ | refine rd_c ?_ | refine rd_op ?_ | refine rd_un ?_ | refine rd_b ?_ | refine rd_bK ?_ | refine rd_tru ?_ | refine rd_tKb ?_ | refine rd_and ?_ | refine rd_or ?_ | refine rd_not ?_ | refine rd_andV ?_ | refine rd_orV ?_ | refine rd_notV ?_ | refine rd_tvKb ?_ | refine rd_ifE ?_ | refine rd_nil ?_ | refine rd_cons ?_ | refine rd_tup ?_ | refine rd_lst ?_ | refine rd_lstM ?_ | refine rd_cb ?_ | refine rd_call ?_ | refine rd_sp0 ?_ | refine rd_sp1 ?_ | refine rd_sp2 ?_ | refine rd_sp3 ?_ | refine rd_int ?_ | refine rd_intb ?_ | refine rd_abs ?_ | refine rd_ii ?_ | refine rd_add ?_ | refine rd_sub ?_ | refine rd_addI ?_ | refine rd_cmp ?_ | refine rd_setI ?_ | refine rd_mt ?_ | refine rd_lc ?_ | refine rd_lcM ?_ | refine rd_yes ?_ | refine rd_wseq ?_ | refine rd_wsT ?_ | refine rd_wsL ?_ | refine rd_wsS ?_ | refine rd_wzip ?_ | refine rd_zipT ?_ | refine rd_rng1 ?_ | refine rd_rng2 ?_ | refine rd_sl ?_ | refine rd_slT ?_ | refine rd_slL ?_ | refine rd_slS ?_ | refine rd_nopart ?_ | refine rd_part ?_ | refine rd_ptK ?_ | refine rd_star ?_ | refine rd_ss ?_ | refine rd_itet ?_ | refine rd_itef ?_ | refine rd_itnt ?_ | refine rd_itnf ?_) | ((with_reducible apply rd_var); (· exact rfl)) | ((with_reducible apply rd_asgK); (· exact rfl)) | ((with_reducible apply rd_parK); (· exact rfl)) | ((with_reducible apply rd_len); (· (first | assumption | exact seqD_ref (by assumption) | exact seqD_up | exact lstD_ref (by assumption) | exact lstD_up | rfl))) | ((with_reducible apply rd_tuple); (· (first | assumption | exact seqD_ref (by assumption) | exact seqD_up | exact lstD_ref (by assumption) | exact lstD_up | rfl))) | ((with_reducible apply rd_list); (· (first | assumption | exact seqD_ref (by assumption) | exact seqD_up | exact lstD_ref (by assumption) | exact lstD_up | rfl))) | ((with_reducible apply rd_stK); (· (first | assumption | exact seqD_ref (by assumption) | exact seqD_up | exact lstD_ref (by assumption) | exact lstD_up | rfl))) | ((with_reducible apply rd_ix); (· (first | assumption | exact seqD_ref (by assumption) | exact seqD_up | exact lstD_ref (by assumption) | exact lstD_up | rfl)); (· (first | exact atI_c0 _ _ | exact atI_c1 _ _ _ | exact atI_c2 _ _ _ _ | assumption | rfl))) | ((with_reducible apply rd_set30); (· (first | assumption | exact gup_same))) | ((with_reducible apply rd_set32); (· (first | assumption | exact gup_same))) | ((with_reducible apply rd_some); (· (first | assumption | exact seqD_ref (by assumption) | exact seqD_up | exact lstD_ref (by assumption) | exact lstD_up | rfl)))))
      refine rd_extend h1 (by rw [List.length_map]; show (ws.map tI).length + 1 + N.length ≤ 16777216; rw [List.length_map]; omega) ?_
      (repeat (first | (with_reducible first | refine rd_seq ?_ | refine rd_seqE ?_ | refine rd_next ?_ | refine rd_rtE ?_ | refine rd_nxE ?_ | refine rd_nx ?_ | refine rd_rt ?_ | refine rd_ct ?_ | refine rd_bk ?_ | refine rd_drop ?_ | refine rd_ret ?_ | refine rd_retN ?_ | refine rd_dif ?_ | refine rd_asg ?_ | refine rd_par ?_ | refine rd_for ?_ | refine rd_break ?_ | refine rd_cont ?_ | refine rd_c ?_ | refine rd_op ?_ | refine rd_un ?_ | refine rd_b ?_ | refine rd_bK ?_ | refine rd_tru ?_ | refine rd_tKb ?_ | refine rd_and ?_ | refine rd_or ?_ | refine rd_not ?_ | refine rd_andV ?_ | refine rd_orV ?_ | refine rd_notV ?_ | refine rd_tvKb ?_ | refine rd_ifE ?_ | refine rd_nil ?_ | refine rd_cons ?_ | refine rd_tup ?_ | refine rd_lst ?_ | refine rd_lstM ?_ | refine rd_cb ?_ | refine rd_call ?_ | refine rd_sp0 ?_ | refine rd_sp1 ?_ | refine rd_sp2 ?_ | refine rd_sp3 ?_ | refine rd_int ?_ | refine rd_intb ?_ | refine rd_abs ?_ | refine rd_ii ?_ | refine rd_add ?_ | refine rd_sub ?_ | refine rd_addI ?_ | refine rd_cmp ?_ | refine rd_setI ?_ | refine rd_mt ?_ | refine rd_lc ?_ | refine rd_lcM ?_ | refine rd_yes ?_ | refine rd_wseq ?_ | refine rd_wsT ?_ | refine rd_wsL ?_ | refine rd_wsS ?_ | refine rd_wzip ?_ | refine rd_zipT ?_ | refine rd_rng1 ?_ | refine rd_rng2 ?_ | refine rd_sl ?_ | refine rd_slT ?_ | refine rd_slL ?_ | refine rd_slS ?_ | refine rd_nopart ?_ | refine rd_part ?_ | refine rd_ptK ?_ | refine rd_star ?_ | refine rd_ss ?_ | refine rd_itet ?_ | refine rd_itef ?_ | refine rd_itnt ?_ | refine rd_itnf ?_) | ((with_reducible apply rd_var); (· exact rfl)) | ((with_reducible apply rd_asgK); (· exact rfl)) | ((with_reducible apply rd_parK); (· exact rfl)) | ((with_reducible apply rd_len); (· (first | assumption | exact seqD_ref (by assumption) | exact seqD_up | exact lstD_ref (by assumption) | exact lstD_up | rfl))) | ((with_reducible apply rd_tuple); (· (first | assumption | exact seqD_ref (by assumption) | exact seqD_up | exact lstD_ref (by assumption) | exact lstD_up | rfl))) | ((with_reducible apply rd_list); (· (first | assumption | exact seqD_ref (by assumption) | exact seqD_up | exact lstD_ref (by assumption) | exact lstD_up | rfl))) | ((with_reducible apply rd_stK); (· (first | assumption | exact seqD_ref (by assumption) | exact seqD_up | exact lstD_ref (by assumption) | exact lstD_up | rfl))) | ((with_reducible apply rd_ix); (· (first | assumption | exact seqD_ref (by assumption) | exact seqD_up | exact lstD_ref (by assumption) | exact lstD_up | rfl)); (· (first | exact atI_c0 _ _ | exact atI_c1 _ _ _ | exact atI_c2 _ _ _ _ | assumption | rfl))) | ((with_reducible apply rd_set30); (· (first | assumption | exact gup_same))) | ((with_reducible apply rd_set32); (· (first | assumption | exact gup_same))) | ((with_reducible apply rd_some); (· (first | assumption | exact seqD_ref (by assumption) | exact seqD_up | exact lstD_ref (by assumption) | exact lstD_up | rfl)))))
      refine hf _ _ ⟨some (.int i), v', ws ++ N, rfl, ?_, fun w hw => ?_, by omega, ?_, fun a ha => ?_⟩
      · rw [gup_same, List.map_append]
        rfl
      · rcases List.mem_append.mp hw with z | z
        · exact h2 w z
        · exact hN w z
      · rw [List.length_append]
        have e2 : (ws.length + 1) * 2 ^ (j + 1) = (2 * (ws.length + 1)) * 2 ^ j := by rw [Nat.pow_succ, Nat.mul_comm 2 (ws.length + 1), Nat.mul_assoc, Nat.mul_comm 2 (2 ^ j)]
        rw [e2] at h4
        exact Nat.le_trans (Nat.mul_le_mul_right _ (by omega)) h4
      · rw [gup_ne ha]
        exact h5 a ha
  · intro δ g' hI
    obtain ⟨v, v', ws, e, h1, h2, h3, h4, h5⟩ := hI
    subst e
    (repeat (first | (with_reducible first | refine rd_seq ?_ | refine rd_seqE ?_ | refine rd_next ?_ | refine rd_rtE ?_ | refine rd_nxE ?_ | refine rd_nx ?_ | refine rd_rt ?_ | refine rd_ct ?_ | refine rd_bk ?_ | refine rd_drop ?_ | refine rd_ret ?_ | refine rd_retN ?_ | refine rd_dif ?_ | refine rd_asg ?_ | refine rd_par ?_ | refine rd_for ?_ | refine rd_break ?_ | refine rd_cont ?_ | refine rd_c ?_ | refine rd_op ?_ | refine rd_un ?_ | refine rd_b ?_ | refine rd_bK ?_ | refine rd_tru ?_ | refine rd_tKb ?_ | refine rd_and ?_ | refine rd_or ?_ | refine rd_not ?_ | refine rd_andV ?_ | refine rd_orV ?_ | refine rd_notV ?_ | refine rd_tvKb ?_ | refine rd_ifE ?_ | refine rd_nil ?_ | refine rd_cons ?_ | refine rd_tup ?_ | refine rd_lst ?_ | refine rd_lstM ?_ | refine rd_cb ?_ | refine rd_call ?_ | refine rd_sp0 ?_ | refine rd_sp1 ?_ | refine rd_sp2 ?_ | refine rd_sp3 ?_ | refine rd_int ?_ | refine rd_intb ?_ | refine rd_abs ?_ | refine rd_ii ?_ | refine rd_add ?_ | refine rd_sub ?_ | refine rd_addI ?_ | refine rd_cmp ?_ | refine rd_setI ?_ | refine rd_mt ?_ | refine rd_lc ?_ | refine rd_lcM ?_ | refine rd_yes ?_ | refine rd_wseq ?_ | refine rd_wsT ?_ | refine rd_wsL ?_ | refine rd_wsS ?_ | refine rd_wzip ?_ | refine rd_zipT ?_ | refine rd_rng1 ?_ | refine rd_rng2 ?_ | refine rd_sl ?_ | refine rd_slT ?_ | refine rd_slL ?_ | refine rd_slS ?_ | refine rd_nopart ?_ | refine rd_part ?_ | refine rd_ptK ?_ | refine rd_star ?_ | refine rd_ss ?_ | refine rd_itet ?_ | refine rd_itef ?_ | refine rd_itnt ?_ | refine rd_itnf ?_) | ((with_reducible apply rd_var); (· exact rfl)) | ((with_reducible apply rd_asgK); (· exact rfl)) | ((with_reducible apply rd_parK); (· exact rfl)) | ((with_reducible apply rd_len); (· (first | assumption | exact seqD_ref (by assumption) | exact seqD_up | exact lstD_ref (by assumption) | exact lstD_up | rfl))) | ((with_reducible apply rd_tuple); (· (first | assumption | exact seqD_ref (by assumption) | exact seqD_up | exact lstD_ref (by assumption) | exact lstD_up | rfl))) | ((with_reducible apply rd_list); (· (first | assumption | exact seqD_ref (by assumption) | exact seqD_up | exact lstD_ref (by assumption) | exact lstD_up | rfl))) | ((with_reducible apply rd_stK); (· (first | assumption | exact seqD_ref (by assumption) | exact seqD_up | exact lstD_ref (by assumption) | exact lstD_up | rfl))) | ((with_reducible apply rd_ix); (· (first | assumption | exact seqD_ref (by assumption) | exact seqD_up | exact lstD_ref (by assumption) | exact lstD_up | rfl)); (· (first | exact atI_c0 _ _ | exact atI_c1 _ _ _ | exact atI_c2 _ _ _ _ | assumption | rfl))) | ((with_reducible apply rd_set30); (· (first | assumption | exact gup_same))) | ((with_reducible apply rd_set32); (· (first | assumption | exact gup_same))) | ((with_reducible apply rd_some); (· (first | assumption | exact seqD_ref (by assumption) | exact seqD_up | exact lstD_ref (by assumption) | exact lstD_up | rfl)))))
    refine rd_slR h1 ?_
    rw [show (1 : Int) = ((1 : Nat) : Int) from rfl, cutD_from]
    (repeat (first | (with_reducible first | refine rd_seq ?_ | refine rd_seqE ?_ | refine rd_next ?_ | refine rd_rtE ?_ | refine rd_nxE ?_ | refine rd_nx ?_ | refine rd_rt ?_ | refine rd_ct ?_ | refine rd_bk ?_ | refine rd_drop ?_ | refine rd_ret ?_ | refine rd_retN ?_ | refine rd_dif ?_ | refine rd_asg ?_ | refine rd_par ?_ | refine rd_for ?_ | refine rd_break ?_ | refine rd_cont ?_ | refine rd_c ?_ | refine rd_op ?_ | refine rd_un ?_ | refine rd_b ?_ | refine rd_bK ?_ | refine rd_tru ?_ | refine rd_tKb ?_ | refine rd_and ?_ | refine rd_or ?_ | refine rd_not ?_ | refine rd_andV ?_ | refine rd_orV ?_ | refine rd_notV ?_ | refine rd_tvKb ?_ | refine rd_ifE ?_ | refine rd_nil ?_ | refine rd_cons ?_ | refine rd_tup ?_ | refine rd_lst ?_ | refine rd_lstM ?_ | refine rd_cb ?_ | refine rd_call ?_ | refine rd_sp0 ?_ | refine rd_sp1 ?_ | refine rd_sp2 ?_ | refine rd_sp3 ?_ | refine rd_int ?_ | refine rd_intb ?_ | refine rd_abs ?_ | refine rd_ii ?_ | refine rd_add ?_ | refine rd_sub ?_ | refine rd_addI ?_ | refine rd_cmp ?_ | refine rd_setI ?_ | refine rd_mt ?_ | refine rd_lc ?_ | refine rd_lcM ?_ | refine rd_yes ?_ | refine rd_wseq ?_ | refine rd_wsT ?_ | refine rd_wsL ?_ | refine rd_wsS ?_ | refine rd_wzip ?_ | refine rd_zipT ?_ | refine rd_rng1 ?_ | refine rd_rng2 ?_ | refine rd_sl ?_ | refine rd_slT ?_ | refine rd_slL ?_ | refine rd_slS ?_ | refine rd_nopart ?_ | refine rd_part ?_ | refine rd_ptK ?_ | refine rd_star ?_ | refine rd_ss ?_ | refine rd_itet ?_ | refine rd_itef ?_ | refine rd_itnt ?_ | refine rd_itnf ?_) | ((with_reducible apply rd_var); (· exact rfl)) | ((with_reducible apply rd_asgK); (· exact rfl)) | ((with_reducible apply rd_parK); (· exact rfl)) | ((with_reducible apply rd_len); (· (first | assumption | exact seqD_ref (by assumption) | exact seqD_up | exact lstD_ref (by assumption) | exact lstD_up | rfl))) | ((with_reducible apply rd_tuple); (· (first | assumption | exact seqD_ref (by assumption) | exact seqD_up | exact lstD_ref (by assumption) | exact lstD_up | rfl))) | ((with_reducible apply rd_list); (· (first | assumption | exact seqD_ref (by assumption) | exact seqD_up | exact lstD_ref (by assumption) | exact lstD_up | rfl))) | ((with_reducible apply rd_stK); (· (first | assumption | exact seqD_ref (by assumption) | exact seqD_up | exact lstD_ref (by assumption) | exact lstD_up | rfl))) | ((with_reducible apply rd_ix); (· (first | assumption | exact seqD_ref (by assumption) | exact seqD_up | exact lstD_ref (by assumption) | exact lstD_up | rfl)); (· (first | exact atI_c0 _ _ | exact atI_c1 _ _ _ | exact atI_c2 _ _ _ _ | assumption | rfl))) | ((with_reducible apply rd_set30); (· (first | assumption | exact gup_same))) | ((with_reducible apply rd_set32); (· (first | assumption | exact gup_same))) | ((with_reducible apply rd_some); (· (first | assumption | exact seqD_ref (by assumption) | exact seqD_up | exact lstD_ref (by assumption) | exact lstD_up | rfl)))))
    refine rd_sorted rfl (sort_tIs fun w hw => (h2 w hw).1) ?_
    refine ⟨g, fun a => ?_, k _ (fun d hd => ?_) ?_⟩
    · by_cases hb : a = q
      · subst hb
        exact .inr hq
      · exact .inl (h5 a hb).symm
    · obtain ⟨w, hw, e⟩ := List.mem_map.mp (List.mem_mergeSort.mp hd)
      exact ⟨w, e.symm, (h2 w hw).2⟩
    · rw [List.length_mergeSort]
      show (ws.map tI).length ≤ 64
      rw [List.length_map]
      omega

abbrev s_require_degrees : Stmt := topS 16
abbrev N_require_degrees : List Str := ["value"]
theorem sc_require_degrees : FnScope N_require_degrees ["value"] (defScope s_require_degrees) := ⟨rfl, rfl, rfl, by decide +kernel, rfl, by decide +kernel, by decide +kernel⟩
abbrev sp_require_degrees : SpD :=
  sp1 fun a g P => ∃ xs, a = tI xs ∧ PD xs ∧ P .non g
theorem ok_require_degrees {P : Program} {w : World} {K : Fg} {mg : Str → Option Value} {base : Heap} {t_MAX_PLACE t_MAX_STEP t_MOST_LAST t_MOST_MOST : Tok} {f f_is_pure_degrees : Addr} {fd d_is_pure_degrees : FuncData} (D : Dfn K mg "require_degrees" s_require_degrees ["value"] f fd) (T : Txt K mg t_MAX_PLACE t_MAX_STEP t_MOST_LAST t_MOST_MOST) (D_is_pure_degrees : Dfn K mg "is_pure_degrees" s_is_pure_degrees ["value"] f_is_pure_degrees d_is_pure_degrees) (G_is_pure_degrees : FnOk P w K mg base CX0 3 f_is_pure_degrees d_is_pure_degrees ["value"] (upSp K sp_is_pure_degrees)) :
    FnOk P w K mg base CX0 4 f fd ["value"] (upSp K sp_require_degrees) := by
  refine fun_okD D.fn sc_require_degrees (fun ds g Q h => len1 h) (fun cdv A outer s H E hr => ⟨_, (pds_one (pds_if (pt_notD (pt_truD (pd_call G_is_pure_degrees (hr.mono (by decide)) D_is_pure_degrees.at_ D_is_pure_degrees.fn.kp D_is_pure_degrees.bd pass0 (pda_cons (pdv 0) pda_nil)))) (pds_one pds_never) pds_nil)), ?_⟩)
  intro ds g Q h
  obtain ⟨a0, rfl, h⟩ := sp1_of h
  rw [show startD N_require_degrees [a0] = [some a0] from rfl]
  obtain ⟨xs, e1, h1, k⟩ := h
  subst e1
  simp only [dSeq, dNext, dDrop, dRet, dRetN, dIf, dAsg, bindT, setAll, dPar, dFor, dVar, dC, dOp, dB, dChain, dTru, dAnd, dOr, dNot, dAndV, dOrV, dNotV, dIfE, dUn, dNil, dCons, dTup, dLst, dLstM, dCB, dCall, ixD, optD, wSeq, wRng1, wRng2, wRngD, wZip, one1, one2, one3, dLc, dLcM, dYes, dMt, dMt0, rmAppend, rmExtend, rmPop, atL, dSetI, dSl, dPart, dNoPart, dStar, rr1, rr2, rrLen, rrInt, rrAbs, rrII, rrSum, rrBs, rrTuple, rrList, rrSorted, rrIsi, rrAdd, rrI, rrCmp, rrEq, rrNe, rrIsN, rrNotN, nth, truD, seqD, lstD, tyNm, isiN, dEnds, List.set, wipeD, gup_same, dFz, dWhile, dNever, dBreak, dCont, atI_c0, atI_c1, atI_c2, ixN_30, ixN_31, ixN_32, List.length_cons, List.length_nil, Nat.zero_add, Nat.reduceAdd, decide_eq_true_eq, sp_is_pure_degrees, sp1]
  have h9 := h1.len
  refine ⟨pl_tI xs, tI_le (by omega), ?_⟩
  rw [isPD_of h1, if_neg (by decide)]
  exact dret k

abbrev s_is_below : Stmt := topS 17
abbrev N_is_below : List Str := ["value", "other"]
theorem sc_is_below : FnScope N_is_below ["value", "other"] (defScope s_is_below) := ⟨rfl, rfl, rfl, by decide +kernel, rfl, by decide +kernel, by decide +kernel⟩
abbrev sp_is_below : SpD :=
  sp2 fun a b g P => ∃ xs ys, a = tI xs ∧ PD xs ∧ b = tI ys ∧ PD ys ∧ P (.bl (belowB xs ys)) g
theorem ok_is_below {P : Program} {w : World} {K : Fg} {mg : Str → Option Value} {base : Heap} {t_MAX_PLACE t_MAX_STEP t_MOST_LAST t_MOST_MOST : Tok} {f f_is_below_in f_is_pure_degrees f_require_degrees : Addr} {fd d_is_below_in d_is_pure_degrees d_require_degrees : FuncData} (D : Dfn K mg "is_below" s_is_below ["value", "other"] f fd) (T : Txt K mg t_MAX_PLACE t_MAX_STEP t_MOST_LAST t_MOST_MOST) (D_is_below_in : Dfn K mg "is_below_in" s_is_below_in ["one", "other"] f_is_below_in d_is_below_in) (G_is_below_in : FnOk P w K mg base CX0 1 f_is_below_in d_is_below_in ["one", "other"] (upSp K sp_is_below_in)) (D_is_pure_degrees : Dfn K mg "is_pure_degrees" s_is_pure_degrees ["value"] f_is_pure_degrees d_is_pure_degrees) (G_is_pure_degrees : FnOk P w K mg base CX0 3 f_is_pure_degrees d_is_pure_degrees ["value"] (upSp K sp_is_pure_degrees)) (D_require_degrees : Dfn K mg "require_degrees" s_require_degrees ["value"] f_require_degrees d_require_degrees) (G_require_degrees : FnOk P w K mg base CX0 4 f_require_degrees d_require_degrees ["value"] (upSp K sp_require_degrees)) :
    FnOk P w K mg base CX0 5 f fd ["value", "other"] (upSp K sp_is_below) := by
  refine fun_okD D.fn sc_is_below (fun ds g Q h => len2 h) (fun cdv A outer s H E hr => ⟨_, (pds_cons (pds_expr (pd_call G_require_degrees (hr.mono (by decide)) D_require_degrees.at_ D_require_degrees.fn.kp D_require_degrees.bd pass0 (pda_cons (pdv 1) pda_nil))) (pds_one (pds_ret (pd_and (pd_call G_is_pure_degrees (hr.mono (by decide)) D_is_pure_degrees.at_ D_is_pure_degrees.fn.kp D_is_pure_degrees.bd pass0 (pda_cons (pdv 0) pda_nil)) (pd_one (pd_call G_is_below_in (hr.mono (by decide)) D_is_below_in.at_ D_is_below_in.fn.kp D_is_below_in.bd pass0 (pda_cons (pdv 0) (pda_cons (pdv 1) pda_nil)))))))), ?_⟩)
  intro ds g Q h
  obtain ⟨a0, a1, rfl, h⟩ := sp2_of h
  rw [show startD N_is_below [a0, a1] = [some a0, some a1] from rfl]
  obtain ⟨xs, ys, e1, h1, e2, h2, k⟩ := h
  subst e1 e2
  have h9 := h1.len
  have h9' := h2.len
  simp only [dSeq, dNext, dDrop, dRet, dRetN, dIf, dAsg, bindT, setAll, dPar, dFor, dVar, dC, dOp, dB, dChain, dTru, dAnd, dOr, dNot, dAndV, dOrV, dNotV, dIfE, dUn, dNil, dCons, dTup, dLst, dLstM, dCB, dCall, ixD, optD, wSeq, wRng1, wRng2, wRngD, wZip, one1, one2, one3, dLc, dLcM, dYes, dMt, dMt0, rmAppend, rmExtend, rmPop, atL, dSetI, dSl, dPart, dNoPart, dStar, rr1, rr2, rrLen, rrInt, rrAbs, rrII, rrSum, rrBs, rrTuple, rrList, rrSorted, rrIsi, rrAdd, rrI, rrCmp, rrEq, rrNe, rrIsN, rrNotN, nth, truD, seqD, lstD, tyNm, isiN, dEnds, List.set, wipeD, gup_same, dFz, dWhile, dNever, dBreak, dCont, atI_c0, atI_c1, atI_c2, ixN_30, ixN_31, ixN_32, List.length_cons, List.length_nil, Nat.zero_add, Nat.reduceAdd, decide_eq_true_eq, sp_is_pure_degrees, sp_require_degrees, sp_is_below_in, sp1, sp2]
  refine ⟨ys, rfl, h2, pl_tI xs, tI_le (by omega), ?_⟩
  rw [isPD_of h1, if_pos rfl]
  exact ⟨xs, ys, rfl, rfl, h9, h9', dret k⟩

abbrev s_pure_degrees : Stmt := topS 18
abbrev N_pure_degrees : List Str := ["last", "most"]
theorem sc_pure_degrees : FnScope N_pure_degrees ["last", "most"] (defScope s_pure_degrees) := ⟨rfl, rfl, rfl, by decide +kernel, rfl, by decide +kernel, by decide +kernel⟩
abbrev sp_pure_degrees : SpD :=
  sp2 fun a b g P => a = .int 3 ∧ b = .int 5 ∧ ∀ ds, (∀ d ∈ ds, ∃ xs : List Int, d = tI xs ∧ xs.length ≤ 4) → ds.length ≤ 64 → P (.tup ds) g
theorem ok_pure_degrees {P : Program} {w : World} {K : Fg} {mg : Str → Option Value} {base : Heap} {t_MAX_PLACE t_MAX_STEP t_MOST_LAST t_MOST_MOST : Tok} {f f_windowed f_require_within : Addr} {fd d_windowed d_require_within : FuncData} (D : Dfn K mg "pure_degrees" s_pure_degrees ["last", "most"] f fd) (T : Txt K mg t_MAX_PLACE t_MAX_STEP t_MOST_LAST t_MOST_MOST) (D_windowed : Dfn K mg "windowed" s_windowed ["last", "most"] f_windowed d_windowed) (G_windowed : FnOk P w K mg base CX0 1 f_windowed d_windowed ["last", "most"] (upSp K sp_windowed)) (D_require_within : Dfn K mg "require_within" s_require_within ["value", "least", "greatest"] f_require_within d_require_within) (G_require_within : FnOk P w K mg base CX0 3 f_require_within d_require_within ["value", "least", "greatest"] (upSp K sp_require_within)) :
    FnOk P w K mg base CX0 4 f fd ["last", "most"] (upSp K sp_pure_degrees) := by
  refine fun_okD D.fn sc_pure_degrees (fun ds g Q h => len2 h) (fun cdv A outer s H E hr => ⟨_, (pds_cons (pds_expr (pd_call G_require_within (hr.mono (by decide)) D_require_within.at_ D_require_within.fn.kp D_require_within.bd pass0 (pda_cons (pdv 0) (pda_cons pd_int (pda_cons (pd_globI T.c_MOST_LAST) pda_nil))))) (pds_cons (pds_expr (pd_call G_require_within (hr.mono (by decide)) D_require_within.at_ D_require_within.fn.kp D_require_within.bd pass0 (pda_cons (pdv 1) (pda_cons pd_int (pda_cons (pd_globI T.c_MOST_MOST) pda_nil))))) (pds_one (pds_ret (pd_callTy call_tuple_of ref_tuple T.b_tuple (by decide +kernel) (pda_cons (pd_call G_windowed (hr.mono (by decide)) D_windowed.at_ D_windowed.fn.kp D_windowed.bd pass0 (pda_cons (pdv 0) (pda_cons (pdv 1) pda_nil))) pda_nil)))))), ?_⟩)
  intro ds g Q h
  obtain ⟨a0, a1, rfl, h⟩ := sp2_of h
  rw [show startD N_pure_degrees [a0, a1] = [some a0, some a1] from rfl]
  obtain ⟨e1, e2, k⟩ := h
  subst e1 e2
  (repeat (first | (with_reducible first | refine rd_seq ?_ | refine rd_seqE ?_ | refine rd_next ?_ | refine rd_rtE ?_ | refine rd_nxE ?_ | refine rd_nx ?_ | refine rd_rt ?_ | refine rd_ct ?_ | refine rd_bk ?_ | refine rd_drop ?_ | refine rd_ret ?_ | refine rd_retN ?_ | refine rd_dif ?_ | refine rd_asg ?_ | refine rd_par ?_ | refine rd_for ?_ | refine rd_break ?_ | refine rd_cont ?_ | refine rd_c ?_ | refine rd_op ?_ | refine rd_un ?_ | refine rd_b ?_ | refine rd_bK ?_ | refine rd_tru ?_ | refine rd_tKb ?_ | refine rd_and ?_ | refine rd_or ?_ | refine rd_not ?_ | refine rd_andV ?_ | refine rd_orV ?_ | refine rd_notV ?_ | refine rd_tvKb ?_ | refine rd_ifE ?_ | refine rd_nil ?_ | refine rd_cons ?_ | refine rd_tup ?_ | refine rd_lst ?_ | refine rd_lstM ?_ | refine rd_cb ?_ | refine rd_call ?_ | refine rd_sp0 ?_ | refine rd_sp1 ?_ | refine rd_sp2 ?_ | refine rd_sp3 ?_ | refine rd_int ?_ | refine rd_intb ?_ | refine rd_abs ?_ | refine rd_ii ?_ | refine rd_add ?_ | refine rd_sub ?_ | refine rd_addI ?_ | refine rd_cmp ?_ | refine rd_setI ?_ | refine rd_mt ?_ | refine rd_lc ?_ | refine rd_lcM ?_ | refine rd_yes ?_ | refine rd_wseq ?_ | refine rd_wsT ?_ | refine rd_wsL ?_ | refine rd_wsS ?_ | refine rd_wzip ?_ | refine rd_zipT ?_ | refine rd_rng1 ?_ | refine rd_rng2 ?_ | refine rd_sl ?_ | refine rd_slT ?_ | refine rd_slL ?_ | refine rd_slS ?_ | refine rd_nopart ?_ | refine rd_part ?_ | refine rd_ptK ?_ | refine rd_star ?_ | refine rd_ss ?_ | refine rd_itet ?_ | refine rd_itef ?_ | refine rd_itnt ?_ | refine rd_itnf ?_) | ((with_reducible apply rd_var); (· exact rfl)) | ((with_reducible apply rd_asgK); (· exact rfl)) | ((with_reducible apply rd_parK); (· exact rfl)) | ((with_reducible apply rd_len); (· (first | assumption | exact seqD_ref (by assumption) | exact seqD_up | exact lstD_ref (by assumption) | exact lstD_up | rfl))) | ((with_reducible apply rd_tuple); (· (first | assumption | exact seqD_ref (by assumption) | exact seqD_up | exact lstD_ref (by assumption) | exact lstD_up | rfl))) | ((with_reducible apply rd_list); (· (first | assumption | exact seqD_ref (by assumption) | exact seqD_up | exact lstD_ref (by assumption) | exact lstD_up | rfl))) | ((with_reducible apply rd_stK); (· (first | assumption | exact seqD_ref (by assumption) | exact seqD_up | exact lstD_ref (by assumption) | exact lstD_up | rfl))) | ((with_reducible apply rd_ix); (· (first | assumption | exact seqD_ref (by assumption) | exact seqD_up | exact lstD_ref (by assumption) | exact lstD_up | rfl)); (· (first | exact atI_c0 _ _ | exact atI_c1 _ _ _ | exact atI_c2 _ _ _ _ | assumption | rfl))) | ((with_reducible apply rd_set30); (· (first | assumption | exact gup_same))) | ((with_reducible apply rd_set32); (· (first | assumption | exact gup_same))) | ((with_reducible apply rd_some); (· (first | assumption | exact seqD_ref (by assumption) | exact seqD_up | exact lstD_ref (by assumption) | exact lstD_up | rfl)))))
  refine ⟨3, 0, 3, rfl, rfl, rfl, by decide, by decide, ?_⟩
  (repeat (first | (with_reducible first | refine rd_seq ?_ | refine rd_seqE ?_ | refine rd_next ?_ | refine rd_rtE ?_ | refine rd_nxE ?_ | refine rd_nx ?_ | refine rd_rt ?_ | refine rd_ct ?_ | refine rd_bk ?_ | refine rd_drop ?_ | refine rd_ret ?_ | refine rd_retN ?_ | refine rd_dif ?_ | refine rd_asg ?_ | refine rd_par ?_ | refine rd_for ?_ | refine rd_break ?_ | refine rd_cont ?_ | refine rd_c ?_ | refine rd_op ?_ | refine rd_un ?_ | refine rd_b ?_ | refine rd_bK ?_ | refine rd_tru ?_ | refine rd_tKb ?_ | refine rd_and ?_ | refine rd_or ?_ | refine rd_not ?_ | refine rd_andV ?_ | refine rd_orV ?_ | refine rd_notV ?_ | refine rd_tvKb ?_ | refine rd_ifE ?_ | refine rd_nil ?_ | refine rd_cons ?_ | refine rd_tup ?_ | refine rd_lst ?_ | refine rd_lstM ?_ | refine rd_cb ?_ | refine rd_call ?_ | refine rd_sp0 ?_ | refine rd_sp1 ?_ | refine rd_sp2 ?_ | refine rd_sp3 ?_ | refine rd_int ?_ | refine rd_intb ?_ | refine rd_abs ?_ | refine rd_ii ?_ | refine rd_add ?_ | refine rd_sub ?_ | refine rd_addI ?_ | refine rd_cmp ?_ | refine rd_setI ?_ | refine rd_mt ?_ | refine rd_lc ?_ | refine rd_lcM ?_ | refine rd_yes ?_ | refine rd_wseq ?_ | refine rd_wsT ?_ | refine rd_wsL ?_ | refine rd_wsS ?_ | refine rd_wzip ?_ | refine rd_zipT ?_ | refine rd_rng1 ?_ | refine rd_rng2 ?_ | refine rd_sl ?_ | refine rd_slT ?_ | refine rd_slL ?_ | refine rd_slS ?_ | refine rd_nopart ?_ | refine rd_part ?_ | refine rd_ptK ?_ | refine rd_star ?_ | refine rd_ss ?_ | refine rd_itet ?_ | refine rd_itef ?_ | refine rd_itnt ?_ | refine rd_itnf ?_) | ((with_reducible apply rd_var); (· exact rfl)) | ((with_reducible apply rd_asgK); (· exact rfl)) | ((with_reducible apply rd_parK); (· exact rfl)) | ((with_reducible apply rd_len); (· (first | assumption | exact seqD_ref (by assumption) | exact seqD_up | exact lstD_ref (by assumption) | exact lstD_up | rfl))) | ((with_reducible apply rd_tuple); (· (first | assumption | exact seqD_ref (by assumption) | exact seqD_up | exact lstD_ref (by assumption) | exact lstD_up | rfl))) | ((with_reducible apply rd_list); (· (first | assumption | exact seqD_ref (by assumption) | exact seqD_up | exact lstD_ref (by assumption) | exact lstD_up | rfl))) | ((with_reducible apply rd_stK); (· (first | assumption | exact seqD_ref (by assumption) | exact seqD_up | exact lstD_ref (by assumption) | exact lstD_up | rfl))) | ((with_reducible apply rd_ix); (· (first | assumption | exact seqD_ref (by assumption) | exact seqD_up | exact lstD_ref (by assumption) | exact lstD_up | rfl)); (· (first | exact atI_c0 _ _ | exact atI_c1 _ _ _ | exact atI_c2 _ _ _ _ | assumption | rfl))) | ((with_reducible apply rd_set30); (· (first | assumption | exact gup_same))) | ((with_reducible apply rd_set32); (· (first | assumption | exact gup_same))) | ((with_reducible apply rd_some); (· (first | assumption | exact seqD_ref (by assumption) | exact seqD_up | exact lstD_ref (by assumption) | exact lstD_up | rfl)))))
  refine ⟨5, 0, 5, rfl, rfl, rfl, by decide, by decide, ?_⟩
  (repeat (first | (with_reducible first | refine rd_seq ?_ | refine rd_seqE ?_ | refine rd_next ?_ | refine rd_rtE ?_ | refine rd_nxE ?_ | refine rd_nx ?_ | refine rd_rt ?_ | refine rd_ct ?_ | refine rd_bk ?_ | refine rd_drop ?_ | refine rd_ret ?_ | refine rd_retN ?_ | refine rd_dif ?_ | refine rd_asg ?_ | refine rd_par ?_ | refine rd_for ?_ | refine rd_break ?_ | refine rd_cont ?_ | refine rd_c ?_ | refine rd_op ?_ | refine rd_un ?_ | refine rd_b ?_ | refine rd_bK ?_ | refine rd_tru ?_ | refine rd_tKb ?_ | refine rd_and ?_ | refine rd_or ?_ | refine rd_not ?_ | refine rd_andV ?_ | refine rd_orV ?_ | refine rd_notV ?_ | refine rd_tvKb ?_ | refine rd_ifE ?_ | refine rd_nil ?_ | refine rd_cons ?_ | refine rd_tup ?_ | refine rd_lst ?_ | refine rd_lstM ?_ | refine rd_cb ?_ | refine rd_call ?_ | refine rd_sp0 ?_ | refine rd_sp1 ?_ | refine rd_sp2 ?_ | refine rd_sp3 ?_ | refine rd_int ?_ | refine rd_intb ?_ | refine rd_abs ?_ | refine rd_ii ?_ | refine rd_add ?_ | refine rd_sub ?_ | refine rd_addI ?_ | refine rd_cmp ?_ | refine rd_setI ?_ | refine rd_mt ?_ | refine rd_lc ?_ | refine rd_lcM ?_ | refine rd_yes ?_ | refine rd_wseq ?_ | refine rd_wsT ?_ | refine rd_wsL ?_ | refine rd_wsS ?_ | refine rd_wzip ?_ | refine rd_zipT ?_ | refine rd_rng1 ?_ | refine rd_rng2 ?_ | refine rd_sl ?_ | refine rd_slT ?_ | refine rd_slL ?_ | refine rd_slS ?_ | refine rd_nopart ?_ | refine rd_part ?_ | refine rd_ptK ?_ | refine rd_star ?_ | refine rd_ss ?_ | refine rd_itet ?_ | refine rd_itef ?_ | refine rd_itnt ?_ | refine rd_itnf ?_) | ((with_reducible apply rd_var); (· exact rfl)) | ((with_reducible apply rd_asgK); (· exact rfl)) | ((with_reducible apply rd_parK); (· exact rfl)) | ((with_reducible apply rd_len); (· (first | assumption | exact seqD_ref (by assumption) | exact seqD_up | exact lstD_ref (by assumption) | exact lstD_up | rfl))) | ((with_reducible apply rd_tuple); (· (first | assumption | exact seqD_ref (by assumption) | exact seqD_up | exact lstD_ref (by assumption) | exact lstD_up | rfl))) | ((with_reducible apply rd_list); (· (first | assumption | exact seqD_ref (by assumption) | exact seqD_up | exact lstD_ref (by assumption) | exact lstD_up | rfl))) | ((with_reducible apply rd_stK); (· (first | assumption | exact seqD_ref (by assumption) | exact seqD_up | exact lstD_ref (by assumption) | exact lstD_up | rfl))) | ((with_reducible apply rd_ix); (· (first | assumption | exact seqD_ref (by assumption) | exact seqD_up | exact lstD_ref (by assumption) | exact lstD_up | rfl)); (· (first | exact atI_c0 _ _ | exact atI_c1 _ _ _ | exact atI_c2 _ _ _ _ | assumption | rfl))) | ((with_reducible apply rd_set30); (· (first | assumption | exact gup_same))) | ((with_reducible apply rd_set32); (· (first | assumption | exact gup_same))) | ((with_reducible apply rd_some); (· (first | assumption | exact seqD_ref (by assumption) | exact seqD_up | exact lstD_ref (by assumption) | exact lstD_up | rfl)))))
  refine ⟨rfl, rfl, fun ds h1 h2 => ?_⟩
  (repeat (first | (with_reducible first | refine rd_seq ?_ | refine rd_seqE ?_ | refine rd_next ?_ | refine rd_rtE ?_ | refine rd_nxE ?_ | refine rd_nx ?_ | refine rd_rt ?_ | refine rd_ct ?_ | refine rd_bk ?_ | refine rd_drop ?_ | refine rd_ret ?_ | refine rd_retN ?_ | refine rd_dif ?_ | refine rd_asg ?_ | refine rd_par ?_ | refine rd_for ?_ | refine rd_break ?_ | refine rd_cont ?_ | refine rd_c ?_ | refine rd_op ?_ | refine rd_un ?_ | refine rd_b ?_ | refine rd_bK ?_ | refine rd_tru ?_ | refine rd_tKb ?_ | refine rd_and ?_ | refine rd_or ?_ | refine rd_not ?_ | refine rd_andV ?_ | refine rd_orV ?_ | refine rd_notV ?_ | refine rd_tvKb ?_ | refine rd_ifE ?_ | refine rd_nil ?_ | refine rd_cons ?_ | refine rd_tup ?_ | refine rd_lst ?_ | refine rd_lstM ?_ | refine rd_cb ?_ | refine rd_call ?_ | refine rd_sp0 ?_ | refine rd_sp1 ?_ | refine rd_sp2 ?_ | refine rd_sp3 ?_ | refine rd_int ?_ | refine rd_intb ?_ | refine rd_abs ?_ | refine rd_ii ?_ | refine rd_add ?_ | refine rd_sub ?_ | refine rd_addI ?_ | refine rd_cmp ?_ | refine rd_setI ?_ | refine rd_mt ?_ | refine rd_lc ?_ | refine rd_lcM ?_ | refine rd_yes ?_ | refine rd_wseq ?_ | refine rd_wsT ?_ | refine rd_wsL ?_ | refine rd_wsS ?_ | refine rd_wzip ?_ | refine rd_zipT ?_ | refine rd_rng1 ?_ | refine rd_rng2 ?_ | refine rd_sl ?_ | refine rd_slT ?_ | refine rd_slL ?_ | refine rd_slS ?_ | refine rd_nopart ?_ | refine rd_part ?_ | refine rd_ptK ?_ | refine rd_star ?_ | refine rd_ss ?_ | refine rd_itet ?_ | refine rd_itef ?_ | refine rd_itnt ?_ | refine rd_itnf ?_) | ((with_reducible apply rd_var); (· exact rfl)) | ((with_reducible apply rd_asgK); (· exact rfl)) | ((with_reducible apply rd_parK); (· exact rfl)) | ((with_reducible apply rd_len); (· (first | assumption | exact seqD_ref (by assumption) | exact seqD_up | exact lstD_ref (by assumption) | exact lstD_up | rfl))) | ((with_reducible apply rd_tuple); (· (first | assumption | exact seqD_ref (by assumption) | exact seqD_up | exact lstD_ref (by assumption) | exact lstD_up | rfl))) | ((with_reducible apply rd_list); (· (first | assumption | exact seqD_ref (by assumption) | exact seqD_up | exact lstD_ref (by assumption) | exact lstD_up | rfl))) | ((with_reducible apply rd_stK); (· (first | assumption | exact seqD_ref (by assumption) | exact seqD_up | exact lstD_ref (by assumption) | exact lstD_up | rfl))) | ((with_reducible apply rd_ix); (· (first | assumption | exact seqD_ref (by assumption) | exact seqD_up | exact lstD_ref (by assumption) | exact lstD_up | rfl)); (· (first | exact atI_c0 _ _ | exact atI_c1 _ _ _ | exact atI_c2 _ _ _ _ | assumption | rfl))) | ((with_reducible apply rd_set30); (· (first | assumption | exact gup_same))) | ((with_reducible apply rd_set32); (· (first | assumption | exact gup_same))) | ((with_reducible apply rd_some); (· (first | assumption | exact seqD_ref (by assumption) | exact seqD_up | exact lstD_ref (by assumption) | exact lstD_up | rfl)))))
  exact dret (k ds h1 h2)

abbrev s_require_two_degrees : Stmt := topS 20
abbrev N_require_two_degrees : List Str := ["one", "other"]
theorem sc_require_two_degrees : FnScope N_require_two_degrees ["one", "other"] (defScope s_require_two_degrees) := ⟨rfl, rfl, rfl, by decide +kernel, rfl, by decide +kernel, by decide +kernel⟩
abbrev sp_require_two_degrees : SpD :=
  sp2 fun a b g P => ∃ xs ys, a = tI xs ∧ b = tI ys ∧ PD xs ∧ PD ys ∧ P .non g
theorem ok_require_two_degrees {P : Program} {w : World} {K : Fg} {mg : Str → Option Value} {base : Heap} {t_MAX_PLACE t_MAX_STEP t_MOST_LAST t_MOST_MOST : Tok} {f f_require_degrees : Addr} {fd d_require_degrees : FuncData} (D : Dfn K mg "require_two_degrees" s_require_two_degrees ["one", "other"] f fd) (T : Txt K mg t_MAX_PLACE t_MAX_STEP t_MOST_LAST t_MOST_MOST) (D_require_degrees : Dfn K mg "require_degrees" s_require_degrees ["value"] f_require_degrees d_require_degrees) (G_require_degrees : FnOk P w K mg base CX0 4 f_require_degrees d_require_degrees ["value"] (upSp K sp_require_degrees)) :
    FnOk P w K mg base CX0 5 f fd ["one", "other"] (upSp K sp_require_two_degrees) := by
  refine fun_okD D.fn sc_require_two_degrees (fun ds g Q h => len2 h) (fun cdv A outer s H E hr => ⟨_, (pds_cons (pds_expr (pd_call G_require_degrees (hr.mono (by decide)) D_require_degrees.at_ D_require_degrees.fn.kp D_require_degrees.bd pass0 (pda_cons (pdv 0) pda_nil))) (pds_one (pds_expr (pd_call G_require_degrees (hr.mono (by decide)) D_require_degrees.at_ D_require_degrees.fn.kp D_require_degrees.bd pass0 (pda_cons (pdv 1) pda_nil))))), ?_⟩)
  intro ds g Q h
  obtain ⟨a0, a1, rfl, h⟩ := sp2_of h
  rw [show startD N_require_two_degrees [a0, a1] = [some a0, some a1] from rfl]
  obtain ⟨xs, ys, e1, e2, h1, h2, k⟩ := h
  subst e1 e2
  simp only [dSeq, dNext, dDrop, dRet, dRetN, dIf, dAsg, bindT, setAll, dPar, dFor, dVar, dC, dOp, dB, dChain, dTru, dAnd, dOr, dNot, dAndV, dOrV, dNotV, dIfE, dUn, dNil, dCons, dTup, dLst, dLstM, dCB, dCall, ixD, optD, wSeq, wRng1, wRng2, wRngD, wZip, one1, one2, one3, dLc, dLcM, dYes, dMt, dMt0, rmAppend, rmExtend, rmPop, atL, dSetI, dSl, dPart, dNoPart, dStar, rr1, rr2, rrLen, rrInt, rrAbs, rrII, rrSum, rrBs, rrTuple, rrList, rrSorted, rrIsi, rrAdd, rrI, rrCmp, rrEq, rrNe, rrIsN, rrNotN, nth, truD, seqD, lstD, tyNm, isiN, dEnds, List.set, wipeD, gup_same, dFz, dWhile, dNever, dBreak, dCont, atI_c0, atI_c1, atI_c2, ixN_30, ixN_31, ixN_32, List.length_cons, List.length_nil, Nat.zero_add, Nat.reduceAdd, decide_eq_true_eq, sp_require_degrees, sp1]
  exact ⟨xs, rfl, h1, ys, rfl, h2, dret k⟩

abbrev s_lower_of : Stmt := topS 21
abbrev N_lower_of : List Str := ["one", "other", "longer", "shared", "first", "second"]
theorem sc_lower_of : FnScope N_lower_of ["one", "other"] (defScope s_lower_of) := ⟨rfl, rfl, rfl, by decide +kernel, rfl, by decide +kernel, by decide +kernel⟩
abbrev sp_lower_of : SpD :=
  sp2 fun a b g P => ∃ xs ys, a = tI xs ∧ b = tI ys ∧ PD xs ∧ PD ys ∧ P (tI (lowerL xs ys)) g
theorem ok_lower_of {P : Program} {w : World} {K : Fg} {mg : Str → Option Value} {base : Heap} {t_MAX_PLACE t_MAX_STEP t_MOST_LAST t_MOST_MOST : Tok} {f f_require_two_degrees : Addr} {fd d_require_two_degrees : FuncData} (D : Dfn K mg "lower_of" s_lower_of ["one", "other"] f fd) (T : Txt K mg t_MAX_PLACE t_MAX_STEP t_MOST_LAST t_MOST_MOST) (D_require_two_degrees : Dfn K mg "require_two_degrees" s_require_two_degrees ["one", "other"] f_require_two_degrees d_require_two_degrees) (G_require_two_degrees : FnOk P w K mg base CX0 5 f_require_two_degrees d_require_two_degrees ["one", "other"] (upSp K sp_require_two_degrees)) :
    FnOk P w K mg base CX0 6 f fd ["one", "other"] (upSp K sp_lower_of) := by
  refine fun_okD D.fn sc_lower_of (fun ds g Q h => len2 h) (fun cdv A outer s H E hr => ⟨_, (pds_cons (pds_expr (pd_call G_require_two_degrees (hr.mono (by decide)) D_require_two_degrees.at_ D_require_two_degrees.fn.kp D_require_two_degrees.bd pass0 (pda_cons (pdv 0) (pda_cons (pdv 1) pda_nil)))) (pds_cons (pds_set (i := 2) sc_lower_of.nd (pd_ifExp (pt_cmpD op_ge (RefCmp.op ref_cmp) (pd_callB call_len_seq ref_len T.b_len (by decide +kernel) (pda_cons (pdv 0) pda_nil)) (pd_callB call_len_seq ref_len T.b_len (by decide +kernel) (pda_cons (pdv 1) pda_nil)) (nomark _)) (pdv 0) (pdv 1))) (pds_cons (pds_setLc (i := 3) (own := [("first", 4), ("second", 5)]) (tg := .tp [4, 5]) rfl sc_lower_of.nd (sw_true rfl rfl rfl (by decide +kernel)) (pid_zip T.b_zip (pda_cons (pdv 0) (pda_cons (pdv 1) pda_nil))) (blkOk_by (own := [("first", 4), ("second", 5)]) (N := N_lower_of) (sc := defScope s_lower_of) (by decide +kernel)) (fun _ _ _ _ _ => (pgd_tp (is := [4, 5]) rfl (pgd_cons (i := 4) (pgd_nm (i := 4) sc_lower_of.nd) (pgd_cons (i := 5) (pgd_nm (i := 5) sc_lower_of.nd) pgd_nil)))) (fun _ _ _ _ _ => ptsd_nil) (fun _ _ _ _ _ => (pd_callB (call_min2 rfl) ref_II T.b_min (by decide +kernel) (pda_cons (pdv 4) (pda_cons (pdv 5) pda_nil))))) (pds_one (pds_ret (pd_tup (pda_star (pdv 3) (pda_star (pd_slice (pdv 2) (pod_some (pd_callB call_len_seq ref_len T.b_len (by decide +kernel) (pda_cons (pdv 3) pda_nil))) pod_none) pda_nil)))))))), ?_⟩)
  intro ds g Q h
  obtain ⟨a0, a1, rfl, h⟩ := sp2_of h
  rw [show startD N_lower_of [a0, a1] = [some a0, some a1, none, none, none, none] from rfl]
  obtain ⟨xs, ys, e1, e2, h1, h2, k⟩ := h
  subst e1 e2
  have hx := h1.len
  have hy := h2.len
  have hz : (zipD (xs.map DV.int) (ys.map DV.int)).length ≤ 16777216 := by
    rw [zipD_len, List.length_map, List.length_map]
    omega
  (repeat (first | (with_reducible first | refine rd_seq ?_ | refine rd_seqE ?_ | refine rd_next ?_ | refine rd_rtE ?_ | refine rd_nxE ?_ | refine rd_nx ?_ | refine rd_rt ?_ | refine rd_ct ?_ | refine rd_bk ?_ | refine rd_drop ?_ | refine rd_ret ?_ | refine rd_retN ?_ | refine rd_dif ?_ | refine rd_asg ?_ | refine rd_par ?_ | refine rd_for ?_ | refine rd_break ?_ | refine rd_cont ?_ | refine rd_c ?_ | refine rd_op ?_ | refine rd_un ?_ | refine rd_b ?_ | refine rd_bK ?_ | refine rd_tru ?_ | refine rd_tKb ?_ | refine rd_and ?_ | refine rd_or ?_ | refine rd_not ?_ | refine rd_andV ?_ | refine rd_orV ?_ | refine rd_notV ?_ | refine rd_tvKb ?_ | refine rd_ifE ?_ | refine rd_nil ?_ | refine rd_cons ?_ | refine rd_tup ?_ | refine rd_lst ?_ | refine rd_lstM ?_ | refine rd_cb ?_ | refine rd_call ?_ | refine rd_sp0 ?_ | refine rd_sp1 ?_ | refine rd_sp2 ?_ | refine rd_sp3 ?_ | refine rd_int ?_ | refine rd_intb ?_ | refine rd_abs ?_ | refine rd_ii ?_ | refine rd_add ?_ | refine rd_sub ?_ | refine rd_addI ?_ | refine rd_cmp ?_ | refine rd_setI ?_ | refine rd_mt ?_ | refine rd_lc ?_ | refine rd_lcM ?_ | refine rd_yes ?_ | refine rd_wseq ?_ | refine rd_wsT ?_ | refine rd_wsL ?_ | refine rd_wsS ?_ | refine rd_wzip ?_ | refine rd_zipT ?_ | refine rd_rng1 ?_ | refine rd_rng2 ?_ | refine rd_sl ?_ | refine rd_slT ?_ | refine rd_slL ?_ | refine rd_slS ?_ | refine rd_nopart ?_ | refine rd_part ?_ | refine rd_ptK ?_ | refine rd_star ?_ | refine rd_ss ?_ | refine rd_itet ?_ | refine rd_itef ?_ | refine rd_itnt ?_ | refine rd_itnf ?_) | ((with_reducible apply rd_var); (· exact rfl)) | ((with_reducible apply rd_asgK); (· exact rfl)) | ((with_reducible apply rd_parK); (· exact rfl)) | ((with_reducible apply rd_len); (· (first | assumption | exact seqD_ref (by assumption) | exact seqD_up | exact lstD_ref (by assumption) | exact lstD_up | rfl))) | ((with_reducible apply rd_tuple); (· (first | assumption | exact seqD_ref (by assumption) | exact seqD_up | exact lstD_ref (by assumption) | exact lstD_up | rfl))) | ((with_reducible apply rd_list); (· (first | assumption | exact seqD_ref (by assumption) | exact seqD_up | exact lstD_ref (by assumption) | exact lstD_up | rfl))) | ((with_reducible apply rd_stK); (· (first | assumption | exact seqD_ref (by assumption) | exact seqD_up | exact lstD_ref (by assumption) | exact lstD_up | rfl))) | ((with_reducible apply rd_ix); (· (first | assumption | exact seqD_ref (by assumption) | exact seqD_up | exact lstD_ref (by assumption) | exact lstD_up | rfl)); (· (first | exact atI_c0 _ _ | exact atI_c1 _ _ _ | exact atI_c2 _ _ _ _ | assumption | rfl))) | ((with_reducible apply rd_set30); (· (first | assumption | exact gup_same))) | ((with_reducible apply rd_set32); (· (first | assumption | exact gup_same))) | ((with_reducible apply rd_some); (· (first | assumption | exact seqD_ref (by assumption) | exact seqD_up | exact lstD_ref (by assumption) | exact lstD_up | rfl)))))
  refine ⟨xs, ys, rfl, rfl, h1, h2, ?_⟩
  (repeat (first | (with_reducible first | refine rd_seq ?_ | refine rd_seqE ?_ | refine rd_next ?_ | refine rd_rtE ?_ | refine rd_nxE ?_ | refine rd_nx ?_ | refine rd_rt ?_ | refine rd_ct ?_ | refine rd_bk ?_ | refine rd_drop ?_ | refine rd_ret ?_ | refine rd_retN ?_ | refine rd_dif ?_ | refine rd_asg ?_ | refine rd_par ?_ | refine rd_for ?_ | refine rd_break ?_ | refine rd_cont ?_ | refine rd_c ?_ | refine rd_op ?_ | refine rd_un ?_ | refine rd_b ?_ | refine rd_bK ?_ | refine rd_tru ?_ | refine rd_tKb ?_ | refine rd_and ?_ | refine rd_or ?_ | refine rd_not ?_ | refine rd_andV ?_ | refine rd_orV ?_ | refine rd_notV ?_ | refine rd_tvKb ?_ | refine rd_ifE ?_ | refine rd_nil ?_ | refine rd_cons ?_ | refine rd_tup ?_ | refine rd_lst ?_ | refine rd_lstM ?_ | refine rd_cb ?_ | refine rd_call ?_ | refine rd_sp0 ?_ | refine rd_sp1 ?_ | refine rd_sp2 ?_ | refine rd_sp3 ?_ | refine rd_int ?_ | refine rd_intb ?_ | refine rd_abs ?_ | refine rd_ii ?_ | refine rd_add ?_ | refine rd_sub ?_ | refine rd_addI ?_ | refine rd_cmp ?_ | refine rd_setI ?_ | refine rd_mt ?_ | refine rd_lc ?_ | refine rd_lcM ?_ | refine rd_yes ?_ | refine rd_wseq ?_ | refine rd_wsT ?_ | refine rd_wsL ?_ | refine rd_wsS ?_ | refine rd_wzip ?_ | refine rd_zipT ?_ | refine rd_rng1 ?_ | refine rd_rng2 ?_ | refine rd_sl ?_ | refine rd_slT ?_ | refine rd_slL ?_ | refine rd_slS ?_ | refine rd_nopart ?_ | refine rd_part ?_ | refine rd_ptK ?_ | refine rd_star ?_ | refine rd_ss ?_ | refine rd_itet ?_ | refine rd_itef ?_ | refine rd_itnt ?_ | refine rd_itnf ?_) | ((with_reducible apply rd_var); (· exact rfl)) | ((with_reducible apply rd_asgK); (· exact rfl)) | ((with_reducible apply rd_parK); (· exact rfl)) | ((with_reducible apply rd_len); (· (first | assumption | exact seqD_ref (by assumption) | exact seqD_up | exact lstD_ref (by assumption) | exact lstD_up | rfl))) | ((with_reducible apply rd_tuple); (· (first | assumption | exact seqD_ref (by assumption) | exact seqD_up | exact lstD_ref (by assumption) | exact lstD_up | rfl))) | ((with_reducible apply rd_list); (· (first | assumption | exact seqD_ref (by assumption) | exact seqD_up | exact lstD_ref (by assumption) | exact lstD_up | rfl))) | ((with_reducible apply rd_stK); (· (first | assumption | exact seqD_ref (by assumption) | exact seqD_up | exact lstD_ref (by assumption) | exact lstD_up | rfl))) | ((with_reducible apply rd_ix); (· (first | assumption | exact seqD_ref (by assumption) | exact seqD_up | exact lstD_ref (by assumption) | exact lstD_up | rfl)); (· (first | exact atI_c0 _ _ | exact atI_c1 _ _ _ | exact atI_c2 _ _ _ _ | assumption | rfl))) | ((with_reducible apply rd_set30); (· (first | assumption | exact gup_same))) | ((with_reducible apply rd_set32); (· (first | assumption | exact gup_same))) | ((with_reducible apply rd_some); (· (first | assumption | exact seqD_ref (by assumption) | exact seqD_up | exact lstD_ref (by assumption) | exact lstD_up | rfl)))))
  refine rd_iteb (fun c => ?_) (fun c => ?_)
  · have c2 : ys.length ≤ xs.length := by simpa using c
    (repeat (first | (with_reducible first | refine rd_seq ?_ | refine rd_seqE ?_ | refine rd_next ?_ | refine rd_rtE ?_ | refine rd_nxE ?_ | refine rd_nx ?_ | refine rd_rt ?_ | refine rd_ct ?_ | refine rd_bk ?_ | refine rd_drop ?_ | refine rd_ret ?_ | refine rd_retN ?_ | refine rd_dif ?_ | refine rd_asg ?_ | refine rd_par ?_ | refine rd_for ?_ | refine rd_break ?_ | refine rd_cont ?_ | refine rd_c ?_ | refine rd_op ?_ | refine rd_un ?_ | refine rd_b ?_ | refine rd_bK ?_ | refine rd_tru ?_ | refine rd_tKb ?_ | refine rd_and ?_ | refine rd_or ?_ | refine rd_not ?_ | refine rd_andV ?_ | refine rd_orV ?_ | refine rd_notV ?_ | refine rd_tvKb ?_ | refine rd_ifE ?_ | refine rd_nil ?_ | refine rd_cons ?_ | refine rd_tup ?_ | refine rd_lst ?_ | refine rd_lstM ?_ | refine rd_cb ?_ | refine rd_call ?_ | refine rd_sp0 ?_ | refine rd_sp1 ?_ | refine rd_sp2 ?_ | refine rd_sp3 ?_ | refine rd_int ?_ | refine rd_intb ?_ | refine rd_abs ?_ | refine rd_ii ?_ | refine rd_add ?_ | refine rd_sub ?_ | refine rd_addI ?_ | refine rd_cmp ?_ | refine rd_setI ?_ | refine rd_mt ?_ | refine rd_lc ?_ | refine rd_lcM ?_ | refine rd_yes ?_ | refine rd_wseq ?_ | refine rd_wsT ?_ | refine rd_wsL ?_ | refine rd_wsS ?_ | refine rd_wzip ?_ | refine rd_zipT ?_ | refine rd_rng1 ?_ | refine rd_rng2 ?_ | refine rd_sl ?_ | refine rd_slT ?_ | refine rd_slL ?_ | refine rd_slS ?_ | refine rd_nopart ?_ | refine rd_part ?_ | refine rd_ptK ?_ | refine rd_star ?_ | refine rd_ss ?_ | refine rd_itet ?_ | refine rd_itef ?_ | refine rd_itnt ?_ | refine rd_itnf ?_) | ((with_reducible apply rd_var); (· exact rfl)) | ((with_reducible apply rd_asgK); (· exact rfl)) | ((with_reducible apply rd_parK); (· exact rfl)) | ((with_reducible apply rd_len); (· (first | assumption | exact seqD_ref (by assumption) | exact seqD_up | exact lstD_ref (by assumption) | exact lstD_up | rfl))) | ((with_reducible apply rd_tuple); (· (first | assumption | exact seqD_ref (by assumption) | exact seqD_up | exact lstD_ref (by assumption) | exact lstD_up | rfl))) | ((with_reducible apply rd_list); (· (first | assumption | exact seqD_ref (by assumption) | exact seqD_up | exact lstD_ref (by assumption) | exact lstD_up | rfl))) | ((with_reducible apply rd_stK); (· (first | assumption | exact seqD_ref (by assumption) | exact seqD_up | exact lstD_ref (by assumption) | exact lstD_up | rfl))) | ((with_reducible apply rd_ix); (· (first | assumption | exact seqD_ref (by assumption) | exact seqD_up | exact lstD_ref (by assumption) | exact lstD_up | rfl)); (· (first | exact atI_c0 _ _ | exact atI_c1 _ _ _ | exact atI_c2 _ _ _ _ | assumption | rfl))) | ((with_reducible apply rd_set30); (· (first | assumption | exact gup_same))) | ((with_reducible apply rd_set32); (· (first | assumption | exact gup_same))) | ((with_reducible apply rd_some); (· (first | assumption | exact seqD_ref (by assumption) | exact seqD_up | exact lstD_ref (by assumption) | exact lstD_up | rfl)))))
    refine rd_zK hz (comp_map (f := minD) (fun d hd => ?_) ?_)
    · rw [zip_ints] at hd
      obtain ⟨p, _, e⟩ := List.mem_map.mp hd
      subst e
      refine ⟨_, rfl, fun Q2 h2 => ?_⟩
      (repeat (first | (with_reducible first | refine rd_seq ?_ | refine rd_seqE ?_ | refine rd_next ?_ | refine rd_rtE ?_ | refine rd_nxE ?_ | refine rd_nx ?_ | refine rd_rt ?_ | refine rd_ct ?_ | refine rd_bk ?_ | refine rd_drop ?_ | refine rd_ret ?_ | refine rd_retN ?_ | refine rd_dif ?_ | refine rd_asg ?_ | refine rd_par ?_ | refine rd_for ?_ | refine rd_break ?_ | refine rd_cont ?_ | refine rd_c ?_ | refine rd_op ?_ | refine rd_un ?_ | refine rd_b ?_ | refine rd_bK ?_ | refine rd_tru ?_ | refine rd_tKb ?_ | refine rd_and ?_ | refine rd_or ?_ | refine rd_not ?_ | refine rd_andV ?_ | refine rd_orV ?_ | refine rd_notV ?_ | refine rd_tvKb ?_ | refine rd_ifE ?_ | refine rd_nil ?_ | refine rd_cons ?_ | refine rd_tup ?_ | refine rd_lst ?_ | refine rd_lstM ?_ | refine rd_cb ?_ | refine rd_call ?_ | refine rd_sp0 ?_ | refine rd_sp1 ?_ | refine rd_sp2 ?_ | refine rd_sp3 ?_ | refine rd_int ?_ | refine rd_intb ?_ | refine rd_abs ?_ | refine rd_ii ?_ | refine rd_add ?_ | refine rd_sub ?_ | refine rd_addI ?_ | refine rd_cmp ?_ | refine rd_setI ?_ | refine rd_mt ?_ | refine rd_lc ?_ | refine rd_lcM ?_ | refine rd_yes ?_ | refine rd_wseq ?_ | refine rd_wsT ?_ | refine rd_wsL ?_ | refine rd_wsS ?_ | refine rd_wzip ?_ | refine rd_zipT ?_ | refine rd_rng1 ?_ | refine rd_rng2 ?_ | refine rd_sl ?_ | refine rd_slT ?_ | refine rd_slL ?_ | refine rd_slS ?_ | refine rd_nopart ?_ | refine rd_part ?_ | refine rd_ptK ?_ | refine rd_star ?_ | refine rd_ss ?_ | refine rd_itet ?_ | refine rd_itef ?_ | refine rd_itnt ?_ | refine rd_itnf ?_) | ((with_reducible apply rd_var); (· exact rfl)) | ((with_reducible apply rd_asgK); (· exact rfl)) | ((with_reducible apply rd_parK); (· exact rfl)) | ((with_reducible apply rd_len); (· (first | assumption | exact seqD_ref (by assumption) | exact seqD_up | exact lstD_ref (by assumption) | exact lstD_up | rfl))) | ((with_reducible apply rd_tuple); (· (first | assumption | exact seqD_ref (by assumption) | exact seqD_up | exact lstD_ref (by assumption) | exact lstD_up | rfl))) | ((with_reducible apply rd_list); (· (first | assumption | exact seqD_ref (by assumption) | exact seqD_up | exact lstD_ref (by assumption) | exact lstD_up | rfl))) | ((with_reducible apply rd_stK); (· (first | assumption | exact seqD_ref (by assumption) | exact seqD_up | exact lstD_ref (by assumption) | exact lstD_up | rfl))) | ((with_reducible apply rd_ix); (· (first | assumption | exact seqD_ref (by assumption) | exact seqD_up | exact lstD_ref (by assumption) | exact lstD_up | rfl)); (· (first | exact atI_c0 _ _ | exact atI_c1 _ _ _ | exact atI_c2 _ _ _ _ | assumption | rfl))) | ((with_reducible apply rd_set30); (· (first | assumption | exact gup_same))) | ((with_reducible apply rd_set32); (· (first | assumption | exact gup_same))) | ((with_reducible apply rd_some); (· (first | assumption | exact seqD_ref (by assumption) | exact seqD_up | exact lstD_ref (by assumption) | exact lstD_up | rfl)))))
      exact h2
    rw [zip_minD]
    (repeat (first | (with_reducible first | refine rd_seq ?_ | refine rd_seqE ?_ | refine rd_next ?_ | refine rd_rtE ?_ | refine rd_nxE ?_ | refine rd_nx ?_ | refine rd_rt ?_ | refine rd_ct ?_ | refine rd_bk ?_ | refine rd_drop ?_ | refine rd_ret ?_ | refine rd_retN ?_ | refine rd_dif ?_ | refine rd_asg ?_ | refine rd_par ?_ | refine rd_for ?_ | refine rd_break ?_ | refine rd_cont ?_ | refine rd_c ?_ | refine rd_op ?_ | refine rd_un ?_ | refine rd_b ?_ | refine rd_bK ?_ | refine rd_tru ?_ | refine rd_tKb ?_ | refine rd_and ?_ | refine rd_or ?_ | refine rd_not ?_ | refine rd_andV ?_ | refine rd_orV ?_ | refine rd_notV ?_ | refine rd_tvKb ?_ | refine rd_ifE ?_ | refine rd_nil ?_ | refine rd_cons ?_ | refine rd_tup ?_ | refine rd_lst ?_ | refine rd_lstM ?_ | refine rd_cb ?_ | refine rd_call ?_ | refine rd_sp0 ?_ | refine rd_sp1 ?_ | refine rd_sp2 ?_ | refine rd_sp3 ?_ | refine rd_int ?_ | refine rd_intb ?_ | refine rd_abs ?_ | refine rd_ii ?_ | refine rd_add ?_ | refine rd_sub ?_ | refine rd_addI ?_ | refine rd_cmp ?_ | refine rd_setI ?_ | refine rd_mt ?_ | refine rd_lc ?_ | refine rd_lcM ?_ | refine rd_yes ?_ | refine rd_wseq ?_ | refine rd_wsT ?_ | refine rd_wsL ?_ | refine rd_wsS ?_ | refine rd_wzip ?_ | refine rd_zipT ?_ | refine rd_rng1 ?_ | refine rd_rng2 ?_ | refine rd_sl ?_ | refine rd_slT ?_ | refine rd_slL ?_ | refine rd_slS ?_ | refine rd_nopart ?_ | refine rd_part ?_ | refine rd_ptK ?_ | refine rd_star ?_ | refine rd_ss ?_ | refine rd_itet ?_ | refine rd_itef ?_ | refine rd_itnt ?_ | refine rd_itnf ?_) | ((with_reducible apply rd_var); (· exact rfl)) | ((with_reducible apply rd_asgK); (· exact rfl)) | ((with_reducible apply rd_parK); (· exact rfl)) | ((with_reducible apply rd_len); (· (first | assumption | exact seqD_ref (by assumption) | exact seqD_up | exact lstD_ref (by assumption) | exact lstD_up | rfl))) | ((with_reducible apply rd_tuple); (· (first | assumption | exact seqD_ref (by assumption) | exact seqD_up | exact lstD_ref (by assumption) | exact lstD_up | rfl))) | ((with_reducible apply rd_list); (· (first | assumption | exact seqD_ref (by assumption) | exact seqD_up | exact lstD_ref (by assumption) | exact lstD_up | rfl))) | ((with_reducible apply rd_stK); (· (first | assumption | exact seqD_ref (by assumption) | exact seqD_up | exact lstD_ref (by assumption) | exact lstD_up | rfl))) | ((with_reducible apply rd_ix); (· (first | assumption | exact seqD_ref (by assumption) | exact seqD_up | exact lstD_ref (by assumption) | exact lstD_up | rfl)); (· (first | exact atI_c0 _ _ | exact atI_c1 _ _ _ | exact atI_c2 _ _ _ _ | assumption | rfl))) | ((with_reducible apply rd_set30); (· (first | assumption | exact gup_same))) | ((with_reducible apply rd_set32); (· (first | assumption | exact gup_same))) | ((with_reducible apply rd_some); (· (first | assumption | exact seqD_ref (by assumption) | exact seqD_up | exact lstD_ref (by assumption) | exact lstD_up | rfl)))))
    refine rd_zK (by simp only [List.length_append, List.length_map, cutD_from, List.length_drop, List.length_zipWith, List.length_nil]; omega) ?_
    (repeat (first | (with_reducible first | refine rd_seq ?_ | refine rd_seqE ?_ | refine rd_next ?_ | refine rd_rtE ?_ | refine rd_nxE ?_ | refine rd_nx ?_ | refine rd_rt ?_ | refine rd_ct ?_ | refine rd_bk ?_ | refine rd_drop ?_ | refine rd_ret ?_ | refine rd_retN ?_ | refine rd_dif ?_ | refine rd_asg ?_ | refine rd_par ?_ | refine rd_for ?_ | refine rd_break ?_ | refine rd_cont ?_ | refine rd_c ?_ | refine rd_op ?_ | refine rd_un ?_ | refine rd_b ?_ | refine rd_bK ?_ | refine rd_tru ?_ | refine rd_tKb ?_ | refine rd_and ?_ | refine rd_or ?_ | refine rd_not ?_ | refine rd_andV ?_ | refine rd_orV ?_ | refine rd_notV ?_ | refine rd_tvKb ?_ | refine rd_ifE ?_ | refine rd_nil ?_ | refine rd_cons ?_ | refine rd_tup ?_ | refine rd_lst ?_ | refine rd_lstM ?_ | refine rd_cb ?_ | refine rd_call ?_ | refine rd_sp0 ?_ | refine rd_sp1 ?_ | refine rd_sp2 ?_ | refine rd_sp3 ?_ | refine rd_int ?_ | refine rd_intb ?_ | refine rd_abs ?_ | refine rd_ii ?_ | refine rd_add ?_ | refine rd_sub ?_ | refine rd_addI ?_ | refine rd_cmp ?_ | refine rd_setI ?_ | refine rd_mt ?_ | refine rd_lc ?_ | refine rd_lcM ?_ | refine rd_yes ?_ | refine rd_wseq ?_ | refine rd_wsT ?_ | refine rd_wsL ?_ | refine rd_wsS ?_ | refine rd_wzip ?_ | refine rd_zipT ?_ | refine rd_rng1 ?_ | refine rd_rng2 ?_ | refine rd_sl ?_ | refine rd_slT ?_ | refine rd_slL ?_ | refine rd_slS ?_ | refine rd_nopart ?_ | refine rd_part ?_ | refine rd_ptK ?_ | refine rd_star ?_ | refine rd_ss ?_ | refine rd_itet ?_ | refine rd_itef ?_ | refine rd_itnt ?_ | refine rd_itnf ?_) | ((with_reducible apply rd_var); (· exact rfl)) | ((with_reducible apply rd_asgK); (· exact rfl)) | ((with_reducible apply rd_parK); (· exact rfl)) | ((with_reducible apply rd_len); (· (first | assumption | exact seqD_ref (by assumption) | exact seqD_up | exact lstD_ref (by assumption) | exact lstD_up | rfl))) | ((with_reducible apply rd_tuple); (· (first | assumption | exact seqD_ref (by assumption) | exact seqD_up | exact lstD_ref (by assumption) | exact lstD_up | rfl))) | ((with_reducible apply rd_list); (· (first | assumption | exact seqD_ref (by assumption) | exact seqD_up | exact lstD_ref (by assumption) | exact lstD_up | rfl))) | ((with_reducible apply rd_stK); (· (first | assumption | exact seqD_ref (by assumption) | exact seqD_up | exact lstD_ref (by assumption) | exact lstD_up | rfl))) | ((with_reducible apply rd_ix); (· (first | assumption | exact seqD_ref (by assumption) | exact seqD_up | exact lstD_ref (by assumption) | exact lstD_up | rfl)); (· (first | exact atI_c0 _ _ | exact atI_c1 _ _ _ | exact atI_c2 _ _ _ _ | assumption | rfl))) | ((with_reducible apply rd_set30); (· (first | assumption | exact gup_same))) | ((with_reducible apply rd_set32); (· (first | assumption | exact gup_same))) | ((with_reducible apply rd_some); (· (first | assumption | exact seqD_ref (by assumption) | exact seqD_up | exact lstD_ref (by assumption) | exact lstD_up | rfl)))))
    refine dret ?_
    rw [List.length_map, cutD_from, List.append_nil, ← List.map_drop, ← List.map_append, List.length_zipWith]
    unfold lowerL at k
    rw [if_pos c2] at k
    exact k
  · have c2 : ¬ ys.length ≤ xs.length := by simpa using c
    (repeat (first | (with_reducible first | refine rd_seq ?_ | refine rd_seqE ?_ | refine rd_next ?_ | refine rd_rtE ?_ | refine rd_nxE ?_ | refine rd_nx ?_ | refine rd_rt ?_ | refine rd_ct ?_ | refine rd_bk ?_ | refine rd_drop ?_ | refine rd_ret ?_ | refine rd_retN ?_ | refine rd_dif ?_ | refine rd_asg ?_ | refine rd_par ?_ | refine rd_for ?_ | refine rd_break ?_ | refine rd_cont ?_ | refine rd_c ?_ | refine rd_op ?_ | refine rd_un ?_ | refine rd_b ?_ | refine rd_bK ?_ | refine rd_tru ?_ | refine rd_tKb ?_ | refine rd_and ?_ | refine rd_or ?_ | refine rd_not ?_ | refine rd_andV ?_ | refine rd_orV ?_ | refine rd_notV ?_ | refine rd_tvKb ?_ | refine rd_ifE ?_ | refine rd_nil ?_ | refine rd_cons ?_ | refine rd_tup ?_ | refine rd_lst ?_ | refine rd_lstM ?_ | refine rd_cb ?_ | refine rd_call ?_ | refine rd_sp0 ?_ | refine rd_sp1 ?_ | refine rd_sp2 ?_ | refine rd_sp3 ?_ | refine rd_int ?_ | refine rd_intb ?_ | refine rd_abs ?_ | refine rd_ii ?_ | refine rd_add ?_ | refine rd_sub ?_ | refine rd_addI ?_ | refine rd_cmp ?_ | refine rd_setI ?_ | refine rd_mt ?_ | refine rd_lc ?_ | refine rd_lcM ?_ | refine rd_yes ?_ | refine rd_wseq ?_ | refine rd_wsT ?_ | refine rd_wsL ?_ | refine rd_wsS ?_ | refine rd_wzip ?_ | refine rd_zipT ?_ | refine rd_rng1 ?_ | refine rd_rng2 ?_ | refine rd_sl ?_ | refine rd_slT ?_ | refine rd_slL ?_ | refine rd_slS ?_ | refine rd_nopart ?_ | refine rd_part ?_ | refine rd_ptK ?_ | refine rd_star ?_ | refine rd_ss ?_ | refine rd_itet ?_ | refine rd_itef ?_ | refine rd_itnt ?_ | refine rd_itnf ?_) | ((with_reducible apply rd_var); (· exact rfl)) | ((with_reducible apply rd_asgK); (· exact rfl)) | ((with_reducible apply rd_parK); (· exact rfl)) | ((with_reducible apply rd_len); (· (first | assumption | exact seqD_ref (by assumption) | exact seqD_up | exact lstD_ref (by assumption) | exact lstD_up | rfl))) | ((with_reducible apply rd_tuple); (· (first | assumption | exact seqD_ref (by assumption) | exact seqD_up | exact lstD_ref (by assumption) | exact lstD_up | rfl))) | ((with_reducible apply rd_list); (· (first | assumption | exact seqD_ref (by assumption) | exact seqD_up | exact lstD_ref (by assumption) | exact lstD_up | rfl))) | ((with_reducible apply rd_stK); (· (first | assumption | exact seqD_ref (by assumption) | exact seqD_up | exact lstD_ref (by assumption) | exact lstD_up | rfl))) | ((with_reducible apply rd_ix); (· (first | assumption | exact seqD_ref (by assumption) | exact seqD_up | exact lstD_ref (by assumption) | exact lstD_up | rfl)); (· (first | exact atI_c0 _ _ | exact atI_c1 _ _ _ | exact atI_c2 _ _ _ _ | assumption | rfl))) | ((with_reducible apply rd_set30); (· (first | assumption | exact gup_same))) | ((with_reducible apply rd_set32); (· (first | assumption | exact gup_same))) | ((with_reducible apply rd_some); (· (first | assumption | exact seqD_ref (by assumption) | exact seqD_up | exact lstD_ref (by assumption) | exact lstD_up | rfl)))))
    refine rd_zK hz (comp_map (f := minD) (fun d hd => ?_) ?_)
    · rw [zip_ints] at hd
      obtain ⟨p, _, e⟩ := List.mem_map.mp hd
      subst e
      refine ⟨_, rfl, fun Q2 h2 => ?_⟩
      (repeat (first | (with_reducible first | refine rd_seq ?_ | refine rd_seqE ?_ | refine rd_next ?_ | refine rd_rtE ?_ | refine rd_nxE ?_ | refine rd_nx ?_ | refine rd_rt ?_ | refine rd_ct ?_ | refine rd_bk ?_ | refine rd_drop ?_ | refine rd_ret ?_ | refine rd_retN ?_ | refine rd_dif ?_ | refine rd_asg ?_ | refine rd_par ?_ | refine rd_for ?_ | refine rd_break ?_ | refine rd_cont ?_ | refine rd_c ?_ | refine rd_op ?_ | refine rd_un ?_ | refine rd_b ?_ | refine rd_bK ?_ | refine rd_tru ?_ | refine rd_tKb ?_ | refine rd_and ?_ | refine rd_or ?_ | refine rd_not ?_ | refine rd_andV ?_ | refine rd_orV ?_ | refine rd_notV ?_ | refine rd_tvKb ?_ | refine rd_ifE ?_ | refine rd_nil ?_ | refine rd_cons ?_ | refine rd_tup ?_ | refine rd_lst ?_ | refine rd_lstM ?_ | refine rd_cb ?_ | refine rd_call ?_ | refine rd_sp0 ?_ | refine rd_sp1 ?_ | refine rd_sp2 ?_ | refine rd_sp3 ?_ | refine rd_int ?_ | refine rd_intb ?_ | refine rd_abs ?_ | refine rd_ii ?_ | refine rd_add ?_ | refine rd_sub ?_ | refine rd_addI ?_ | refine rd_cmp ?_ | refine rd_setI ?_ | refine rd_mt ?_ | refine rd_lc ?_ | refine rd_lcM ?_ | refine rd_yes ?_ | refine rd_wseq ?_ | refine rd_wsT ?_ | refine rd_wsL ?_ | refine rd_wsS ?_ | refine rd_wzip ?_ | refine rd_zipT ?_ | refine rd_rng1 ?_ | refine rd_rng2 ?_ | refine rd_sl ?_ | refine rd_slT ?_ | refine rd_slL ?_ | refine rd_slS ?_ | refine rd_nopart ?_ | refine rd_part ?_ | refine rd_ptK ?_ | refine rd_star ?_ | refine rd_ss ?_ | refine rd_itet ?_ | refine rd_itef ?_ | refine rd_itnt ?_ | refine rd_itnf ?_) | ((with_reducible apply rd_var); (· exact rfl)) | ((with_reducible apply rd_asgK); (· exact rfl)) | ((with_reducible apply rd_parK); (· exact rfl)) | ((with_reducible apply rd_len); (· (first | assumption | exact seqD_ref (by assumption) | exact seqD_up | exact lstD_ref (by assumption) | exact lstD_up | rfl))) | ((with_reducible apply rd_tuple); (· (first | assumption | exact seqD_ref (by assumption) | exact seqD_up | exact lstD_ref (by assumption) | exact lstD_up | rfl))) | ((with_reducible apply rd_list); (· (first | assumption | exact seqD_ref (by assumption) | exact seqD_up | exact lstD_ref (by assumption) | exact lstD_up | rfl))) | ((with_reducible apply rd_stK); (· (first | assumption | exact seqD_ref (by assumption) | exact seqD_up | exact lstD_ref (by assumption) | exact lstD_up | rfl))) | ((with_reducible apply rd_ix); (· (first | assumption | exact seqD_ref (by assumption) | exact seqD_up | exact lstD_ref (by assumption) | exact lstD_up | rfl)); (· (first | exact atI_c0 _ _ | exact atI_c1 _ _ _ | exact atI_c2 _ _ _ _ | assumption | rfl))) | ((with_reducible apply rd_set30); (· (first | assumption | exact gup_same))) | ((with_reducible apply rd_set32); (· (first | assumption | exact gup_same))) | ((with_reducible apply rd_some); (· (first | assumption | exact seqD_ref (by assumption) | exact seqD_up | exact lstD_ref (by assumption) | exact lstD_up | rfl)))))
      exact h2
    rw [zip_minD]
    (repeat (first | (with_reducible first | refine rd_seq ?_ | refine rd_seqE ?_ | refine rd_next ?_ | refine rd_rtE ?_ | refine rd_nxE ?_ | refine rd_nx ?_ | refine rd_rt ?_ | refine rd_ct ?_ | refine rd_bk ?_ | refine rd_drop ?_ | refine rd_ret ?_ | refine rd_retN ?_ | refine rd_dif ?_ | refine rd_asg ?_ | refine rd_par ?_ | refine rd_for ?_ | refine rd_break ?_ | refine rd_cont ?_ | refine rd_c ?_ | refine rd_op ?_ | refine rd_un ?_ | refine rd_b ?_ | refine rd_bK ?_ | refine rd_tru ?_ | refine rd_tKb ?_ | refine rd_and ?_ | refine rd_or ?_ | refine rd_not ?_ | refine rd_andV ?_ | refine rd_orV ?_ | refine rd_notV ?_ | refine rd_tvKb ?_ | refine rd_ifE ?_ | refine rd_nil ?_ | refine rd_cons ?_ | refine rd_tup ?_ | refine rd_lst ?_ | refine rd_lstM ?_ | refine rd_cb ?_ | refine rd_call ?_ | refine rd_sp0 ?_ | refine rd_sp1 ?_ | refine rd_sp2 ?_ | refine rd_sp3 ?_ | refine rd_int ?_ | refine rd_intb ?_ | refine rd_abs ?_ | refine rd_ii ?_ | refine rd_add ?_ | refine rd_sub ?_ | refine rd_addI ?_ | refine rd_cmp ?_ | refine rd_setI ?_ | refine rd_mt ?_ | refine rd_lc ?_ | refine rd_lcM ?_ | refine rd_yes ?_ | refine rd_wseq ?_ | refine rd_wsT ?_ | refine rd_wsL ?_ | refine rd_wsS ?_ | refine rd_wzip ?_ | refine rd_zipT ?_ | refine rd_rng1 ?_ | refine rd_rng2 ?_ | refine rd_sl ?_ | refine rd_slT ?_ | refine rd_slL ?_ | refine rd_slS ?_ | refine rd_nopart ?_ | refine rd_part ?_ | refine rd_ptK ?_ | refine rd_star ?_ | refine rd_ss ?_ | refine rd_itet ?_ | refine rd_itef ?_ | refine rd_itnt ?_ | refine rd_itnf ?_) | ((with_reducible apply rd_var); (· exact rfl)) | ((with_reducible apply rd_asgK); (· exact rfl)) | ((with_reducible apply rd_parK); (· exact rfl)) | ((with_reducible apply rd_len); (· (first | assumption | exact seqD_ref (by assumption) | exact seqD_up | exact lstD_ref (by assumption) | exact lstD_up | rfl))) | ((with_reducible apply rd_tuple); (· (first | assumption | exact seqD_ref (by assumption) | exact seqD_up | exact lstD_ref (by assumption) | exact lstD_up | rfl))) | ((with_reducible apply rd_list); (· (first | assumption | exact seqD_ref (by assumption) | exact seqD_up | exact lstD_ref (by assumption) | exact lstD_up | rfl))) | ((with_reducible apply rd_stK); (· (first | assumption | exact seqD_ref (by assumption) | exact seqD_up | exact lstD_ref (by assumption) | exact lstD_up | rfl))) | ((with_reducible apply rd_ix); (· (first | assumption | exact seqD_ref (by assumption) | exact seqD_up | exact lstD_ref (by assumption) | exact lstD_up | rfl)); (· (first | exact atI_c0 _ _ | exact atI_c1 _ _ _ | exact atI_c2 _ _ _ _ | assumption | rfl))) | ((with_reducible apply rd_set30); (· (first | assumption | exact gup_same))) | ((with_reducible apply rd_set32); (· (first | assumption | exact gup_same))) | ((with_reducible apply rd_some); (· (first | assumption | exact seqD_ref (by assumption) | exact seqD_up | exact lstD_ref (by assumption) | exact lstD_up | rfl)))))
    refine rd_zK (by simp only [List.length_append, List.length_map, cutD_from, List.length_drop, List.length_zipWith, List.length_nil]; omega) ?_
    (repeat (first | (with_reducible first | refine rd_seq ?_ | refine rd_seqE ?_ | refine rd_next ?_ | refine rd_rtE ?_ | refine rd_nxE ?_ | refine rd_nx ?_ | refine rd_rt ?_ | refine rd_ct ?_ | refine rd_bk ?_ | refine rd_drop ?_ | refine rd_ret ?_ | refine rd_retN ?_ | refine rd_dif ?_ | refine rd_asg ?_ | refine rd_par ?_ | refine rd_for ?_ | refine rd_break ?_ | refine rd_cont ?_ | refine rd_c ?_ | refine rd_op ?_ | refine rd_un ?_ | refine rd_b ?_ | refine rd_bK ?_ | refine rd_tru ?_ | refine rd_tKb ?_ | refine rd_and ?_ | refine rd_or ?_ | refine rd_not ?_ | refine rd_andV ?_ | refine rd_orV ?_ | refine rd_notV ?_ | refine rd_tvKb ?_ | refine rd_ifE ?_ | refine rd_nil ?_ | refine rd_cons ?_ | refine rd_tup ?_ | refine rd_lst ?_ | refine rd_lstM ?_ | refine rd_cb ?_ | refine rd_call ?_ | refine rd_sp0 ?_ | refine rd_sp1 ?_ | refine rd_sp2 ?_ | refine rd_sp3 ?_ | refine rd_int ?_ | refine rd_intb ?_ | refine rd_abs ?_ | refine rd_ii ?_ | refine rd_add ?_ | refine rd_sub ?_ | refine rd_addI ?_ | refine rd_cmp ?_ | refine rd_setI ?_ | refine rd_mt ?_ | refine rd_lc ?_ | refine rd_lcM ?_ | refine rd_yes ?_ | refine rd_wseq ?_ | refine rd_wsT ?_ | refine rd_wsL ?_ | refine rd_wsS ?_ | refine rd_wzip ?_ | refine rd_zipT ?_ | refine rd_rng1 ?_ | refine rd_rng2 ?_ | refine rd_sl ?_ | refine rd_slT ?_ | refine rd_slL ?_ | refine rd_slS ?_ | refine rd_nopart ?_ | refine rd_part ?_ | refine rd_ptK ?_ | refine rd_star ?_ | refine rd_ss ?_ | refine rd_itet ?_ | refine rd_itef ?_ | refine rd_itnt ?_ | refine rd_itnf ?_) | ((with_reducible apply rd_var); (· exact rfl)) | ((with_reducible apply rd_asgK); (· exact rfl)) | ((with_reducible apply rd_parK); (· exact rfl)) | ((with_reducible apply rd_len); (· (first | assumption | exact seqD_ref (by assumption) | exact seqD_up | exact lstD_ref (by assumption) | exact lstD_up | rfl))) | ((with_reducible apply rd_tuple); (· (first | assumption | exact seqD_ref (by assumption) | exact seqD_up | exact lstD_ref (by assumption) | exact lstD_up | rfl))) | ((with_reducible apply rd_list); (· (first | assumption | exact seqD_ref (by assumption) | exact seqD_up | exact lstD_ref (by assumption) | exact lstD_up | rfl))) | ((with_reducible apply rd_stK); (· (first | assumption | exact seqD_ref (by assumption) | exact seqD_up | exact lstD_ref (by assumption) | exact lstD_up | rfl))) | ((with_reducible apply rd_ix); (· (first | assumption | exact seqD_ref (by assumption) | exact seqD_up | exact lstD_ref (by assumption) | exact lstD_up | rfl)); (· (first | exact atI_c0 _ _ | exact atI_c1 _ _ _ | exact atI_c2 _ _ _ _ | assumption | rfl))) | ((with_reducible apply rd_set30); (· (first | assumption | exact gup_same))) | ((with_reducible apply rd_set32); (· (first | assumption | exact gup_same))) | ((with_reducible apply rd_some); (· (first | assumption | exact seqD_ref (by assumption) | exact seqD_up | exact lstD_ref (by assumption) | exact lstD_up | rfl)))))
    refine dret ?_
    rw [List.length_map, cutD_from, List.append_nil, ← List.map_drop, ← List.map_append, List.length_zipWith]
    unfold lowerL at k
    rw [if_neg c2] at k
    exact k

abbrev s_upper_of : Stmt := topS 22
abbrev N_upper_of : List Str := ["one", "other", "first", "second"]
theorem sc_upper_of : FnScope N_upper_of ["one", "other"] (defScope s_upper_of) := ⟨rfl, rfl, rfl, by decide +kernel, rfl, by decide +kernel, by decide +kernel⟩
abbrev sp_upper_of : SpD :=
  sp2 fun a b g P => ∃ xs ys, a = tI xs ∧ b = tI ys ∧ PD xs ∧ PD ys ∧ P (tI (upperL xs ys)) g
theorem ok_upper_of {P : Program} {w : World} {K : Fg} {mg : Str → Option Value} {base : Heap} {t_MAX_PLACE t_MAX_STEP t_MOST_LAST t_MOST_MOST : Tok} {f f_require_two_degrees : Addr} {fd d_require_two_degrees : FuncData} (D : Dfn K mg "upper_of" s_upper_of ["one", "other"] f fd) (T : Txt K mg t_MAX_PLACE t_MAX_STEP t_MOST_LAST t_MOST_MOST) (D_require_two_degrees : Dfn K mg "require_two_degrees" s_require_two_degrees ["one", "other"] f_require_two_degrees d_require_two_degrees) (G_require_two_degrees : FnOk P w K mg base CX0 5 f_require_two_degrees d_require_two_degrees ["one", "other"] (upSp K sp_require_two_degrees)) :
    FnOk P w K mg base CX0 6 f fd ["one", "other"] (upSp K sp_upper_of) := by
  refine fun_okD D.fn sc_upper_of (fun ds g Q h => len2 h) (fun cdv A outer s H E hr => ⟨_, (pds_cons (pds_expr (pd_call G_require_two_degrees (hr.mono (by decide)) D_require_two_degrees.at_ D_require_two_degrees.fn.kp D_require_two_degrees.bd pass0 (pda_cons (pdv 0) (pda_cons (pdv 1) pda_nil)))) (pds_one (pds_ret (pd_callTy call_tuple_of ref_tuple T.b_tuple (by decide +kernel) (pda_cons (pd_lc (own := [("first", 2), ("second", 3)]) (tg := .tp [2, 3]) rfl sc_upper_of.nd (pid_zip T.b_zip (pda_cons (pdv 0) (pda_cons (pdv 1) pda_nil))) (blkOk_by (own := [("first", 2), ("second", 3)]) (N := N_upper_of) (sc := defScope s_upper_of) (by decide +kernel)) (fun _ _ _ _ _ => (pgd_tp (is := [2, 3]) rfl (pgd_cons (i := 2) (pgd_nm (i := 2) sc_upper_of.nd) (pgd_cons (i := 3) (pgd_nm (i := 3) sc_upper_of.nd) pgd_nil)))) (fun _ _ _ _ _ => ptsd_nil) (fun _ _ _ _ _ => (pd_callB (call_max2 rfl) ref_II T.b_max (by decide +kernel) (pda_cons (pdv 2) (pda_cons (pdv 3) pda_nil))))) pda_nil))))), ?_⟩)
  intro ds g Q h
  obtain ⟨a0, a1, rfl, h⟩ := sp2_of h
  rw [show startD N_upper_of [a0, a1] = [some a0, some a1, none, none] from rfl]
  obtain ⟨xs, ys, e1, e2, h1, h2, k⟩ := h
  subst e1 e2
  have hx := h1.len
  have hy := h2.len
  have hz : (zipD (xs.map DV.int) (ys.map DV.int)).length ≤ 16777216 := by
    rw [zipD_len, List.length_map, List.length_map]
    omega
  (repeat (first | (with_reducible first | refine rd_seq ?_ | refine rd_seqE ?_ | refine rd_next ?_ | refine rd_rtE ?_ | refine rd_nxE ?_ | refine rd_nx ?_ | refine rd_rt ?_ | refine rd_ct ?_ | refine rd_bk ?_ | refine rd_drop ?_ | refine rd_ret ?_ | refine rd_retN ?_ | refine rd_dif ?_ | refine rd_asg ?_ | refine rd_par ?_ | refine rd_for ?_ | refine rd_break ?_ | refine rd_cont ?_ | refine rd_c ?_ | refine rd_op ?_ | refine rd_un ?_ | refine rd_b ?_ | refine rd_bK ?_ | refine rd_tru ?_ | refine rd_tKb ?_ | refine rd_and ?_ | refine rd_or ?_ | refine rd_not ?_ | refine rd_andV ?_ | refine rd_orV ?_ | refine rd_notV ?_ | refine rd_tvKb ?_ | refine rd_ifE ?_ | refine rd_nil ?_ | refine rd_cons ?_ | refine rd_tup ?_ | refine rd_lst ?_ | refine rd_lstM ?_ | refine rd_cb ?_ | refine rd_call ?_ | refine rd_sp0 ?_ | refine rd_sp1 ?_ | refine rd_sp2 ?_ | refine rd_sp3 ?_ | refine rd_int ?_ | refine rd_intb ?_ | refine rd_abs ?_ | refine rd_ii ?_ | refine rd_add ?_ | refine rd_sub ?_ | refine rd_addI ?_ | refine rd_cmp ?_ | refine rd_setI ?_ | refine rd_mt ?_ | refine rd_lc ?_ | refine rd_lcM ?_ | refine rd_yes ?_ | refine rd_wseq ?_ | refine rd_wsT ?_ | refine rd_wsL ?_ | refine rd_wsS ?_ | refine rd_wzip ?_ | refine rd_zipT ?_ | refine rd_rng1 ?_ | refine rd_rng2 ?_ | refine rd_sl ?_ | refine rd_slT ?_ | refine rd_slL ?_ | refine rd_slS ?_ | refine rd_nopart ?_ | refine rd_part ?_ | refine rd_ptK ?_ | refine rd_star ?_ | refine rd_ss ?_ | refine rd_itet ?_ | refine rd_itef ?_ | refine rd_itnt ?_ | refine rd_itnf ?_) | ((with_reducible apply rd_var); (· exact rfl)) | ((with_reducible apply rd_asgK); (· exact rfl)) | ((with_reducible apply rd_parK); (· exact rfl)) | ((with_reducible apply rd_len); (· (first | assumption | exact seqD_ref (by assumption) | exact seqD_up | exact lstD_ref (by assumption) | exact lstD_up | rfl))) | ((with_reducible apply rd_tuple); (· (first | assumption | exact seqD_ref (by assumption) | exact seqD_up | exact lstD_ref (by assumption) | exact lstD_up | rfl))) | ((with_reducible apply rd_list); (· (first | assumption | exact seqD_ref (by assumption) | exact seqD_up | exact lstD_ref (by assumption) | exact lstD_up | rfl))) | ((with_reducible apply rd_stK); (· (first | assumption | exact seqD_ref (by assumption) | exact seqD_up | exact lstD_ref (by assumption) | exact lstD_up | rfl))) | ((with_reducible apply rd_ix); (· (first | assumption | exact seqD_ref (by assumption) | exact seqD_up | exact lstD_ref (by assumption) | exact lstD_up | rfl)); (· (first | exact atI_c0 _ _ | exact atI_c1 _ _ _ | exact atI_c2 _ _ _ _ | assumption | rfl))) | ((with_reducible apply rd_set30); (· (first | assumption | exact gup_same))) | ((with_reducible apply rd_set32); (· (first | assumption | exact gup_same))) | ((with_reducible apply rd_some); (· (first | assumption | exact seqD_ref (by assumption) | exact seqD_up | exact lstD_ref (by assumption) | exact lstD_up | rfl)))))
  refine ⟨xs, ys, rfl, rfl, h1, h2, ?_⟩
  (repeat (first | (with_reducible first | refine rd_seq ?_ | refine rd_seqE ?_ | refine rd_next ?_ | refine rd_rtE ?_ | refine rd_nxE ?_ | refine rd_nx ?_ | refine rd_rt ?_ | refine rd_ct ?_ | refine rd_bk ?_ | refine rd_drop ?_ | refine rd_ret ?_ | refine rd_retN ?_ | refine rd_dif ?_ | refine rd_asg ?_ | refine rd_par ?_ | refine rd_for ?_ | refine rd_break ?_ | refine rd_cont ?_ | refine rd_c ?_ | refine rd_op ?_ | refine rd_un ?_ | refine rd_b ?_ | refine rd_bK ?_ | refine rd_tru ?_ | refine rd_tKb ?_ | refine rd_and ?_ | refine rd_or ?_ | refine rd_not ?_ | refine rd_andV ?_ | refine rd_orV ?_ | refine rd_notV ?_ | refine rd_tvKb ?_ | refine rd_ifE ?_ | refine rd_nil ?_ | refine rd_cons ?_ | refine rd_tup ?_ | refine rd_lst ?_ | refine rd_lstM ?_ | refine rd_cb ?_ | refine rd_call ?_ | refine rd_sp0 ?_ | refine rd_sp1 ?_ | refine rd_sp2 ?_ | refine rd_sp3 ?_ | refine rd_int ?_ | refine rd_intb ?_ | refine rd_abs ?_ | refine rd_ii ?_ | refine rd_add ?_ | refine rd_sub ?_ | refine rd_addI ?_ | refine rd_cmp ?_ | refine rd_setI ?_ | refine rd_mt ?_ | refine rd_lc ?_ | refine rd_lcM ?_ | refine rd_yes ?_ | refine rd_wseq ?_ | refine rd_wsT ?_ | refine rd_wsL ?_ | refine rd_wsS ?_ | refine rd_wzip ?_ | refine rd_zipT ?_ | refine rd_rng1 ?_ | refine rd_rng2 ?_ | refine rd_sl ?_ | refine rd_slT ?_ | refine rd_slL ?_ | refine rd_slS ?_ | refine rd_nopart ?_ | refine rd_part ?_ | refine rd_ptK ?_ | refine rd_star ?_ | refine rd_ss ?_ | refine rd_itet ?_ | refine rd_itef ?_ | refine rd_itnt ?_ | refine rd_itnf ?_) | ((with_reducible apply rd_var); (· exact rfl)) | ((with_reducible apply rd_asgK); (· exact rfl)) | ((with_reducible apply rd_parK); (· exact rfl)) | ((with_reducible apply rd_len); (· (first | assumption | exact seqD_ref (by assumption) | exact seqD_up | exact lstD_ref (by assumption) | exact lstD_up | rfl))) | ((with_reducible apply rd_tuple); (· (first | assumption | exact seqD_ref (by assumption) | exact seqD_up | exact lstD_ref (by assumption) | exact lstD_up | rfl))) | ((with_reducible apply rd_list); (· (first | assumption | exact seqD_ref (by assumption) | exact seqD_up | exact lstD_ref (by assumption) | exact lstD_up | rfl))) | ((with_reducible apply rd_stK); (· (first | assumption | exact seqD_ref (by assumption) | exact seqD_up | exact lstD_ref (by assumption) | exact lstD_up | rfl))) | ((with_reducible apply rd_ix); (· (first | assumption | exact seqD_ref (by assumption) | exact seqD_up | exact lstD_ref (by assumption) | exact lstD_up | rfl)); (· (first | exact atI_c0 _ _ | exact atI_c1 _ _ _ | exact atI_c2 _ _ _ _ | assumption | rfl))) | ((with_reducible apply rd_set30); (· (first | assumption | exact gup_same))) | ((with_reducible apply rd_set32); (· (first | assumption | exact gup_same))) | ((with_reducible apply rd_some); (· (first | assumption | exact seqD_ref (by assumption) | exact seqD_up | exact lstD_ref (by assumption) | exact lstD_up | rfl)))))
  refine rd_zK hz (comp_map (f := maxD) (fun d hd => ?_) ?_)
  · rw [zip_ints] at hd
    obtain ⟨p, _, e⟩ := List.mem_map.mp hd
    subst e
    refine ⟨_, rfl, fun Q2 h2 => ?_⟩
    (repeat (first | (with_reducible first | refine rd_seq ?_ | refine rd_seqE ?_ | refine rd_next ?_ | refine rd_rtE ?_ | refine rd_nxE ?_ | refine rd_nx ?_ | refine rd_rt ?_ | refine rd_ct ?_ | refine rd_bk ?_ | refine rd_drop ?_ | refine rd_ret ?_ | refine rd_retN ?_ | refine rd_dif ?_ | refine rd_asg ?_ | refine rd_par ?_ | refine rd_for ?_ | refine rd_break ?_ | refine rd_cont ?_ | refine rd_c ?_ | refine rd_op ?_ | refine rd_un ?_ | refine rd_b ?_ | refine rd_bK ?_ | refine rd_tru ?_ | refine rd_tKb ?_ | refine rd_and ?_ | refine rd_or ?_ | refine rd_not ?_ | refine rd_andV ?_ | refine rd_orV ?_ | refine rd_notV ?_ | refine rd_tvKb ?_ | refine rd_ifE ?_ | refine rd_nil ?_ | refine rd_cons ?_ | refine rd_tup ?_ | refine rd_lst ?_ | refine rd_lstM ?_ | refine rd_cb ?_ | refine rd_call ?_ | refine rd_sp0 ?_ | refine rd_sp1 ?_ | refine rd_sp2 ?_ | refine rd_sp3 ?_ | refine rd_int ?_ | refine rd_intb ?_ | refine rd_abs ?_ | refine rd_ii ?_ | refine rd_add ?_ | refine rd_sub ?_ | refine rd_addI ?_ | refine rd_cmp ?_ | refine rd_setI ?_ | refine rd_mt ?_ | refine rd_lc ?_ | refine rd_lcM ?_ | refine rd_yes ?_ | refine rd_wseq ?_ | refine rd_wsT ?_ | refine rd_wsL ?_ | refine rd_wsS ?_ | refine rd_wzip ?_ | refine rd_zipT ?_ | refine rd_rng1 ?_ | refine rd_rng2 ?_ | refine rd_sl ?_ | refine rd_slT ?_ | refine rd_slL ?_ | refine rd_slS ?_ | refine rd_nopart ?_ | refine rd_part ?_ | refine rd_ptK ?_ | refine rd_star ?_ | refine rd_ss ?_ | refine rd_itet ?_ | refine rd_itef ?_ | refine rd_itnt ?_ | refine rd_itnf ?_) | ((with_reducible apply rd_var); (· exact rfl)) | ((with_reducible apply rd_asgK); (· exact rfl)) | ((with_reducible apply rd_parK); (· exact rfl)) | ((with_reducible apply rd_len); (· (first | assumption | exact seqD_ref (by assumption) | exact seqD_up | exact lstD_ref (by assumption) | exact lstD_up | rfl))) | ((with_reducible apply rd_tuple); (· (first | assumption | exact seqD_ref (by assumption) | exact seqD_up | exact lstD_ref (by assumption) | exact lstD_up | rfl))) | ((with_reducible apply rd_list); (· (first | assumption | exact seqD_ref (by assumption) | exact seqD_up | exact lstD_ref (by assumption) | exact lstD_up | rfl))) | ((with_reducible apply rd_stK); (· (first | assumption | exact seqD_ref (by assumption) | exact seqD_up | exact lstD_ref (by assumption) | exact lstD_up | rfl))) | ((with_reducible apply rd_ix); (· (first | assumption | exact seqD_ref (by assumption) | exact seqD_up | exact lstD_ref (by assumption) | exact lstD_up | rfl)); (· (first | exact atI_c0 _ _ | exact atI_c1 _ _ _ | exact atI_c2 _ _ _ _ | assumption | rfl))) | ((with_reducible apply rd_set30); (· (first | assumption | exact gup_same))) | ((with_reducible apply rd_set32); (· (first | assumption | exact gup_same))) | ((with_reducible apply rd_some); (· (first | assumption | exact seqD_ref (by assumption) | exact seqD_up | exact lstD_ref (by assumption) | exact lstD_up | rfl)))))
    exact h2
  rw [zip_maxD]
  (repeat (first | (with_reducible first | refine rd_seq ?_ | refine rd_seqE ?_ | refine rd_next ?_ | refine rd_rtE ?_ | refine rd_nxE ?_ | refine rd_nx ?_ | refine rd_rt ?_ | refine rd_ct ?_ | refine rd_bk ?_ | refine rd_drop ?_ | refine rd_ret ?_ | refine rd_retN ?_ | refine rd_dif ?_ | refine rd_asg ?_ | refine rd_par ?_ | refine rd_for ?_ | refine rd_break ?_ | refine rd_cont ?_ | refine rd_c ?_ | refine rd_op ?_ | refine rd_un ?_ | refine rd_b ?_ | refine rd_bK ?_ | refine rd_tru ?_ | refine rd_tKb ?_ | refine rd_and ?_ | refine rd_or ?_ | refine rd_not ?_ | refine rd_andV ?_ | refine rd_orV ?_ | refine rd_notV ?_ | refine rd_tvKb ?_ | refine rd_ifE ?_ | refine rd_nil ?_ | refine rd_cons ?_ | refine rd_tup ?_ | refine rd_lst ?_ | refine rd_lstM ?_ | refine rd_cb ?_ | refine rd_call ?_ | refine rd_sp0 ?_ | refine rd_sp1 ?_ | refine rd_sp2 ?_ | refine rd_sp3 ?_ | refine rd_int ?_ | refine rd_intb ?_ | refine rd_abs ?_ | refine rd_ii ?_ | refine rd_add ?_ | refine rd_sub ?_ | refine rd_addI ?_ | refine rd_cmp ?_ | refine rd_setI ?_ | refine rd_mt ?_ | refine rd_lc ?_ | refine rd_lcM ?_ | refine rd_yes ?_ | refine rd_wseq ?_ | refine rd_wsT ?_ | refine rd_wsL ?_ | refine rd_wsS ?_ | refine rd_wzip ?_ | refine rd_zipT ?_ | refine rd_rng1 ?_ | refine rd_rng2 ?_ | refine rd_sl ?_ | refine rd_slT ?_ | refine rd_slL ?_ | refine rd_slS ?_ | refine rd_nopart ?_ | refine rd_part ?_ | refine rd_ptK ?_ | refine rd_star ?_ | refine rd_ss ?_ | refine rd_itet ?_ | refine rd_itef ?_ | refine rd_itnt ?_ | refine rd_itnf ?_) | ((with_reducible apply rd_var); (· exact rfl)) | ((with_reducible apply rd_asgK); (· exact rfl)) | ((with_reducible apply rd_parK); (· exact rfl)) | ((with_reducible apply rd_len); (· (first | assumption | exact seqD_ref (by assumption) | exact seqD_up | exact lstD_ref (by assumption) | exact lstD_up | rfl))) | ((with_reducible apply rd_tuple); (· (first | assumption | exact seqD_ref (by assumption) | exact seqD_up | exact lstD_ref (by assumption) | exact lstD_up | rfl))) | ((with_reducible apply rd_list); (· (first | assumption | exact seqD_ref (by assumption) | exact seqD_up | exact lstD_ref (by assumption) | exact lstD_up | rfl))) | ((with_reducible apply rd_stK); (· (first | assumption | exact seqD_ref (by assumption) | exact seqD_up | exact lstD_ref (by assumption) | exact lstD_up | rfl))) | ((with_reducible apply rd_ix); (· (first | assumption | exact seqD_ref (by assumption) | exact seqD_up | exact lstD_ref (by assumption) | exact lstD_up | rfl)); (· (first | exact atI_c0 _ _ | exact atI_c1 _ _ _ | exact atI_c2 _ _ _ _ | assumption | rfl))) | ((with_reducible apply rd_set30); (· (first | assumption | exact gup_same))) | ((with_reducible apply rd_set32); (· (first | assumption | exact gup_same))) | ((with_reducible apply rd_some); (· (first | assumption | exact seqD_ref (by assumption) | exact seqD_up | exact lstD_ref (by assumption) | exact lstD_up | rfl)))))
  exact dret k

abbrev s_qpot : Stmt := topS 24
abbrev N_qpot : List Str := ["_law_script", "_law_at", "_law_cell", "_law_great", "_law_mixed"]
theorem sc_qpot : FnScope N_qpot ["_law_script", "_law_at"] (defScope s_qpot) := ⟨rfl, rfl, rfl, by decide +kernel, rfl, by decide +kernel, by decide +kernel⟩
abbrev sp_qpot : SpD :=
  sp2 fun a b g P => ∃ (ns : List Int) (i : Nat), a = .scr ns ∧ b = .int (i : Nat) ∧ i < 4 ∧ ∀ p L, g p = none → PotL 0 L → P (.ref p) (gup g p (.lst L))
theorem ok_qpot {P : Program} {w : World} {K : Fg} {mg : Str → Option Value} {base : Heap} {t_MAX_PLACE t_MAX_STEP t_MOST_LAST t_MOST_MOST : Tok} {f : Addr} {fd : FuncData} (D : Dfn K mg "_law_pot" s_qpot ["_law_script", "_law_at"] f fd) (T : Txt K mg t_MAX_PLACE t_MAX_STEP t_MOST_LAST t_MOST_MOST) :
    FnOk P w K mg base CX0 1 f fd ["_law_script", "_law_at"] (upSp K sp_qpot) := by
  refine fun_okD D.fn sc_qpot (fun ds g Q h => len2 h) (fun cdv A outer s H E hr => ⟨_, (pds_cons (pds_set (i := 2) sc_qpot.nd (pd_ifExp (pt_cmpD op_lt (RefCmp.op ref_cmp) (pdv 1) (pd_callB call_len_seq ref_len T.b_len (by decide +kernel) (pda_cons (pdv 0) pda_nil)) (nomark _)) (pd_ix (pdv 0) (pdv 1)) (pd_add (pd_mulI pd_int (pdv 1)) pd_int))) (pds_cons (pds_set (i := 3) sc_qpot.nd (pd_mod (pd_callTy call_int1 ref_int T.b_int (by decide +kernel) (pda_cons (pd_callB call_abs ref_abs T.b_abs (by decide +kernel) (pda_cons (pdv 2) pda_nil)) pda_nil)) (pd_pow (pd_pow pd_int pd_int) pd_int))) (pds_cons (pds_set (i := 4) sc_qpot.nd (pd_add (pd_add (pd_add (pd_mulI (pd_mod (pd_callTy call_int1 ref_int T.b_int (by decide +kernel) (pda_cons (pdv 3) pda_nil)) pd_int) pd_int) (pd_mulI pd_int (pdv 1))) (pd_mulI pd_int (pd_callTy call_int1 ref_int T.b_int (by decide +kernel) (pda_cons (pd_cmp op_lt (RefCmp.op ref_cmp) (pdv 2) pd_int (nomark _)) pda_nil)))) pd_int)) (pds_one (pds_ret (pd_lstM (pda_cons (pd_callB (call_max2 rfl) ref_II T.b_max (by decide +kernel) (pda_cons pd_int (pda_cons (pd_add (pd_sub (pdv 3) (pd_pow pd_int pd_int)) pd_int) pda_nil))) (pda_cons (pd_mod (pd_callTy call_int1 ref_int T.b_int (by decide +kernel) (pda_cons (pdv 4) pda_nil)) pd_int) (pda_cons pd_int pda_nil))))))))), ?_⟩)
  intro ds g Q h
  obtain ⟨a0, a1, rfl, h⟩ := sp2_of h
  rw [show startD N_qpot [a0, a1] = [some a0, some a1, none, none, none] from rfl]
  obtain ⟨ns, i, e1, e2, h1, k⟩ := h
  subst e1 e2
  (repeat (first | (with_reducible first | refine rd_seq ?_ | refine rd_seqE ?_ | refine rd_next ?_ | refine rd_rtE ?_ | refine rd_nxE ?_ | refine rd_nx ?_ | refine rd_rt ?_ | refine rd_ct ?_ | refine rd_bk ?_ | refine rd_drop ?_ | refine rd_ret ?_ | refine rd_retN ?_ | refine rd_dif ?_ | refine rd_asg ?_ | refine rd_par ?_ | refine rd_for ?_ | refine rd_break ?_ | refine rd_cont ?_ | refine rd_c ?_ | refine rd_op ?_ | refine rd_un ?_ | refine rd_b ?_ | refine rd_bK ?_ | refine rd_tru ?_ | refine rd_tKb ?_ | refine rd_and ?_ | refine rd_or ?_ | refine rd_not ?_ | refine rd_andV ?_ | refine rd_orV ?_ | refine rd_notV ?_ | refine rd_tvKb ?_ | refine rd_ifE ?_ | refine rd_nil ?_ | refine rd_cons ?_ | refine rd_tup ?_ | refine rd_lst ?_ | refine rd_lstM ?_ | refine rd_cb ?_ | refine rd_call ?_ | refine rd_sp0 ?_ | refine rd_sp1 ?_ | refine rd_sp2 ?_ | refine rd_sp3 ?_ | refine rd_int ?_ | refine rd_intb ?_ | refine rd_abs ?_ | refine rd_ii ?_ | refine rd_add ?_ | refine rd_sub ?_ | refine rd_addI ?_ | refine rd_cmp ?_ | refine rd_setI ?_ | refine rd_mt ?_ | refine rd_lc ?_ | refine rd_lcM ?_ | refine rd_yes ?_ | refine rd_wseq ?_ | refine rd_wsT ?_ | refine rd_wsL ?_ | refine rd_wsS ?_ | refine rd_wzip ?_ | refine rd_zipT ?_ | refine rd_rng1 ?_ | refine rd_rng2 ?_ | refine rd_sl ?_ | refine rd_slT ?_ | refine rd_slL ?_ | refine rd_slS ?_ | refine rd_nopart ?_ | refine rd_part ?_ | refine rd_ptK ?_ | refine rd_star ?_ | refine rd_ss ?_ | refine rd_itet ?_ | refine rd_itef ?_ | refine rd_itnt ?_ | refine rd_itnf ?_) | ((with_reducible apply rd_var); (· exact rfl)) | ((with_reducible apply rd_asgK); (· exact rfl)) | ((with_reducible apply rd_parK); (· exact rfl)) | ((with_reducible apply rd_len); (· (first | assumption | exact seqD_ref (by assumption) | exact seqD_up | exact lstD_ref (by assumption) | exact lstD_up | rfl))) | ((with_reducible apply rd_tuple); (· (first | assumption | exact seqD_ref (by assumption) | exact seqD_up | exact lstD_ref (by assumption) | exact lstD_up | rfl))) | ((with_reducible apply rd_list); (· (first | assumption | exact seqD_ref (by assumption) | exact seqD_up | exact lstD_ref (by assumption) | exact lstD_up | rfl))) | ((with_reducible apply rd_stK); (· (first | assumption | exact seqD_ref (by assumption) | exact seqD_up | exact lstD_ref (by assumption) | exact lstD_up | rfl))) | ((with_reducible apply rd_ix); (· (first | assumption | exact seqD_ref (by assumption) | exact seqD_up | exact lstD_ref (by assumption) | exact lstD_up | rfl)); (· (first | exact atI_c0 _ _ | exact atI_c1 _ _ _ | exact atI_c2 _ _ _ _ | assumption | rfl))) | ((with_reducible apply rd_set30); (· (first | assumption | exact gup_same))) | ((with_reducible apply rd_set32); (· (first | assumption | exact gup_same))) | ((with_reducible apply rd_some); (· (first | assumption | exact seqD_ref (by assumption) | exact seqD_up | exact lstD_ref (by assumption) | exact lstD_up | rfl)))))
  refine rd_iteb (fun c => ?_) (fun c => ?_)
  (repeat (first | (with_reducible first | refine rd_seq ?_ | refine rd_seqE ?_ | refine rd_next ?_ | refine rd_rtE ?_ | refine rd_nxE ?_ | refine rd_nx ?_ | refine rd_rt ?_ | refine rd_ct ?_ | refine rd_bk ?_ | refine rd_drop ?_ | refine rd_ret ?_ | refine rd_retN ?_ | refine rd_dif ?_ | refine rd_asg ?_ | refine rd_par ?_ | refine rd_for ?_ | refine rd_break ?_ | refine rd_cont ?_ | refine rd_c ?_ | refine rd_op ?_ | refine rd_un ?_ | refine rd_b ?_ | refine rd_bK ?_ | refine rd_tru ?_ | refine rd_tKb ?_ | refine rd_and ?_ | refine rd_or ?_ | refine rd_not ?_ | refine rd_andV ?_ | refine rd_orV ?_ | refine rd_notV ?_ | refine rd_tvKb ?_ | refine rd_ifE ?_ | refine rd_nil ?_ | refine rd_cons ?_ | refine rd_tup ?_ | refine rd_lst ?_ | refine rd_lstM ?_ | refine rd_cb ?_ | refine rd_call ?_ | refine rd_sp0 ?_ | refine rd_sp1 ?_ | refine rd_sp2 ?_ | refine rd_sp3 ?_ | refine rd_int ?_ | refine rd_intb ?_ | refine rd_abs ?_ | refine rd_ii ?_ | refine rd_add ?_ | refine rd_sub ?_ | refine rd_addI ?_ | refine rd_cmp ?_ | refine rd_setI ?_ | refine rd_mt ?_ | refine rd_lc ?_ | refine rd_lcM ?_ | refine rd_yes ?_ | refine rd_wseq ?_ | refine rd_wsT ?_ | refine rd_wsL ?_ | refine rd_wsS ?_ | refine rd_wzip ?_ | refine rd_zipT ?_ | refine rd_rng1 ?_ | refine rd_rng2 ?_ | refine rd_sl ?_ | refine rd_slT ?_ | refine rd_slL ?_ | refine rd_slS ?_ | refine rd_nopart ?_ | refine rd_part ?_ | refine rd_ptK ?_ | refine rd_star ?_ | refine rd_ss ?_ | refine rd_itet ?_ | refine rd_itef ?_ | refine rd_itnt ?_ | refine rd_itnf ?_) | ((with_reducible apply rd_var); (· exact rfl)) | ((with_reducible apply rd_asgK); (· exact rfl)) | ((with_reducible apply rd_parK); (· exact rfl)) | ((with_reducible apply rd_len); (· (first | assumption | exact seqD_ref (by assumption) | exact seqD_up | exact lstD_ref (by assumption) | exact lstD_up | rfl))) | ((with_reducible apply rd_tuple); (· (first | assumption | exact seqD_ref (by assumption) | exact seqD_up | exact lstD_ref (by assumption) | exact lstD_up | rfl))) | ((with_reducible apply rd_list); (· (first | assumption | exact seqD_ref (by assumption) | exact seqD_up | exact lstD_ref (by assumption) | exact lstD_up | rfl))) | ((with_reducible apply rd_stK); (· (first | assumption | exact seqD_ref (by assumption) | exact seqD_up | exact lstD_ref (by assumption) | exact lstD_up | rfl))) | ((with_reducible apply rd_ix); (· (first | assumption | exact seqD_ref (by assumption) | exact seqD_up | exact lstD_ref (by assumption) | exact lstD_up | rfl)); (· (first | exact atI_c0 _ _ | exact atI_c1 _ _ _ | exact atI_c2 _ _ _ _ | assumption | rfl))) | ((with_reducible apply rd_set30); (· (first | assumption | exact gup_same))) | ((with_reducible apply rd_set32); (· (first | assumption | exact gup_same))) | ((with_reducible apply rd_some); (· (first | assumption | exact seqD_ref (by assumption) | exact seqD_up | exact lstD_ref (by assumption) | exact lstD_up | rfl)))))
  have c' : i < ns.length := by simpa using c
  (with_reducible apply rd_ix)
  · rfl
  · exact atI_ints c'
  generalize ns[i] = cell
  rotate_left
  (repeat (first | (with_reducible first | refine rd_seq ?_ | refine rd_seqE ?_ | refine rd_next ?_ | refine rd_rtE ?_ | refine rd_nxE ?_ | refine rd_nx ?_ | refine rd_rt ?_ | refine rd_ct ?_ | refine rd_bk ?_ | refine rd_drop ?_ | refine rd_ret ?_ | refine rd_retN ?_ | refine rd_dif ?_ | refine rd_asg ?_ | refine rd_par ?_ | refine rd_for ?_ | refine rd_break ?_ | refine rd_cont ?_ | refine rd_c ?_ | refine rd_op ?_ | refine rd_un ?_ | refine rd_b ?_ | refine rd_bK ?_ | refine rd_tru ?_ | refine rd_tKb ?_ | refine rd_and ?_ | refine rd_or ?_ | refine rd_not ?_ | refine rd_andV ?_ | refine rd_orV ?_ | refine rd_notV ?_ | refine rd_tvKb ?_ | refine rd_ifE ?_ | refine rd_nil ?_ | refine rd_cons ?_ | refine rd_tup ?_ | refine rd_lst ?_ | refine rd_lstM ?_ | refine rd_cb ?_ | refine rd_call ?_ | refine rd_sp0 ?_ | refine rd_sp1 ?_ | refine rd_sp2 ?_ | refine rd_sp3 ?_ | refine rd_int ?_ | refine rd_intb ?_ | refine rd_abs ?_ | refine rd_ii ?_ | refine rd_add ?_ | refine rd_sub ?_ | refine rd_addI ?_ | refine rd_cmp ?_ | refine rd_setI ?_ | refine rd_mt ?_ | refine rd_lc ?_ | refine rd_lcM ?_ | refine rd_yes ?_ | refine rd_wseq ?_ | refine rd_wsT ?_ | refine rd_wsL ?_ | refine rd_wsS ?_ | refine rd_wzip ?_ | refine rd_zipT ?_ | refine rd_rng1 ?_ | refine rd_rng2 ?_ | refine rd_sl ?_ | refine rd_slT ?_ | refine rd_slL ?_ | refine rd_slS ?_ | refine rd_nopart ?_ | refine rd_part ?_ | refine rd_ptK ?_ | refine rd_star ?_ | refine rd_ss ?_ | refine rd_itet ?_ | refine rd_itef ?_ | refine rd_itnt ?_ | refine rd_itnf ?_) | ((with_reducible apply rd_var); (· exact rfl)) | ((with_reducible apply rd_asgK); (· exact rfl)) | ((with_reducible apply rd_parK); (· exact rfl)) | ((with_reducible apply rd_len); (· (first | assumption | exact seqD_ref (by assumption) | exact seqD_up | exact lstD_ref (by assumption) | exact lstD_up | rfl))) | ((with_reducible apply rd_tuple); (· (first | assumption | exact seqD_ref (by assumption) | exact seqD_up | exact lstD_ref (by assumption) | exact lstD_up | rfl))) | ((with_reducible apply rd_list); (· (first | assumption | exact seqD_ref (by assumption) | exact seqD_up | exact lstD_ref (by assumption) | exact lstD_up | rfl))) | ((with_reducible apply rd_stK); (· (first | assumption | exact seqD_ref (by assumption) | exact seqD_up | exact lstD_ref (by assumption) | exact lstD_up | rfl))) | ((with_reducible apply rd_ix); (· (first | assumption | exact seqD_ref (by assumption) | exact seqD_up | exact lstD_ref (by assumption) | exact lstD_up | rfl)); (· (first | exact atI_c0 _ _ | exact atI_c1 _ _ _ | exact atI_c2 _ _ _ _ | assumption | rfl))) | ((with_reducible apply rd_set30); (· (first | assumption | exact gup_same))) | ((with_reducible apply rd_set32); (· (first | assumption | exact gup_same))) | ((with_reducible apply rd_some); (· (first | assumption | exact seqD_ref (by assumption) | exact seqD_up | exact lstD_ref (by assumption) | exact lstD_up | rfl)))))
  refine rd_rI (mulW (by omega) (by omega) (by omega) (by omega)) ?_
  (repeat (first | (with_reducible first | refine rd_seq ?_ | refine rd_seqE ?_ | refine rd_next ?_ | refine rd_rtE ?_ | refine rd_nxE ?_ | refine rd_nx ?_ | refine rd_rt ?_ | refine rd_ct ?_ | refine rd_bk ?_ | refine rd_drop ?_ | refine rd_ret ?_ | refine rd_retN ?_ | refine rd_dif ?_ | refine rd_asg ?_ | refine rd_par ?_ | refine rd_for ?_ | refine rd_break ?_ | refine rd_cont ?_ | refine rd_c ?_ | refine rd_op ?_ | refine rd_un ?_ | refine rd_b ?_ | refine rd_bK ?_ | refine rd_tru ?_ | refine rd_tKb ?_ | refine rd_and ?_ | refine rd_or ?_ | refine rd_not ?_ | refine rd_andV ?_ | refine rd_orV ?_ | refine rd_notV ?_ | refine rd_tvKb ?_ | refine rd_ifE ?_ | refine rd_nil ?_ | refine rd_cons ?_ | refine rd_tup ?_ | refine rd_lst ?_ | refine rd_lstM ?_ | refine rd_cb ?_ | refine rd_call ?_ | refine rd_sp0 ?_ | refine rd_sp1 ?_ | refine rd_sp2 ?_ | refine rd_sp3 ?_ | refine rd_int ?_ | refine rd_intb ?_ | refine rd_abs ?_ | refine rd_ii ?_ | refine rd_add ?_ | refine rd_sub ?_ | refine rd_addI ?_ | refine rd_cmp ?_ | refine rd_setI ?_ | refine rd_mt ?_ | refine rd_lc ?_ | refine rd_lcM ?_ | refine rd_yes ?_ | refine rd_wseq ?_ | refine rd_wsT ?_ | refine rd_wsL ?_ | refine rd_wsS ?_ | refine rd_wzip ?_ | refine rd_zipT ?_ | refine rd_rng1 ?_ | refine rd_rng2 ?_ | refine rd_sl ?_ | refine rd_slT ?_ | refine rd_slL ?_ | refine rd_slS ?_ | refine rd_nopart ?_ | refine rd_part ?_ | refine rd_ptK ?_ | refine rd_star ?_ | refine rd_ss ?_ | refine rd_itet ?_ | refine rd_itef ?_ | refine rd_itnt ?_ | refine rd_itnf ?_) | ((with_reducible apply rd_var); (· exact rfl)) | ((with_reducible apply rd_asgK); (· exact rfl)) | ((with_reducible apply rd_parK); (· exact rfl)) | ((with_reducible apply rd_len); (· (first | assumption | exact seqD_ref (by assumption) | exact seqD_up | exact lstD_ref (by assumption) | exact lstD_up | rfl))) | ((with_reducible apply rd_tuple); (· (first | assumption | exact seqD_ref (by assumption) | exact seqD_up | exact lstD_ref (by assumption) | exact lstD_up | rfl))) | ((with_reducible apply rd_list); (· (first | assumption | exact seqD_ref (by assumption) | exact seqD_up | exact lstD_ref (by assumption) | exact lstD_up | rfl))) | ((with_reducible apply rd_stK); (· (first | assumption | exact seqD_ref (by assumption) | exact seqD_up | exact lstD_ref (by assumption) | exact lstD_up | rfl))) | ((with_reducible apply rd_ix); (· (first | assumption | exact seqD_ref (by assumption) | exact seqD_up | exact lstD_ref (by assumption) | exact lstD_up | rfl)); (· (first | exact atI_c0 _ _ | exact atI_c1 _ _ _ | exact atI_c2 _ _ _ _ | assumption | rfl))) | ((with_reducible apply rd_set30); (· (first | assumption | exact gup_same))) | ((with_reducible apply rd_set32); (· (first | assumption | exact gup_same))) | ((with_reducible apply rd_some); (· (first | assumption | exact seqD_ref (by assumption) | exact seqD_up | exact lstD_ref (by assumption) | exact lstD_up | rfl)))))
  generalize 83 * (i : Int) + 31 = cell
  all_goals (repeat (first | (with_reducible first | refine rd_seq ?_ | refine rd_seqE ?_ | refine rd_next ?_ | refine rd_rtE ?_ | refine rd_nxE ?_ | refine rd_nx ?_ | refine rd_rt ?_ | refine rd_ct ?_ | refine rd_bk ?_ | refine rd_drop ?_ | refine rd_ret ?_ | refine rd_retN ?_ | refine rd_dif ?_ | refine rd_asg ?_ | refine rd_par ?_ | refine rd_for ?_ | refine rd_break ?_ | refine rd_cont ?_ | refine rd_c ?_ | refine rd_op ?_ | refine rd_un ?_ | refine rd_b ?_ | refine rd_bK ?_ | refine rd_tru ?_ | refine rd_tKb ?_ | refine rd_and ?_ | refine rd_or ?_ | refine rd_not ?_ | refine rd_andV ?_ | refine rd_orV ?_ | refine rd_notV ?_ | refine rd_tvKb ?_ | refine rd_ifE ?_ | refine rd_nil ?_ | refine rd_cons ?_ | refine rd_tup ?_ | refine rd_lst ?_ | refine rd_lstM ?_ | refine rd_cb ?_ | refine rd_call ?_ | refine rd_sp0 ?_ | refine rd_sp1 ?_ | refine rd_sp2 ?_ | refine rd_sp3 ?_ | refine rd_int ?_ | refine rd_intb ?_ | refine rd_abs ?_ | refine rd_ii ?_ | refine rd_add ?_ | refine rd_sub ?_ | refine rd_addI ?_ | refine rd_cmp ?_ | refine rd_setI ?_ | refine rd_mt ?_ | refine rd_lc ?_ | refine rd_lcM ?_ | refine rd_yes ?_ | refine rd_wseq ?_ | refine rd_wsT ?_ | refine rd_wsL ?_ | refine rd_wsS ?_ | refine rd_wzip ?_ | refine rd_zipT ?_ | refine rd_rng1 ?_ | refine rd_rng2 ?_ | refine rd_sl ?_ | refine rd_slT ?_ | refine rd_slL ?_ | refine rd_slS ?_ | refine rd_nopart ?_ | refine rd_part ?_ | refine rd_ptK ?_ | refine rd_star ?_ | refine rd_ss ?_ | refine rd_itet ?_ | refine rd_itef ?_ | refine rd_itnt ?_ | refine rd_itnf ?_) | ((with_reducible apply rd_var); (· exact rfl)) | ((with_reducible apply rd_asgK); (· exact rfl)) | ((with_reducible apply rd_parK); (· exact rfl)) | ((with_reducible apply rd_len); (· (first | assumption | exact seqD_ref (by assumption) | exact seqD_up | exact lstD_ref (by assumption) | exact lstD_up | rfl))) | ((with_reducible apply rd_tuple); (· (first | assumption | exact seqD_ref (by assumption) | exact seqD_up | exact lstD_ref (by assumption) | exact lstD_up | rfl))) | ((with_reducible apply rd_list); (· (first | assumption | exact seqD_ref (by assumption) | exact seqD_up | exact lstD_ref (by assumption) | exact lstD_up | rfl))) | ((with_reducible apply rd_stK); (· (first | assumption | exact seqD_ref (by assumption) | exact seqD_up | exact lstD_ref (by assumption) | exact lstD_up | rfl))) | ((with_reducible apply rd_ix); (· (first | assumption | exact seqD_ref (by assumption) | exact seqD_up | exact lstD_ref (by assumption) | exact lstD_up | rfl)); (· (first | exact atI_c0 _ _ | exact atI_c1 _ _ _ | exact atI_c2 _ _ _ _ | assumption | rfl))) | ((with_reducible apply rd_set30); (· (first | assumption | exact gup_same))) | ((with_reducible apply rd_set32); (· (first | assumption | exact gup_same))) | ((with_reducible apply rd_some); (· (first | assumption | exact seqD_ref (by assumption) | exact seqD_up | exact lstD_ref (by assumption) | exact lstD_up | rfl)))))
  all_goals refine rd_rI (powW (by decide +kernel)) ?_
  all_goals (repeat (first | (with_reducible first | refine rd_seq ?_ | refine rd_seqE ?_ | refine rd_next ?_ | refine rd_rtE ?_ | refine rd_nxE ?_ | refine rd_nx ?_ | refine rd_rt ?_ | refine rd_ct ?_ | refine rd_bk ?_ | refine rd_drop ?_ | refine rd_ret ?_ | refine rd_retN ?_ | refine rd_dif ?_ | refine rd_asg ?_ | refine rd_par ?_ | refine rd_for ?_ | refine rd_break ?_ | refine rd_cont ?_ | refine rd_c ?_ | refine rd_op ?_ | refine rd_un ?_ | refine rd_b ?_ | refine rd_bK ?_ | refine rd_tru ?_ | refine rd_tKb ?_ | refine rd_and ?_ | refine rd_or ?_ | refine rd_not ?_ | refine rd_andV ?_ | refine rd_orV ?_ | refine rd_notV ?_ | refine rd_tvKb ?_ | refine rd_ifE ?_ | refine rd_nil ?_ | refine rd_cons ?_ | refine rd_tup ?_ | refine rd_lst ?_ | refine rd_lstM ?_ | refine rd_cb ?_ | refine rd_call ?_ | refine rd_sp0 ?_ | refine rd_sp1 ?_ | refine rd_sp2 ?_ | refine rd_sp3 ?_ | refine rd_int ?_ | refine rd_intb ?_ | refine rd_abs ?_ | refine rd_ii ?_ | refine rd_add ?_ | refine rd_sub ?_ | refine rd_addI ?_ | refine rd_cmp ?_ | refine rd_setI ?_ | refine rd_mt ?_ | refine rd_lc ?_ | refine rd_lcM ?_ | refine rd_yes ?_ | refine rd_wseq ?_ | refine rd_wsT ?_ | refine rd_wsL ?_ | refine rd_wsS ?_ | refine rd_wzip ?_ | refine rd_zipT ?_ | refine rd_rng1 ?_ | refine rd_rng2 ?_ | refine rd_sl ?_ | refine rd_slT ?_ | refine rd_slL ?_ | refine rd_slS ?_ | refine rd_nopart ?_ | refine rd_part ?_ | refine rd_ptK ?_ | refine rd_star ?_ | refine rd_ss ?_ | refine rd_itet ?_ | refine rd_itef ?_ | refine rd_itnt ?_ | refine rd_itnf ?_) | ((with_reducible apply rd_var); (· exact rfl)) | ((with_reducible apply rd_asgK); (· exact rfl)) | ((with_reducible apply rd_parK); (· exact rfl)) | ((with_reducible apply rd_len); (· (first | assumption | exact seqD_ref (by assumption) | exact seqD_up | exact lstD_ref (by assumption) | exact lstD_up | rfl))) | ((with_reducible apply rd_tuple); (· (first | assumption | exact seqD_ref (by assumption) | exact seqD_up | exact lstD_ref (by assumption) | exact lstD_up | rfl))) | ((with_reducible apply rd_list); (· (first | assumption | exact seqD_ref (by assumption) | exact seqD_up | exact lstD_ref (by assumption) | exact lstD_up | rfl))) | ((with_reducible apply rd_stK); (· (first | assumption | exact seqD_ref (by assumption) | exact seqD_up | exact lstD_ref (by assumption) | exact lstD_up | rfl))) | ((with_reducible apply rd_ix); (· (first | assumption | exact seqD_ref (by assumption) | exact seqD_up | exact lstD_ref (by assumption) | exact lstD_up | rfl)); (· (first | exact atI_c0 _ _ | exact atI_c1 _ _ _ | exact atI_c2 _ _ _ _ | assumption | rfl))) | ((with_reducible apply rd_set30); (· (first | assumption | exact gup_same))) | ((with_reducible apply rd_set32); (· (first | assumption | exact gup_same))) | ((with_reducible apply rd_some); (· (first | assumption | exact seqD_ref (by assumption) | exact seqD_up | exact lstD_ref (by assumption) | exact lstD_up | rfl)))))
  all_goals refine rd_rI (powW (by decide +kernel)) ?_
  all_goals (repeat (first | (with_reducible first | refine rd_seq ?_ | refine rd_seqE ?_ | refine rd_next ?_ | refine rd_rtE ?_ | refine rd_nxE ?_ | refine rd_nx ?_ | refine rd_rt ?_ | refine rd_ct ?_ | refine rd_bk ?_ | refine rd_drop ?_ | refine rd_ret ?_ | refine rd_retN ?_ | refine rd_dif ?_ | refine rd_asg ?_ | refine rd_par ?_ | refine rd_for ?_ | refine rd_break ?_ | refine rd_cont ?_ | refine rd_c ?_ | refine rd_op ?_ | refine rd_un ?_ | refine rd_b ?_ | refine rd_bK ?_ | refine rd_tru ?_ | refine rd_tKb ?_ | refine rd_and ?_ | refine rd_or ?_ | refine rd_not ?_ | refine rd_andV ?_ | refine rd_orV ?_ | refine rd_notV ?_ | refine rd_tvKb ?_ | refine rd_ifE ?_ | refine rd_nil ?_ | refine rd_cons ?_ | refine rd_tup ?_ | refine rd_lst ?_ | refine rd_lstM ?_ | refine rd_cb ?_ | refine rd_call ?_ | refine rd_sp0 ?_ | refine rd_sp1 ?_ | refine rd_sp2 ?_ | refine rd_sp3 ?_ | refine rd_int ?_ | refine rd_intb ?_ | refine rd_abs ?_ | refine rd_ii ?_ | refine rd_add ?_ | refine rd_sub ?_ | refine rd_addI ?_ | refine rd_cmp ?_ | refine rd_setI ?_ | refine rd_mt ?_ | refine rd_lc ?_ | refine rd_lcM ?_ | refine rd_yes ?_ | refine rd_wseq ?_ | refine rd_wsT ?_ | refine rd_wsL ?_ | refine rd_wsS ?_ | refine rd_wzip ?_ | refine rd_zipT ?_ | refine rd_rng1 ?_ | refine rd_rng2 ?_ | refine rd_sl ?_ | refine rd_slT ?_ | refine rd_slL ?_ | refine rd_slS ?_ | refine rd_nopart ?_ | refine rd_part ?_ | refine rd_ptK ?_ | refine rd_star ?_ | refine rd_ss ?_ | refine rd_itet ?_ | refine rd_itef ?_ | refine rd_itnt ?_ | refine rd_itnf ?_) | ((with_reducible apply rd_var); (· exact rfl)) | ((with_reducible apply rd_asgK); (· exact rfl)) | ((with_reducible apply rd_parK); (· exact rfl)) | ((with_reducible apply rd_len); (· (first | assumption | exact seqD_ref (by assumption) | exact seqD_up | exact lstD_ref (by assumption) | exact lstD_up | rfl))) | ((with_reducible apply rd_tuple); (· (first | assumption | exact seqD_ref (by assumption) | exact seqD_up | exact lstD_ref (by assumption) | exact lstD_up | rfl))) | ((with_reducible apply rd_list); (· (first | assumption | exact seqD_ref (by assumption) | exact seqD_up | exact lstD_ref (by assumption) | exact lstD_up | rfl))) | ((with_reducible apply rd_stK); (· (first | assumption | exact seqD_ref (by assumption) | exact seqD_up | exact lstD_ref (by assumption) | exact lstD_up | rfl))) | ((with_reducible apply rd_ix); (· (first | assumption | exact seqD_ref (by assumption) | exact seqD_up | exact lstD_ref (by assumption) | exact lstD_up | rfl)); (· (first | exact atI_c0 _ _ | exact atI_c1 _ _ _ | exact atI_c2 _ _ _ _ | assumption | rfl))) | ((with_reducible apply rd_set30); (· (first | assumption | exact gup_same))) | ((with_reducible apply rd_set32); (· (first | assumption | exact gup_same))) | ((with_reducible apply rd_some); (· (first | assumption | exact seqD_ref (by assumption) | exact seqD_up | exact lstD_ref (by assumption) | exact lstD_up | rfl)))))
  all_goals refine rd_rI (by decide +kernel) ?_
  all_goals generalize (if cell < 0 then -cell else cell) % (10 ^ Int.toNat 59) ^ Int.toNat 8 = gr
  all_goals (repeat (first | (with_reducible first | refine rd_seq ?_ | refine rd_seqE ?_ | refine rd_next ?_ | refine rd_rtE ?_ | refine rd_nxE ?_ | refine rd_nx ?_ | refine rd_rt ?_ | refine rd_ct ?_ | refine rd_bk ?_ | refine rd_drop ?_ | refine rd_ret ?_ | refine rd_retN ?_ | refine rd_dif ?_ | refine rd_asg ?_ | refine rd_par ?_ | refine rd_for ?_ | refine rd_break ?_ | refine rd_cont ?_ | refine rd_c ?_ | refine rd_op ?_ | refine rd_un ?_ | refine rd_b ?_ | refine rd_bK ?_ | refine rd_tru ?_ | refine rd_tKb ?_ | refine rd_and ?_ | refine rd_or ?_ | refine rd_not ?_ | refine rd_andV ?_ | refine rd_orV ?_ | refine rd_notV ?_ | refine rd_tvKb ?_ | refine rd_ifE ?_ | refine rd_nil ?_ | refine rd_cons ?_ | refine rd_tup ?_ | refine rd_lst ?_ | refine rd_lstM ?_ | refine rd_cb ?_ | refine rd_call ?_ | refine rd_sp0 ?_ | refine rd_sp1 ?_ | refine rd_sp2 ?_ | refine rd_sp3 ?_ | refine rd_int ?_ | refine rd_intb ?_ | refine rd_abs ?_ | refine rd_ii ?_ | refine rd_add ?_ | refine rd_sub ?_ | refine rd_addI ?_ | refine rd_cmp ?_ | refine rd_setI ?_ | refine rd_mt ?_ | refine rd_lc ?_ | refine rd_lcM ?_ | refine rd_yes ?_ | refine rd_wseq ?_ | refine rd_wsT ?_ | refine rd_wsL ?_ | refine rd_wsS ?_ | refine rd_wzip ?_ | refine rd_zipT ?_ | refine rd_rng1 ?_ | refine rd_rng2 ?_ | refine rd_sl ?_ | refine rd_slT ?_ | refine rd_slL ?_ | refine rd_slS ?_ | refine rd_nopart ?_ | refine rd_part ?_ | refine rd_ptK ?_ | refine rd_star ?_ | refine rd_ss ?_ | refine rd_itet ?_ | refine rd_itef ?_ | refine rd_itnt ?_ | refine rd_itnf ?_) | ((with_reducible apply rd_var); (· exact rfl)) | ((with_reducible apply rd_asgK); (· exact rfl)) | ((with_reducible apply rd_parK); (· exact rfl)) | ((with_reducible apply rd_len); (· (first | assumption | exact seqD_ref (by assumption) | exact seqD_up | exact lstD_ref (by assumption) | exact lstD_up | rfl))) | ((with_reducible apply rd_tuple); (· (first | assumption | exact seqD_ref (by assumption) | exact seqD_up | exact lstD_ref (by assumption) | exact lstD_up | rfl))) | ((with_reducible apply rd_list); (· (first | assumption | exact seqD_ref (by assumption) | exact seqD_up | exact lstD_ref (by assumption) | exact lstD_up | rfl))) | ((with_reducible apply rd_stK); (· (first | assumption | exact seqD_ref (by assumption) | exact seqD_up | exact lstD_ref (by assumption) | exact lstD_up | rfl))) | ((with_reducible apply rd_ix); (· (first | assumption | exact seqD_ref (by assumption) | exact seqD_up | exact lstD_ref (by assumption) | exact lstD_up | rfl)); (· (first | exact atI_c0 _ _ | exact atI_c1 _ _ _ | exact atI_c2 _ _ _ _ | assumption | rfl))) | ((with_reducible apply rd_set30); (· (first | assumption | exact gup_same))) | ((with_reducible apply rd_set32); (· (first | assumption | exact gup_same))) | ((with_reducible apply rd_some); (· (first | assumption | exact seqD_ref (by assumption) | exact seqD_up | exact lstD_ref (by assumption) | exact lstD_up | rfl)))))
  all_goals refine rd_rI (by decide) ?_
  all_goals have b1 := Int.emod_nonneg gr (b := 1152921504606846883) (by decide)
  all_goals have b2 := Int.emod_lt_of_pos gr (b := 1152921504606846883) (by decide)
  all_goals generalize gr % 1152921504606846883 = m1 at b1 b2 ⊢
  all_goals (repeat (first | (with_reducible first | refine rd_seq ?_ | refine rd_seqE ?_ | refine rd_next ?_ | refine rd_rtE ?_ | refine rd_nxE ?_ | refine rd_nx ?_ | refine rd_rt ?_ | refine rd_ct ?_ | refine rd_bk ?_ | refine rd_drop ?_ | refine rd_ret ?_ | refine rd_retN ?_ | refine rd_dif ?_ | refine rd_asg ?_ | refine rd_par ?_ | refine rd_for ?_ | refine rd_break ?_ | refine rd_cont ?_ | refine rd_c ?_ | refine rd_op ?_ | refine rd_un ?_ | refine rd_b ?_ | refine rd_bK ?_ | refine rd_tru ?_ | refine rd_tKb ?_ | refine rd_and ?_ | refine rd_or ?_ | refine rd_not ?_ | refine rd_andV ?_ | refine rd_orV ?_ | refine rd_notV ?_ | refine rd_tvKb ?_ | refine rd_ifE ?_ | refine rd_nil ?_ | refine rd_cons ?_ | refine rd_tup ?_ | refine rd_lst ?_ | refine rd_lstM ?_ | refine rd_cb ?_ | refine rd_call ?_ | refine rd_sp0 ?_ | refine rd_sp1 ?_ | refine rd_sp2 ?_ | refine rd_sp3 ?_ | refine rd_int ?_ | refine rd_intb ?_ | refine rd_abs ?_ | refine rd_ii ?_ | refine rd_add ?_ | refine rd_sub ?_ | refine rd_addI ?_ | refine rd_cmp ?_ | refine rd_setI ?_ | refine rd_mt ?_ | refine rd_lc ?_ | refine rd_lcM ?_ | refine rd_yes ?_ | refine rd_wseq ?_ | refine rd_wsT ?_ | refine rd_wsL ?_ | refine rd_wsS ?_ | refine rd_wzip ?_ | refine rd_zipT ?_ | refine rd_rng1 ?_ | refine rd_rng2 ?_ | refine rd_sl ?_ | refine rd_slT ?_ | refine rd_slL ?_ | refine rd_slS ?_ | refine rd_nopart ?_ | refine rd_part ?_ | refine rd_ptK ?_ | refine rd_star ?_ | refine rd_ss ?_ | refine rd_itet ?_ | refine rd_itef ?_ | refine rd_itnt ?_ | refine rd_itnf ?_) | ((with_reducible apply rd_var); (· exact rfl)) | ((with_reducible apply rd_asgK); (· exact rfl)) | ((with_reducible apply rd_parK); (· exact rfl)) | ((with_reducible apply rd_len); (· (first | assumption | exact seqD_ref (by assumption) | exact seqD_up | exact lstD_ref (by assumption) | exact lstD_up | rfl))) | ((with_reducible apply rd_tuple); (· (first | assumption | exact seqD_ref (by assumption) | exact seqD_up | exact lstD_ref (by assumption) | exact lstD_up | rfl))) | ((with_reducible apply rd_list); (· (first | assumption | exact seqD_ref (by assumption) | exact seqD_up | exact lstD_ref (by assumption) | exact lstD_up | rfl))) | ((with_reducible apply rd_stK); (· (first | assumption | exact seqD_ref (by assumption) | exact seqD_up | exact lstD_ref (by assumption) | exact lstD_up | rfl))) | ((with_reducible apply rd_ix); (· (first | assumption | exact seqD_ref (by assumption) | exact seqD_up | exact lstD_ref (by assumption) | exact lstD_up | rfl)); (· (first | exact atI_c0 _ _ | exact atI_c1 _ _ _ | exact atI_c2 _ _ _ _ | assumption | rfl))) | ((with_reducible apply rd_set30); (· (first | assumption | exact gup_same))) | ((with_reducible apply rd_set32); (· (first | assumption | exact gup_same))) | ((with_reducible apply rd_some); (· (first | assumption | exact seqD_ref (by assumption) | exact seqD_up | exact lstD_ref (by assumption) | exact lstD_up | rfl)))))
  all_goals refine rd_rI (mulW (by omega) (by omega) (by omega) (by omega)) ?_
  all_goals (repeat (first | (with_reducible first | refine rd_seq ?_ | refine rd_seqE ?_ | refine rd_next ?_ | refine rd_rtE ?_ | refine rd_nxE ?_ | refine rd_nx ?_ | refine rd_rt ?_ | refine rd_ct ?_ | refine rd_bk ?_ | refine rd_drop ?_ | refine rd_ret ?_ | refine rd_retN ?_ | refine rd_dif ?_ | refine rd_asg ?_ | refine rd_par ?_ | refine rd_for ?_ | refine rd_break ?_ | refine rd_cont ?_ | refine rd_c ?_ | refine rd_op ?_ | refine rd_un ?_ | refine rd_b ?_ | refine rd_bK ?_ | refine rd_tru ?_ | refine rd_tKb ?_ | refine rd_and ?_ | refine rd_or ?_ | refine rd_not ?_ | refine rd_andV ?_ | refine rd_orV ?_ | refine rd_notV ?_ | refine rd_tvKb ?_ | refine rd_ifE ?_ | refine rd_nil ?_ | refine rd_cons ?_ | refine rd_tup ?_ | refine rd_lst ?_ | refine rd_lstM ?_ | refine rd_cb ?_ | refine rd_call ?_ | refine rd_sp0 ?_ | refine rd_sp1 ?_ | refine rd_sp2 ?_ | refine rd_sp3 ?_ | refine rd_int ?_ | refine rd_intb ?_ | refine rd_abs ?_ | refine rd_ii ?_ | refine rd_add ?_ | refine rd_sub ?_ | refine rd_addI ?_ | refine rd_cmp ?_ | refine rd_setI ?_ | refine rd_mt ?_ | refine rd_lc ?_ | refine rd_lcM ?_ | refine rd_yes ?_ | refine rd_wseq ?_ | refine rd_wsT ?_ | refine rd_wsL ?_ | refine rd_wsS ?_ | refine rd_wzip ?_ | refine rd_zipT ?_ | refine rd_rng1 ?_ | refine rd_rng2 ?_ | refine rd_sl ?_ | refine rd_slT ?_ | refine rd_slL ?_ | refine rd_slS ?_ | refine rd_nopart ?_ | refine rd_part ?_ | refine rd_ptK ?_ | refine rd_star ?_ | refine rd_ss ?_ | refine rd_itet ?_ | refine rd_itef ?_ | refine rd_itnt ?_ | refine rd_itnf ?_) | ((with_reducible apply rd_var); (· exact rfl)) | ((with_reducible apply rd_asgK); (· exact rfl)) | ((with_reducible apply rd_parK); (· exact rfl)) | ((with_reducible apply rd_len); (· (first | assumption | exact seqD_ref (by assumption) | exact seqD_up | exact lstD_ref (by assumption) | exact lstD_up | rfl))) | ((with_reducible apply rd_tuple); (· (first | assumption | exact seqD_ref (by assumption) | exact seqD_up | exact lstD_ref (by assumption) | exact lstD_up | rfl))) | ((with_reducible apply rd_list); (· (first | assumption | exact seqD_ref (by assumption) | exact seqD_up | exact lstD_ref (by assumption) | exact lstD_up | rfl))) | ((with_reducible apply rd_stK); (· (first | assumption | exact seqD_ref (by assumption) | exact seqD_up | exact lstD_ref (by assumption) | exact lstD_up | rfl))) | ((with_reducible apply rd_ix); (· (first | assumption | exact seqD_ref (by assumption) | exact seqD_up | exact lstD_ref (by assumption) | exact lstD_up | rfl)); (· (first | exact atI_c0 _ _ | exact atI_c1 _ _ _ | exact atI_c2 _ _ _ _ | assumption | rfl))) | ((with_reducible apply rd_set30); (· (first | assumption | exact gup_same))) | ((with_reducible apply rd_set32); (· (first | assumption | exact gup_same))) | ((with_reducible apply rd_some); (· (first | assumption | exact seqD_ref (by assumption) | exact seqD_up | exact lstD_ref (by assumption) | exact lstD_up | rfl)))))
  all_goals refine rd_rI (mulW (by omega) (by omega) (by omega) (by omega)) ?_
  all_goals (repeat (first | (with_reducible first | refine rd_seq ?_ | refine rd_seqE ?_ | refine rd_next ?_ | refine rd_rtE ?_ | refine rd_nxE ?_ | refine rd_nx ?_ | refine rd_rt ?_ | refine rd_ct ?_ | refine rd_bk ?_ | refine rd_drop ?_ | refine rd_ret ?_ | refine rd_retN ?_ | refine rd_dif ?_ | refine rd_asg ?_ | refine rd_par ?_ | refine rd_for ?_ | refine rd_break ?_ | refine rd_cont ?_ | refine rd_c ?_ | refine rd_op ?_ | refine rd_un ?_ | refine rd_b ?_ | refine rd_bK ?_ | refine rd_tru ?_ | refine rd_tKb ?_ | refine rd_and ?_ | refine rd_or ?_ | refine rd_not ?_ | refine rd_andV ?_ | refine rd_orV ?_ | refine rd_notV ?_ | refine rd_tvKb ?_ | refine rd_ifE ?_ | refine rd_nil ?_ | refine rd_cons ?_ | refine rd_tup ?_ | refine rd_lst ?_ | refine rd_lstM ?_ | refine rd_cb ?_ | refine rd_call ?_ | refine rd_sp0 ?_ | refine rd_sp1 ?_ | refine rd_sp2 ?_ | refine rd_sp3 ?_ | refine rd_int ?_ | refine rd_intb ?_ | refine rd_abs ?_ | refine rd_ii ?_ | refine rd_add ?_ | refine rd_sub ?_ | refine rd_addI ?_ | refine rd_cmp ?_ | refine rd_setI ?_ | refine rd_mt ?_ | refine rd_lc ?_ | refine rd_lcM ?_ | refine rd_yes ?_ | refine rd_wseq ?_ | refine rd_wsT ?_ | refine rd_wsL ?_ | refine rd_wsS ?_ | refine rd_wzip ?_ | refine rd_zipT ?_ | refine rd_rng1 ?_ | refine rd_rng2 ?_ | refine rd_sl ?_ | refine rd_slT ?_ | refine rd_slL ?_ | refine rd_slS ?_ | refine rd_nopart ?_ | refine rd_part ?_ | refine rd_ptK ?_ | refine rd_star ?_ | refine rd_ss ?_ | refine rd_itet ?_ | refine rd_itef ?_ | refine rd_itnt ?_ | refine rd_itnf ?_) | ((with_reducible apply rd_var); (· exact rfl)) | ((with_reducible apply rd_asgK); (· exact rfl)) | ((with_reducible apply rd_parK); (· exact rfl)) | ((with_reducible apply rd_len); (· (first | assumption | exact seqD_ref (by assumption) | exact seqD_up | exact lstD_ref (by assumption) | exact lstD_up | rfl))) | ((with_reducible apply rd_tuple); (· (first | assumption | exact seqD_ref (by assumption) | exact seqD_up | exact lstD_ref (by assumption) | exact lstD_up | rfl))) | ((with_reducible apply rd_list); (· (first | assumption | exact seqD_ref (by assumption) | exact seqD_up | exact lstD_ref (by assumption) | exact lstD_up | rfl))) | ((with_reducible apply rd_stK); (· (first | assumption | exact seqD_ref (by assumption) | exact seqD_up | exact lstD_ref (by assumption) | exact lstD_up | rfl))) | ((with_reducible apply rd_ix); (· (first | assumption | exact seqD_ref (by assumption) | exact seqD_up | exact lstD_ref (by assumption) | exact lstD_up | rfl)); (· (first | exact atI_c0 _ _ | exact atI_c1 _ _ _ | exact atI_c2 _ _ _ _ | assumption | rfl))) | ((with_reducible apply rd_set30); (· (first | assumption | exact gup_same))) | ((with_reducible apply rd_set32); (· (first | assumption | exact gup_same))) | ((with_reducible apply rd_some); (· (first | assumption | exact seqD_ref (by assumption) | exact seqD_up | exact lstD_ref (by assumption) | exact lstD_up | rfl)))))
  all_goals have b3 : 0 ≤ (if decide (cell < 0) = true then (1 : Int) else 0) ∧ (if decide (cell < 0) = true then (1 : Int) else 0) ≤ 1 := by split <;> decide
  all_goals generalize (if decide (cell < 0) = true then (1 : Int) else 0) = m2 at b3 ⊢
  all_goals refine rd_rI (mulW (by omega) (by omega) (by omega) (by omega)) ?_
  all_goals (repeat (first | (with_reducible first | refine rd_seq ?_ | refine rd_seqE ?_ | refine rd_next ?_ | refine rd_rtE ?_ | refine rd_nxE ?_ | refine rd_nx ?_ | refine rd_rt ?_ | refine rd_ct ?_ | refine rd_bk ?_ | refine rd_drop ?_ | refine rd_ret ?_ | refine rd_retN ?_ | refine rd_dif ?_ | refine rd_asg ?_ | refine rd_par ?_ | refine rd_for ?_ | refine rd_break ?_ | refine rd_cont ?_ | refine rd_c ?_ | refine rd_op ?_ | refine rd_un ?_ | refine rd_b ?_ | refine rd_bK ?_ | refine rd_tru ?_ | refine rd_tKb ?_ | refine rd_and ?_ | refine rd_or ?_ | refine rd_not ?_ | refine rd_andV ?_ | refine rd_orV ?_ | refine rd_notV ?_ | refine rd_tvKb ?_ | refine rd_ifE ?_ | refine rd_nil ?_ | refine rd_cons ?_ | refine rd_tup ?_ | refine rd_lst ?_ | refine rd_lstM ?_ | refine rd_cb ?_ | refine rd_call ?_ | refine rd_sp0 ?_ | refine rd_sp1 ?_ | refine rd_sp2 ?_ | refine rd_sp3 ?_ | refine rd_int ?_ | refine rd_intb ?_ | refine rd_abs ?_ | refine rd_ii ?_ | refine rd_add ?_ | refine rd_sub ?_ | refine rd_addI ?_ | refine rd_cmp ?_ | refine rd_setI ?_ | refine rd_mt ?_ | refine rd_lc ?_ | refine rd_lcM ?_ | refine rd_yes ?_ | refine rd_wseq ?_ | refine rd_wsT ?_ | refine rd_wsL ?_ | refine rd_wsS ?_ | refine rd_wzip ?_ | refine rd_zipT ?_ | refine rd_rng1 ?_ | refine rd_rng2 ?_ | refine rd_sl ?_ | refine rd_slT ?_ | refine rd_slL ?_ | refine rd_slS ?_ | refine rd_nopart ?_ | refine rd_part ?_ | refine rd_ptK ?_ | refine rd_star ?_ | refine rd_ss ?_ | refine rd_itet ?_ | refine rd_itef ?_ | refine rd_itnt ?_ | refine rd_itnf ?_) | ((with_reducible apply rd_var); (· exact rfl)) | ((with_reducible apply rd_asgK); (· exact rfl)) | ((with_reducible apply rd_parK); (· exact rfl)) | ((with_reducible apply rd_len); (· (first | assumption | exact seqD_ref (by assumption) | exact seqD_up | exact lstD_ref (by assumption) | exact lstD_up | rfl))) | ((with_reducible apply rd_tuple); (· (first | assumption | exact seqD_ref (by assumption) | exact seqD_up | exact lstD_ref (by assumption) | exact lstD_up | rfl))) | ((with_reducible apply rd_list); (· (first | assumption | exact seqD_ref (by assumption) | exact seqD_up | exact lstD_ref (by assumption) | exact lstD_up | rfl))) | ((with_reducible apply rd_stK); (· (first | assumption | exact seqD_ref (by assumption) | exact seqD_up | exact lstD_ref (by assumption) | exact lstD_up | rfl))) | ((with_reducible apply rd_ix); (· (first | assumption | exact seqD_ref (by assumption) | exact seqD_up | exact lstD_ref (by assumption) | exact lstD_up | rfl)); (· (first | exact atI_c0 _ _ | exact atI_c1 _ _ _ | exact atI_c2 _ _ _ _ | assumption | rfl))) | ((with_reducible apply rd_set30); (· (first | assumption | exact gup_same))) | ((with_reducible apply rd_set32); (· (first | assumption | exact gup_same))) | ((with_reducible apply rd_some); (· (first | assumption | exact seqD_ref (by assumption) | exact seqD_up | exact lstD_ref (by assumption) | exact lstD_up | rfl)))))
  all_goals refine rd_rI (powW (by decide +kernel)) ?_
  all_goals (repeat (first | (with_reducible first | refine rd_seq ?_ | refine rd_seqE ?_ | refine rd_next ?_ | refine rd_rtE ?_ | refine rd_nxE ?_ | refine rd_nx ?_ | refine rd_rt ?_ | refine rd_ct ?_ | refine rd_bk ?_ | refine rd_drop ?_ | refine rd_ret ?_ | refine rd_retN ?_ | refine rd_dif ?_ | refine rd_asg ?_ | refine rd_par ?_ | refine rd_for ?_ | refine rd_break ?_ | refine rd_cont ?_ | refine rd_c ?_ | refine rd_op ?_ | refine rd_un ?_ | refine rd_b ?_ | refine rd_bK ?_ | refine rd_tru ?_ | refine rd_tKb ?_ | refine rd_and ?_ | refine rd_or ?_ | refine rd_not ?_ | refine rd_andV ?_ | refine rd_orV ?_ | refine rd_notV ?_ | refine rd_tvKb ?_ | refine rd_ifE ?_ | refine rd_nil ?_ | refine rd_cons ?_ | refine rd_tup ?_ | refine rd_lst ?_ | refine rd_lstM ?_ | refine rd_cb ?_ | refine rd_call ?_ | refine rd_sp0 ?_ | refine rd_sp1 ?_ | refine rd_sp2 ?_ | refine rd_sp3 ?_ | refine rd_int ?_ | refine rd_intb ?_ | refine rd_abs ?_ | refine rd_ii ?_ | refine rd_add ?_ | refine rd_sub ?_ | refine rd_addI ?_ | refine rd_cmp ?_ | refine rd_setI ?_ | refine rd_mt ?_ | refine rd_lc ?_ | refine rd_lcM ?_ | refine rd_yes ?_ | refine rd_wseq ?_ | refine rd_wsT ?_ | refine rd_wsL ?_ | refine rd_wsS ?_ | refine rd_wzip ?_ | refine rd_zipT ?_ | refine rd_rng1 ?_ | refine rd_rng2 ?_ | refine rd_sl ?_ | refine rd_slT ?_ | refine rd_slL ?_ | refine rd_slS ?_ | refine rd_nopart ?_ | refine rd_part ?_ | refine rd_ptK ?_ | refine rd_star ?_ | refine rd_ss ?_ | refine rd_itet ?_ | refine rd_itef ?_ | refine rd_itnt ?_ | refine rd_itnf ?_) | ((with_reducible apply rd_var); (· exact rfl)) | ((with_reducible apply rd_asgK); (· exact rfl)) | ((with_reducible apply rd_parK); (· exact rfl)) | ((with_reducible apply rd_len); (· (first | assumption | exact seqD_ref (by assumption) | exact seqD_up | exact lstD_ref (by assumption) | exact lstD_up | rfl))) | ((with_reducible apply rd_tuple); (· (first | assumption | exact seqD_ref (by assumption) | exact seqD_up | exact lstD_ref (by assumption) | exact lstD_up | rfl))) | ((with_reducible apply rd_list); (· (first | assumption | exact seqD_ref (by assumption) | exact seqD_up | exact lstD_ref (by assumption) | exact lstD_up | rfl))) | ((with_reducible apply rd_stK); (· (first | assumption | exact seqD_ref (by assumption) | exact seqD_up | exact lstD_ref (by assumption) | exact lstD_up | rfl))) | ((with_reducible apply rd_ix); (· (first | assumption | exact seqD_ref (by assumption) | exact seqD_up | exact lstD_ref (by assumption) | exact lstD_up | rfl)); (· (first | exact atI_c0 _ _ | exact atI_c1 _ _ _ | exact atI_c2 _ _ _ _ | assumption | rfl))) | ((with_reducible apply rd_set30); (· (first | assumption | exact gup_same))) | ((with_reducible apply rd_set32); (· (first | assumption | exact gup_same))) | ((with_reducible apply rd_some); (· (first | assumption | exact seqD_ref (by assumption) | exact seqD_up | exact lstD_ref (by assumption) | exact lstD_up | rfl)))))
  all_goals refine rd_rI (by decide) ?_
  all_goals (repeat (first | (with_reducible first | refine rd_seq ?_ | refine rd_seqE ?_ | refine rd_next ?_ | refine rd_rtE ?_ | refine rd_nxE ?_ | refine rd_nx ?_ | refine rd_rt ?_ | refine rd_ct ?_ | refine rd_bk ?_ | refine rd_drop ?_ | refine rd_ret ?_ | refine rd_retN ?_ | refine rd_dif ?_ | refine rd_asg ?_ | refine rd_par ?_ | refine rd_for ?_ | refine rd_break ?_ | refine rd_cont ?_ | refine rd_c ?_ | refine rd_op ?_ | refine rd_un ?_ | refine rd_b ?_ | refine rd_bK ?_ | refine rd_tru ?_ | refine rd_tKb ?_ | refine rd_and ?_ | refine rd_or ?_ | refine rd_not ?_ | refine rd_andV ?_ | refine rd_orV ?_ | refine rd_notV ?_ | refine rd_tvKb ?_ | refine rd_ifE ?_ | refine rd_nil ?_ | refine rd_cons ?_ | refine rd_tup ?_ | refine rd_lst ?_ | refine rd_lstM ?_ | refine rd_cb ?_ | refine rd_call ?_ | refine rd_sp0 ?_ | refine rd_sp1 ?_ | refine rd_sp2 ?_ | refine rd_sp3 ?_ | refine rd_int ?_ | refine rd_intb ?_ | refine rd_abs ?_ | refine rd_ii ?_ | refine rd_add ?_ | refine rd_sub ?_ | refine rd_addI ?_ | refine rd_cmp ?_ | refine rd_setI ?_ | refine rd_mt ?_ | refine rd_lc ?_ | refine rd_lcM ?_ | refine rd_yes ?_ | refine rd_wseq ?_ | refine rd_wsT ?_ | refine rd_wsL ?_ | refine rd_wsS ?_ | refine rd_wzip ?_ | refine rd_zipT ?_ | refine rd_rng1 ?_ | refine rd_rng2 ?_ | refine rd_sl ?_ | refine rd_slT ?_ | refine rd_slL ?_ | refine rd_slS ?_ | refine rd_nopart ?_ | refine rd_part ?_ | refine rd_ptK ?_ | refine rd_star ?_ | refine rd_ss ?_ | refine rd_itet ?_ | refine rd_itef ?_ | refine rd_itnt ?_ | refine rd_itnf ?_) | ((with_reducible apply rd_var); (· exact rfl)) | ((with_reducible apply rd_asgK); (· exact rfl)) | ((with_reducible apply rd_parK); (· exact rfl)) | ((with_reducible apply rd_len); (· (first | assumption | exact seqD_ref (by assumption) | exact seqD_up | exact lstD_ref (by assumption) | exact lstD_up | rfl))) | ((with_reducible apply rd_tuple); (· (first | assumption | exact seqD_ref (by assumption) | exact seqD_up | exact lstD_ref (by assumption) | exact lstD_up | rfl))) | ((with_reducible apply rd_list); (· (first | assumption | exact seqD_ref (by assumption) | exact seqD_up | exact lstD_ref (by assumption) | exact lstD_up | rfl))) | ((with_reducible apply rd_stK); (· (first | assumption | exact seqD_ref (by assumption) | exact seqD_up | exact lstD_ref (by assumption) | exact lstD_up | rfl))) | ((with_reducible apply rd_ix); (· (first | assumption | exact seqD_ref (by assumption) | exact seqD_up | exact lstD_ref (by assumption) | exact lstD_up | rfl)); (· (first | exact atI_c0 _ _ | exact atI_c1 _ _ _ | exact atI_c2 _ _ _ _ | assumption | rfl))) | ((with_reducible apply rd_set30); (· (first | assumption | exact gup_same))) | ((with_reducible apply rd_set32); (· (first | assumption | exact gup_same))) | ((with_reducible apply rd_some); (· (first | assumption | exact seqD_ref (by assumption) | exact seqD_up | exact lstD_ref (by assumption) | exact lstD_up | rfl)))))
  all_goals refine rd_zK (by show 3 ≤ 16777216; decide) ?_
  all_goals intro p hp
  all_goals (repeat (first | (with_reducible first | refine rd_seq ?_ | refine rd_seqE ?_ | refine rd_next ?_ | refine rd_rtE ?_ | refine rd_nxE ?_ | refine rd_nx ?_ | refine rd_rt ?_ | refine rd_ct ?_ | refine rd_bk ?_ | refine rd_drop ?_ | refine rd_ret ?_ | refine rd_retN ?_ | refine rd_dif ?_ | refine rd_asg ?_ | refine rd_par ?_ | refine rd_for ?_ | refine rd_break ?_ | refine rd_cont ?_ | refine rd_c ?_ | refine rd_op ?_ | refine rd_un ?_ | refine rd_b ?_ | refine rd_bK ?_ | refine rd_tru ?_ | refine rd_tKb ?_ | refine rd_and ?_ | refine rd_or ?_ | refine rd_not ?_ | refine rd_andV ?_ | refine rd_orV ?_ | refine rd_notV ?_ | refine rd_tvKb ?_ | refine rd_ifE ?_ | refine rd_nil ?_ | refine rd_cons ?_ | refine rd_tup ?_ | refine rd_lst ?_ | refine rd_lstM ?_ | refine rd_cb ?_ | refine rd_call ?_ | refine rd_sp0 ?_ | refine rd_sp1 ?_ | refine rd_sp2 ?_ | refine rd_sp3 ?_ | refine rd_int ?_ | refine rd_intb ?_ | refine rd_abs ?_ | refine rd_ii ?_ | refine rd_add ?_ | refine rd_sub ?_ | refine rd_addI ?_ | refine rd_cmp ?_ | refine rd_setI ?_ | refine rd_mt ?_ | refine rd_lc ?_ | refine rd_lcM ?_ | refine rd_yes ?_ | refine rd_wseq ?_ | refine rd_wsT ?_ | refine rd_wsL ?_ | refine rd_wsS ?_ | refine rd_wzip ?_ | refine rd_zipT ?_ | refine rd_rng1 ?_ | refine rd_rng2 ?_ | refine rd_sl ?_ | refine rd_slT ?_ | refine rd_slL ?_ | refine rd_slS ?_ | refine rd_nopart ?_ | refine rd_part ?_ | refine rd_ptK ?_ | refine rd_star ?_ | refine rd_ss ?_ | refine rd_itet ?_ | refine rd_itef ?_ | refine rd_itnt ?_ | refine rd_itnf ?_) | ((with_reducible apply rd_var); (· exact rfl)) | ((with_reducible apply rd_asgK); (· exact rfl)) | ((with_reducible apply rd_parK); (· exact rfl)) | ((with_reducible apply rd_len); (· (first | assumption | exact seqD_ref (by assumption) | exact seqD_up | exact lstD_ref (by assumption) | exact lstD_up | rfl))) | ((with_reducible apply rd_tuple); (· (first | assumption | exact seqD_ref (by assumption) | exact seqD_up | exact lstD_ref (by assumption) | exact lstD_up | rfl))) | ((with_reducible apply rd_list); (· (first | assumption | exact seqD_ref (by assumption) | exact seqD_up | exact lstD_ref (by assumption) | exact lstD_up | rfl))) | ((with_reducible apply rd_stK); (· (first | assumption | exact seqD_ref (by assumption) | exact seqD_up | exact lstD_ref (by assumption) | exact lstD_up | rfl))) | ((with_reducible apply rd_ix); (· (first | assumption | exact seqD_ref (by assumption) | exact seqD_up | exact lstD_ref (by assumption) | exact lstD_up | rfl)); (· (first | exact atI_c0 _ _ | exact atI_c1 _ _ _ | exact atI_c2 _ _ _ _ | assumption | rfl))) | ((with_reducible apply rd_set30); (· (first | assumption | exact gup_same))) | ((with_reducible apply rd_set32); (· (first | assumption | exact gup_same))) | ((with_reducible apply rd_some); (· (first | assumption | exact seqD_ref (by assumption) | exact seqD_up | exact lstD_ref (by assumption) | exact lstD_up | rfl)))))
  all_goals exact dret (k p _ hp ⟨_, _, _, rfl, Int.emod_nonneg _ (by decide), Int.lt_trans (Int.emod_lt_of_pos _ (by decide)) (by decide), by decide, by decide⟩)

abbrev s_qdip : Stmt := topS 25
abbrev N_qdip : List Str := ["_law_pot_here", "_law_total", "_law_one", "_law_two", "_law_found"]
theorem sc_qdip : FnScope N_qdip ["_law_pot_here", "_law_total"] (defScope s_qdip) := ⟨rfl, rfl, rfl, by decide +kernel, rfl, by decide +kernel, by decide +kernel⟩
abbrev sp_qdip : SpD :=
  sp2 fun a b g P => ∃ p t n L, a = .ref p ∧ b = .int t ∧ 0 < t ∧ t < 1000000 ∧ g p = some (.lst L) ∧ PotL n L ∧ n ≤ 100000 ∧ ∀ r L', 0 ≤ r → r < t → PotL (n + 1) L' → P (.int r) (gup g p (.lst L'))
theorem ok_qdip {P : Program} {w : World} {K : Fg} {mg : Str → Option Value} {base : Heap} {t_MAX_PLACE t_MAX_STEP t_MOST_LAST t_MOST_MOST : Tok} {f : Addr} {fd : FuncData} (D : Dfn K mg "_law_dip" s_qdip ["_law_pot_here", "_law_total"] f fd) (T : Txt K mg t_MAX_PLACE t_MAX_STEP t_MOST_LAST t_MOST_MOST) :
    FnOk P w K mg base CX0 1 f fd ["_law_pot_here", "_law_total"] (upSp K sp_qdip) := by
  refine fun_okD D.fn sc_qdip (fun ds g Q h => len2 h) (fun cdv A outer s H E hr => ⟨_, (pds_cons (pds_if (pt_cmpD op_gt (RefCmp.op ref_cmp) (pd_ix (pdv 0) pd_int) pd_int (nomark _)) (pds_cons (pds_set (i := 4) sc_qdip.nd (pd_mod (pd_callTy call_int1 ref_int T.b_int (by decide +kernel) (pda_cons (pd_ix (pdv 0) pd_int) pda_nil)) (pdv 1))) (pds_cons (pds_setI (pd_fdiv (pd_ix (pdv 0) pd_int) (pdv 1)) (pdv 0) pd_int) (pds_one (pds_ret (pdv 4))))) pds_nil) (pds_cons (pds_setI (pd_add (pd_ix (pdv 0) pd_int) pd_int) (pdv 0) pd_int) (pds_cons (pds_set (i := 2) sc_qdip.nd (pd_mod (pd_callTy call_int1 ref_int T.b_int (by decide +kernel) (pda_cons (pd_add (pd_ix (pdv 0) pd_int) (pd_mulI pd_int (pd_ix (pdv 0) pd_int))) pda_nil)) pd_int)) (pds_cons (pds_set (i := 3) sc_qdip.nd (pd_add (pd_mulI (pd_mod (pd_callTy call_int1 ref_int T.b_int (by decide +kernel) (pda_cons (pd_mulI (pdv 2) (pdv 2)) pda_nil)) pd_int) (pdv 2)) (pd_mulI pd_int (pd_ix (pdv 0) pd_int)))) (pds_one (pds_ret (pd_mod (pd_callTy call_int1 ref_int T.b_int (by decide +kernel) (pda_cons (pd_fdiv (pd_mod (pd_callTy call_int1 ref_int T.b_int (by decide +kernel) (pda_cons (pdv 3) pda_nil)) pd_int) pd_int) pda_nil)) (pdv 1)))))))), ?_⟩)
  intro ds g Q h
  obtain ⟨a0, a1, rfl, h⟩ := sp2_of h
  rw [show startD N_qdip [a0, a1] = [some a0, some a1, none, none, none] from rfl]
  obtain ⟨p, t, n, L, e1, e2, h1, h2, hg, ⟨u, v, kk, eL, v0, v1, k0, k1⟩, hn, k⟩ := h
  subst e1 e2 eL
  (repeat (first | (with_reducible first | refine rd_seq ?_ | refine rd_seqE ?_ | refine rd_next ?_ | refine rd_rtE ?_ | refine rd_nxE ?_ | refine rd_nx ?_ | refine rd_rt ?_ | refine rd_ct ?_ | refine rd_bk ?_ | refine rd_drop ?_ | refine rd_ret ?_ | refine rd_retN ?_ | refine rd_dif ?_ | refine rd_asg ?_ | refine rd_par ?_ | refine rd_for ?_ | refine rd_break ?_ | refine rd_cont ?_ | refine rd_c ?_ | refine rd_op ?_ | refine rd_un ?_ | refine rd_b ?_ | refine rd_bK ?_ | refine rd_tru ?_ | refine rd_tKb ?_ | refine rd_and ?_ | refine rd_or ?_ | refine rd_not ?_ | refine rd_andV ?_ | refine rd_orV ?_ | refine rd_notV ?_ | refine rd_tvKb ?_ | refine rd_ifE ?_ | refine rd_nil ?_ | refine rd_cons ?_ | refine rd_tup ?_ | refine rd_lst ?_ | refine rd_lstM ?_ | refine rd_cb ?_ | refine rd_call ?_ | refine rd_sp0 ?_ | refine rd_sp1 ?_ | refine rd_sp2 ?_ | refine rd_sp3 ?_ | refine rd_int ?_ | refine rd_intb ?_ | refine rd_abs ?_ | refine rd_ii ?_ | refine rd_add ?_ | refine rd_sub ?_ | refine rd_addI ?_ | refine rd_cmp ?_ | refine rd_setI ?_ | refine rd_mt ?_ | refine rd_lc ?_ | refine rd_lcM ?_ | refine rd_yes ?_ | refine rd_wseq ?_ | refine rd_wsT ?_ | refine rd_wsL ?_ | refine rd_wsS ?_ | refine rd_wzip ?_ | refine rd_zipT ?_ | refine rd_rng1 ?_ | refine rd_rng2 ?_ | refine rd_sl ?_ | refine rd_slT ?_ | refine rd_slL ?_ | refine rd_slS ?_ | refine rd_nopart ?_ | refine rd_part ?_ | refine rd_ptK ?_ | refine rd_star ?_ | refine rd_ss ?_ | refine rd_itet ?_ | refine rd_itef ?_ | refine rd_itnt ?_ | refine rd_itnf ?_) | ((with_reducible apply rd_var); (· exact rfl)) | ((with_reducible apply rd_asgK); (· exact rfl)) | ((with_reducible apply rd_parK); (· exact rfl)) | ((with_reducible apply rd_len); (· (first | assumption | exact seqD_ref (by assumption) | exact seqD_up | exact lstD_ref (by assumption) | exact lstD_up | rfl))) | ((with_reducible apply rd_tuple); (· (first | assumption | exact seqD_ref (by assumption) | exact seqD_up | exact lstD_ref (by assumption) | exact lstD_up | rfl))) | ((with_reducible apply rd_list); (· (first | assumption | exact seqD_ref (by assumption) | exact seqD_up | exact lstD_ref (by assumption) | exact lstD_up | rfl))) | ((with_reducible apply rd_stK); (· (first | assumption | exact seqD_ref (by assumption) | exact seqD_up | exact lstD_ref (by assumption) | exact lstD_up | rfl))) | ((with_reducible apply rd_ix); (· (first | assumption | exact seqD_ref (by assumption) | exact seqD_up | exact lstD_ref (by assumption) | exact lstD_up | rfl)); (· (first | exact atI_c0 _ _ | exact atI_c1 _ _ _ | exact atI_c2 _ _ _ _ | assumption | rfl))) | ((with_reducible apply rd_set30); (· (first | assumption | exact gup_same))) | ((with_reducible apply rd_set32); (· (first | assumption | exact gup_same))) | ((with_reducible apply rd_some); (· (first | assumption | exact seqD_ref (by assumption) | exact seqD_up | exact lstD_ref (by assumption) | exact lstD_up | rfl)))))
  refine rd_itei (c := 0 < u) (fun c => ?_) (fun c => ?_)
  · (repeat (first | (with_reducible first | refine rd_seq ?_ | refine rd_seqE ?_ | refine rd_next ?_ | refine rd_rtE ?_ | refine rd_nxE ?_ | refine rd_nx ?_ | refine rd_rt ?_ | refine rd_ct ?_ | refine rd_bk ?_ | refine rd_drop ?_ | refine rd_ret ?_ | refine rd_retN ?_ | refine rd_dif ?_ | refine rd_asg ?_ | refine rd_par ?_ | refine rd_for ?_ | refine rd_break ?_ | refine rd_cont ?_ | refine rd_c ?_ | refine rd_op ?_ | refine rd_un ?_ | refine rd_b ?_ | refine rd_bK ?_ | refine rd_tru ?_ | refine rd_tKb ?_ | refine rd_and ?_ | refine rd_or ?_ | refine rd_not ?_ | refine rd_andV ?_ | refine rd_orV ?_ | refine rd_notV ?_ | refine rd_tvKb ?_ | refine rd_ifE ?_ | refine rd_nil ?_ | refine rd_cons ?_ | refine rd_tup ?_ | refine rd_lst ?_ | refine rd_lstM ?_ | refine rd_cb ?_ | refine rd_call ?_ | refine rd_sp0 ?_ | refine rd_sp1 ?_ | refine rd_sp2 ?_ | refine rd_sp3 ?_ | refine rd_int ?_ | refine rd_intb ?_ | refine rd_abs ?_ | refine rd_ii ?_ | refine rd_add ?_ | refine rd_sub ?_ | refine rd_addI ?_ | refine rd_cmp ?_ | refine rd_setI ?_ | refine rd_mt ?_ | refine rd_lc ?_ | refine rd_lcM ?_ | refine rd_yes ?_ | refine rd_wseq ?_ | refine rd_wsT ?_ | refine rd_wsL ?_ | refine rd_wsS ?_ | refine rd_wzip ?_ | refine rd_zipT ?_ | refine rd_rng1 ?_ | refine rd_rng2 ?_ | refine rd_sl ?_ | refine rd_slT ?_ | refine rd_slL ?_ | refine rd_slS ?_ | refine rd_nopart ?_ | refine rd_part ?_ | refine rd_ptK ?_ | refine rd_star ?_ | refine rd_ss ?_ | refine rd_itet ?_ | refine rd_itef ?_ | refine rd_itnt ?_ | refine rd_itnf ?_) | ((with_reducible apply rd_var); (· exact rfl)) | ((with_reducible apply rd_asgK); (· exact rfl)) | ((with_reducible apply rd_parK); (· exact rfl)) | ((with_reducible apply rd_len); (· (first | assumption | exact seqD_ref (by assumption) | exact seqD_up | exact lstD_ref (by assumption) | exact lstD_up | rfl))) | ((with_reducible apply rd_tuple); (· (first | assumption | exact seqD_ref (by assumption) | exact seqD_up | exact lstD_ref (by assumption) | exact lstD_up | rfl))) | ((with_reducible apply rd_list); (· (first | assumption | exact seqD_ref (by assumption) | exact seqD_up | exact lstD_ref (by assumption) | exact lstD_up | rfl))) | ((with_reducible apply rd_stK); (· (first | assumption | exact seqD_ref (by assumption) | exact seqD_up | exact lstD_ref (by assumption) | exact lstD_up | rfl))) | ((with_reducible apply rd_ix); (· (first | assumption | exact seqD_ref (by assumption) | exact seqD_up | exact lstD_ref (by assumption) | exact lstD_up | rfl)); (· (first | exact atI_c0 _ _ | exact atI_c1 _ _ _ | exact atI_c2 _ _ _ _ | assumption | rfl))) | ((with_reducible apply rd_set30); (· (first | assumption | exact gup_same))) | ((with_reducible apply rd_set32); (· (first | assumption | exact gup_same))) | ((with_reducible apply rd_some); (· (first | assumption | exact seqD_ref (by assumption) | exact seqD_up | exact lstD_ref (by assumption) | exact lstD_up | rfl)))))
    refine rd_rI h1 ?_
    (repeat (first | (with_reducible first | refine rd_seq ?_ | refine rd_seqE ?_ | refine rd_next ?_ | refine rd_rtE ?_ | refine rd_nxE ?_ | refine rd_nx ?_ | refine rd_rt ?_ | refine rd_ct ?_ | refine rd_bk ?_ | refine rd_drop ?_ | refine rd_ret ?_ | refine rd_retN ?_ | refine rd_dif ?_ | refine rd_asg ?_ | refine rd_par ?_ | refine rd_for ?_ | refine rd_break ?_ | refine rd_cont ?_ | refine rd_c ?_ | refine rd_op ?_ | refine rd_un ?_ | refine rd_b ?_ | refine rd_bK ?_ | refine rd_tru ?_ | refine rd_tKb ?_ | refine rd_and ?_ | refine rd_or ?_ | refine rd_not ?_ | refine rd_andV ?_ | refine rd_orV ?_ | refine rd_notV ?_ | refine rd_tvKb ?_ | refine rd_ifE ?_ | refine rd_nil ?_ | refine rd_cons ?_ | refine rd_tup ?_ | refine rd_lst ?_ | refine rd_lstM ?_ | refine rd_cb ?_ | refine rd_call ?_ | refine rd_sp0 ?_ | refine rd_sp1 ?_ | refine rd_sp2 ?_ | refine rd_sp3 ?_ | refine rd_int ?_ | refine rd_intb ?_ | refine rd_abs ?_ | refine rd_ii ?_ | refine rd_add ?_ | refine rd_sub ?_ | refine rd_addI ?_ | refine rd_cmp ?_ | refine rd_setI ?_ | refine rd_mt ?_ | refine rd_lc ?_ | refine rd_lcM ?_ | refine rd_yes ?_ | refine rd_wseq ?_ | refine rd_wsT ?_ | refine rd_wsL ?_ | refine rd_wsS ?_ | refine rd_wzip ?_ | refine rd_zipT ?_ | refine rd_rng1 ?_ | refine rd_rng2 ?_ | refine rd_sl ?_ | refine rd_slT ?_ | refine rd_slL ?_ | refine rd_slS ?_ | refine rd_nopart ?_ | refine rd_part ?_ | refine rd_ptK ?_ | refine rd_star ?_ | refine rd_ss ?_ | refine rd_itet ?_ | refine rd_itef ?_ | refine rd_itnt ?_ | refine rd_itnf ?_) | ((with_reducible apply rd_var); (· exact rfl)) | ((with_reducible apply rd_asgK); (· exact rfl)) | ((with_reducible apply rd_parK); (· exact rfl)) | ((with_reducible apply rd_len); (· (first | assumption | exact seqD_ref (by assumption) | exact seqD_up | exact lstD_ref (by assumption) | exact lstD_up | rfl))) | ((with_reducible apply rd_tuple); (· (first | assumption | exact seqD_ref (by assumption) | exact seqD_up | exact lstD_ref (by assumption) | exact lstD_up | rfl))) | ((with_reducible apply rd_list); (· (first | assumption | exact seqD_ref (by assumption) | exact seqD_up | exact lstD_ref (by assumption) | exact lstD_up | rfl))) | ((with_reducible apply rd_stK); (· (first | assumption | exact seqD_ref (by assumption) | exact seqD_up | exact lstD_ref (by assumption) | exact lstD_up | rfl))) | ((with_reducible apply rd_ix); (· (first | assumption | exact seqD_ref (by assumption) | exact seqD_up | exact lstD_ref (by assumption) | exact lstD_up | rfl)); (· (first | exact atI_c0 _ _ | exact atI_c1 _ _ _ | exact atI_c2 _ _ _ _ | assumption | rfl))) | ((with_reducible apply rd_set30); (· (first | assumption | exact gup_same))) | ((with_reducible apply rd_set32); (· (first | assumption | exact gup_same))) | ((with_reducible apply rd_some); (· (first | assumption | exact seqD_ref (by assumption) | exact seqD_up | exact lstD_ref (by assumption) | exact lstD_up | rfl)))))
    refine rd_rI (divW h1 (by omega)) ?_
    (repeat (first | (with_reducible first | refine rd_seq ?_ | refine rd_seqE ?_ | refine rd_next ?_ | refine rd_rtE ?_ | refine rd_nxE ?_ | refine rd_nx ?_ | refine rd_rt ?_ | refine rd_ct ?_ | refine rd_bk ?_ | refine rd_drop ?_ | refine rd_ret ?_ | refine rd_retN ?_ | refine rd_dif ?_ | refine rd_asg ?_ | refine rd_par ?_ | refine rd_for ?_ | refine rd_break ?_ | refine rd_cont ?_ | refine rd_c ?_ | refine rd_op ?_ | refine rd_un ?_ | refine rd_b ?_ | refine rd_bK ?_ | refine rd_tru ?_ | refine rd_tKb ?_ | refine rd_and ?_ | refine rd_or ?_ | refine rd_not ?_ | refine rd_andV ?_ | refine rd_orV ?_ | refine rd_notV ?_ | refine rd_tvKb ?_ | refine rd_ifE ?_ | refine rd_nil ?_ | refine rd_cons ?_ | refine rd_tup ?_ | refine rd_lst ?_ | refine rd_lstM ?_ | refine rd_cb ?_ | refine rd_call ?_ | refine rd_sp0 ?_ | refine rd_sp1 ?_ | refine rd_sp2 ?_ | refine rd_sp3 ?_ | refine rd_int ?_ | refine rd_intb ?_ | refine rd_abs ?_ | refine rd_ii ?_ | refine rd_add ?_ | refine rd_sub ?_ | refine rd_addI ?_ | refine rd_cmp ?_ | refine rd_setI ?_ | refine rd_mt ?_ | refine rd_lc ?_ | refine rd_lcM ?_ | refine rd_yes ?_ | refine rd_wseq ?_ | refine rd_wsT ?_ | refine rd_wsL ?_ | refine rd_wsS ?_ | refine rd_wzip ?_ | refine rd_zipT ?_ | refine rd_rng1 ?_ | refine rd_rng2 ?_ | refine rd_sl ?_ | refine rd_slT ?_ | refine rd_slL ?_ | refine rd_slS ?_ | refine rd_nopart ?_ | refine rd_part ?_ | refine rd_ptK ?_ | refine rd_star ?_ | refine rd_ss ?_ | refine rd_itet ?_ | refine rd_itef ?_ | refine rd_itnt ?_ | refine rd_itnf ?_) | ((with_reducible apply rd_var); (· exact rfl)) | ((with_reducible apply rd_asgK); (· exact rfl)) | ((with_reducible apply rd_parK); (· exact rfl)) | ((with_reducible apply rd_len); (· (first | assumption | exact seqD_ref (by assumption) | exact seqD_up | exact lstD_ref (by assumption) | exact lstD_up | rfl))) | ((with_reducible apply rd_tuple); (· (first | assumption | exact seqD_ref (by assumption) | exact seqD_up | exact lstD_ref (by assumption) | exact lstD_up | rfl))) | ((with_reducible apply rd_list); (· (first | assumption | exact seqD_ref (by assumption) | exact seqD_up | exact lstD_ref (by assumption) | exact lstD_up | rfl))) | ((with_reducible apply rd_stK); (· (first | assumption | exact seqD_ref (by assumption) | exact seqD_up | exact lstD_ref (by assumption) | exact lstD_up | rfl))) | ((with_reducible apply rd_ix); (· (first | assumption | exact seqD_ref (by assumption) | exact seqD_up | exact lstD_ref (by assumption) | exact lstD_up | rfl)); (· (first | exact atI_c0 _ _ | exact atI_c1 _ _ _ | exact atI_c2 _ _ _ _ | assumption | rfl))) | ((with_reducible apply rd_set30); (· (first | assumption | exact gup_same))) | ((with_reducible apply rd_set32); (· (first | assumption | exact gup_same))) | ((with_reducible apply rd_some); (· (first | assumption | exact seqD_ref (by assumption) | exact seqD_up | exact lstD_ref (by assumption) | exact lstD_up | rfl)))))
    exact dret (k _ _ (Int.emod_nonneg _ (by omega)) (Int.emod_lt_of_pos _ h1) ⟨_, _, _, rfl, v0, v1, k0, by omega⟩)
  · (repeat (first | (with_reducible first | refine rd_seq ?_ | refine rd_seqE ?_ | refine rd_next ?_ | refine rd_rtE ?_ | refine rd_nxE ?_ | refine rd_nx ?_ | refine rd_rt ?_ | refine rd_ct ?_ | refine rd_bk ?_ | refine rd_drop ?_ | refine rd_ret ?_ | refine rd_retN ?_ | refine rd_dif ?_ | refine rd_asg ?_ | refine rd_par ?_ | refine rd_for ?_ | refine rd_break ?_ | refine rd_cont ?_ | refine rd_c ?_ | refine rd_op ?_ | refine rd_un ?_ | refine rd_b ?_ | refine rd_bK ?_ | refine rd_tru ?_ | refine rd_tKb ?_ | refine rd_and ?_ | refine rd_or ?_ | refine rd_not ?_ | refine rd_andV ?_ | refine rd_orV ?_ | refine rd_notV ?_ | refine rd_tvKb ?_ | refine rd_ifE ?_ | refine rd_nil ?_ | refine rd_cons ?_ | refine rd_tup ?_ | refine rd_lst ?_ | refine rd_lstM ?_ | refine rd_cb ?_ | refine rd_call ?_ | refine rd_sp0 ?_ | refine rd_sp1 ?_ | refine rd_sp2 ?_ | refine rd_sp3 ?_ | refine rd_int ?_ | refine rd_intb ?_ | refine rd_abs ?_ | refine rd_ii ?_ | refine rd_add ?_ | refine rd_sub ?_ | refine rd_addI ?_ | refine rd_cmp ?_ | refine rd_setI ?_ | refine rd_mt ?_ | refine rd_lc ?_ | refine rd_lcM ?_ | refine rd_yes ?_ | refine rd_wseq ?_ | refine rd_wsT ?_ | refine rd_wsL ?_ | refine rd_wsS ?_ | refine rd_wzip ?_ | refine rd_zipT ?_ | refine rd_rng1 ?_ | refine rd_rng2 ?_ | refine rd_sl ?_ | refine rd_slT ?_ | refine rd_slL ?_ | refine rd_slS ?_ | refine rd_nopart ?_ | refine rd_part ?_ | refine rd_ptK ?_ | refine rd_star ?_ | refine rd_ss ?_ | refine rd_itet ?_ | refine rd_itef ?_ | refine rd_itnt ?_ | refine rd_itnf ?_) | ((with_reducible apply rd_var); (· exact rfl)) | ((with_reducible apply rd_asgK); (· exact rfl)) | ((with_reducible apply rd_parK); (· exact rfl)) | ((with_reducible apply rd_len); (· (first | assumption | exact seqD_ref (by assumption) | exact seqD_up | exact lstD_ref (by assumption) | exact lstD_up | rfl))) | ((with_reducible apply rd_tuple); (· (first | assumption | exact seqD_ref (by assumption) | exact seqD_up | exact lstD_ref (by assumption) | exact lstD_up | rfl))) | ((with_reducible apply rd_list); (· (first | assumption | exact seqD_ref (by assumption) | exact seqD_up | exact lstD_ref (by assumption) | exact lstD_up | rfl))) | ((with_reducible apply rd_stK); (· (first | assumption | exact seqD_ref (by assumption) | exact seqD_up | exact lstD_ref (by assumption) | exact lstD_up | rfl))) | ((with_reducible apply rd_ix); (· (first | assumption | exact seqD_ref (by assumption) | exact seqD_up | exact lstD_ref (by assumption) | exact lstD_up | rfl)); (· (first | exact atI_c0 _ _ | exact atI_c1 _ _ _ | exact atI_c2 _ _ _ _ | assumption | rfl))) | ((with_reducible apply rd_set30); (· (first | assumption | exact gup_same))) | ((with_reducible apply rd_set32); (· (first | assumption | exact gup_same))) | ((with_reducible apply rd_some); (· (first | assumption | exact seqD_ref (by assumption) | exact seqD_up | exact lstD_ref (by assumption) | exact lstD_up | rfl)))))
    refine rd_rI (mulW (by omega) (by omega) (by omega) (by omega)) ?_
    (repeat (first | (with_reducible first | refine rd_seq ?_ | refine rd_seqE ?_ | refine rd_next ?_ | refine rd_rtE ?_ | refine rd_nxE ?_ | refine rd_nx ?_ | refine rd_rt ?_ | refine rd_ct ?_ | refine rd_bk ?_ | refine rd_drop ?_ | refine rd_ret ?_ | refine rd_retN ?_ | refine rd_dif ?_ | refine rd_asg ?_ | refine rd_par ?_ | refine rd_for ?_ | refine rd_break ?_ | refine rd_cont ?_ | refine rd_c ?_ | refine rd_op ?_ | refine rd_un ?_ | refine rd_b ?_ | refine rd_bK ?_ | refine rd_tru ?_ | refine rd_tKb ?_ | refine rd_and ?_ | refine rd_or ?_ | refine rd_not ?_ | refine rd_andV ?_ | refine rd_orV ?_ | refine rd_notV ?_ | refine rd_tvKb ?_ | refine rd_ifE ?_ | refine rd_nil ?_ | refine rd_cons ?_ | refine rd_tup ?_ | refine rd_lst ?_ | refine rd_lstM ?_ | refine rd_cb ?_ | refine rd_call ?_ | refine rd_sp0 ?_ | refine rd_sp1 ?_ | refine rd_sp2 ?_ | refine rd_sp3 ?_ | refine rd_int ?_ | refine rd_intb ?_ | refine rd_abs ?_ | refine rd_ii ?_ | refine rd_add ?_ | refine rd_sub ?_ | refine rd_addI ?_ | refine rd_cmp ?_ | refine rd_setI ?_ | refine rd_mt ?_ | refine rd_lc ?_ | refine rd_lcM ?_ | refine rd_yes ?_ | refine rd_wseq ?_ | refine rd_wsT ?_ | refine rd_wsL ?_ | refine rd_wsS ?_ | refine rd_wzip ?_ | refine rd_zipT ?_ | refine rd_rng1 ?_ | refine rd_rng2 ?_ | refine rd_sl ?_ | refine rd_slT ?_ | refine rd_slL ?_ | refine rd_slS ?_ | refine rd_nopart ?_ | refine rd_part ?_ | refine rd_ptK ?_ | refine rd_star ?_ | refine rd_ss ?_ | refine rd_itet ?_ | refine rd_itef ?_ | refine rd_itnt ?_ | refine rd_itnf ?_) | ((with_reducible apply rd_var); (· exact rfl)) | ((with_reducible apply rd_asgK); (· exact rfl)) | ((with_reducible apply rd_parK); (· exact rfl)) | ((with_reducible apply rd_len); (· (first | assumption | exact seqD_ref (by assumption) | exact seqD_up | exact lstD_ref (by assumption) | exact lstD_up | rfl))) | ((with_reducible apply rd_tuple); (· (first | assumption | exact seqD_ref (by assumption) | exact seqD_up | exact lstD_ref (by assumption) | exact lstD_up | rfl))) | ((with_reducible apply rd_list); (· (first | assumption | exact seqD_ref (by assumption) | exact seqD_up | exact lstD_ref (by assumption) | exact lstD_up | rfl))) | ((with_reducible apply rd_stK); (· (first | assumption | exact seqD_ref (by assumption) | exact seqD_up | exact lstD_ref (by assumption) | exact lstD_up | rfl))) | ((with_reducible apply rd_ix); (· (first | assumption | exact seqD_ref (by assumption) | exact seqD_up | exact lstD_ref (by assumption) | exact lstD_up | rfl)); (· (first | exact atI_c0 _ _ | exact atI_c1 _ _ _ | exact atI_c2 _ _ _ _ | assumption | rfl))) | ((with_reducible apply rd_set30); (· (first | assumption | exact gup_same))) | ((with_reducible apply rd_set32); (· (first | assumption | exact gup_same))) | ((with_reducible apply rd_some); (· (first | assumption | exact seqD_ref (by assumption) | exact seqD_up | exact lstD_ref (by assumption) | exact lstD_up | rfl)))))
    refine rd_rI (by decide) ?_
    have b1 := Int.emod_nonneg (v + 1000213 * (kk + 1)) (b := 2305843009213693951) (by decide)
    have b2 := Int.emod_lt_of_pos (v + 1000213 * (kk + 1)) (b := 2305843009213693951) (by decide)
    generalize (v + 1000213 * (kk + 1)) % 2305843009213693951 = o1 at b1 b2 ⊢
    (repeat (first | (with_reducible first | refine rd_seq ?_ | refine rd_seqE ?_ | refine rd_next ?_ | refine rd_rtE ?_ | refine rd_nxE ?_ | refine rd_nx ?_ | refine rd_rt ?_ | refine rd_ct ?_ | refine rd_bk ?_ | refine rd_drop ?_ | refine rd_ret ?_ | refine rd_retN ?_ | refine rd_dif ?_ | refine rd_asg ?_ | refine rd_par ?_ | refine rd_for ?_ | refine rd_break ?_ | refine rd_cont ?_ | refine rd_c ?_ | refine rd_op ?_ | refine rd_un ?_ | refine rd_b ?_ | refine rd_bK ?_ | refine rd_tru ?_ | refine rd_tKb ?_ | refine rd_and ?_ | refine rd_or ?_ | refine rd_not ?_ | refine rd_andV ?_ | refine rd_orV ?_ | refine rd_notV ?_ | refine rd_tvKb ?_ | refine rd_ifE ?_ | refine rd_nil ?_ | refine rd_cons ?_ | refine rd_tup ?_ | refine rd_lst ?_ | refine rd_lstM ?_ | refine rd_cb ?_ | refine rd_call ?_ | refine rd_sp0 ?_ | refine rd_sp1 ?_ | refine rd_sp2 ?_ | refine rd_sp3 ?_ | refine rd_int ?_ | refine rd_intb ?_ | refine rd_abs ?_ | refine rd_ii ?_ | refine rd_add ?_ | refine rd_sub ?_ | refine rd_addI ?_ | refine rd_cmp ?_ | refine rd_setI ?_ | refine rd_mt ?_ | refine rd_lc ?_ | refine rd_lcM ?_ | refine rd_yes ?_ | refine rd_wseq ?_ | refine rd_wsT ?_ | refine rd_wsL ?_ | refine rd_wsS ?_ | refine rd_wzip ?_ | refine rd_zipT ?_ | refine rd_rng1 ?_ | refine rd_rng2 ?_ | refine rd_sl ?_ | refine rd_slT ?_ | refine rd_slL ?_ | refine rd_slS ?_ | refine rd_nopart ?_ | refine rd_part ?_ | refine rd_ptK ?_ | refine rd_star ?_ | refine rd_ss ?_ | refine rd_itet ?_ | refine rd_itef ?_ | refine rd_itnt ?_ | refine rd_itnf ?_) | ((with_reducible apply rd_var); (· exact rfl)) | ((with_reducible apply rd_asgK); (· exact rfl)) | ((with_reducible apply rd_parK); (· exact rfl)) | ((with_reducible apply rd_len); (· (first | assumption | exact seqD_ref (by assumption) | exact seqD_up | exact lstD_ref (by assumption) | exact lstD_up | rfl))) | ((with_reducible apply rd_tuple); (· (first | assumption | exact seqD_ref (by assumption) | exact seqD_up | exact lstD_ref (by assumption) | exact lstD_up | rfl))) | ((with_reducible apply rd_list); (· (first | assumption | exact seqD_ref (by assumption) | exact seqD_up | exact lstD_ref (by assumption) | exact lstD_up | rfl))) | ((with_reducible apply rd_stK); (· (first | assumption | exact seqD_ref (by assumption) | exact seqD_up | exact lstD_ref (by assumption) | exact lstD_up | rfl))) | ((with_reducible apply rd_ix); (· (first | assumption | exact seqD_ref (by assumption) | exact seqD_up | exact lstD_ref (by assumption) | exact lstD_up | rfl)); (· (first | exact atI_c0 _ _ | exact atI_c1 _ _ _ | exact atI_c2 _ _ _ _ | assumption | rfl))) | ((with_reducible apply rd_set30); (· (first | assumption | exact gup_same))) | ((with_reducible apply rd_set32); (· (first | assumption | exact gup_same))) | ((with_reducible apply rd_some); (· (first | assumption | exact seqD_ref (by assumption) | exact seqD_up | exact lstD_ref (by assumption) | exact lstD_up | rfl)))))
    refine rd_rI (mulW (by omega) (by omega) (by omega) (by omega)) ?_
    (repeat (first | (with_reducible first | refine rd_seq ?_ | refine rd_seqE ?_ | refine rd_next ?_ | refine rd_rtE ?_ | refine rd_nxE ?_ | refine rd_nx ?_ | refine rd_rt ?_ | refine rd_ct ?_ | refine rd_bk ?_ | refine rd_drop ?_ | refine rd_ret ?_ | refine rd_retN ?_ | refine rd_dif ?_ | refine rd_asg ?_ | refine rd_par ?_ | refine rd_for ?_ | refine rd_break ?_ | refine rd_cont ?_ | refine rd_c ?_ | refine rd_op ?_ | refine rd_un ?_ | refine rd_b ?_ | refine rd_bK ?_ | refine rd_tru ?_ | refine rd_tKb ?_ | refine rd_and ?_ | refine rd_or ?_ | refine rd_not ?_ | refine rd_andV ?_ | refine rd_orV ?_ | refine rd_notV ?_ | refine rd_tvKb ?_ | refine rd_ifE ?_ | refine rd_nil ?_ | refine rd_cons ?_ | refine rd_tup ?_ | refine rd_lst ?_ | refine rd_lstM ?_ | refine rd_cb ?_ | refine rd_call ?_ | refine rd_sp0 ?_ | refine rd_sp1 ?_ | refine rd_sp2 ?_ | refine rd_sp3 ?_ | refine rd_int ?_ | refine rd_intb ?_ | refine rd_abs ?_ | refine rd_ii ?_ | refine rd_add ?_ | refine rd_sub ?_ | refine rd_addI ?_ | refine rd_cmp ?_ | refine rd_setI ?_ | refine rd_mt ?_ | refine rd_lc ?_ | refine rd_lcM ?_ | refine rd_yes ?_ | refine rd_wseq ?_ | refine rd_wsT ?_ | refine rd_wsL ?_ | refine rd_wsS ?_ | refine rd_wzip ?_ | refine rd_zipT ?_ | refine rd_rng1 ?_ | refine rd_rng2 ?_ | refine rd_sl ?_ | refine rd_slT ?_ | refine rd_slL ?_ | refine rd_slS ?_ | refine rd_nopart ?_ | refine rd_part ?_ | refine rd_ptK ?_ | refine rd_star ?_ | refine rd_ss ?_ | refine rd_itet ?_ | refine rd_itef ?_ | refine rd_itnt ?_ | refine rd_itnf ?_) | ((with_reducible apply rd_var); (· exact rfl)) | ((with_reducible apply rd_asgK); (· exact rfl)) | ((with_reducible apply rd_parK); (· exact rfl)) | ((with_reducible apply rd_len); (· (first | assumption | exact seqD_ref (by assumption) | exact seqD_up | exact lstD_ref (by assumption) | exact lstD_up | rfl))) | ((with_reducible apply rd_tuple); (· (first | assumption | exact seqD_ref (by assumption) | exact seqD_up | exact lstD_ref (by assumption) | exact lstD_up | rfl))) | ((with_reducible apply rd_list); (· (first | assumption | exact seqD_ref (by assumption) | exact seqD_up | exact lstD_ref (by assumption) | exact lstD_up | rfl))) | ((with_reducible apply rd_stK); (· (first | assumption | exact seqD_ref (by assumption) | exact seqD_up | exact lstD_ref (by assumption) | exact lstD_up | rfl))) | ((with_reducible apply rd_ix); (· (first | assumption | exact seqD_ref (by assumption) | exact seqD_up | exact lstD_ref (by assumption) | exact lstD_up | rfl)); (· (first | exact atI_c0 _ _ | exact atI_c1 _ _ _ | exact atI_c2 _ _ _ _ | assumption | rfl))) | ((with_reducible apply rd_set30); (· (first | assumption | exact gup_same))) | ((with_reducible apply rd_set32); (· (first | assumption | exact gup_same))) | ((with_reducible apply rd_some); (· (first | assumption | exact seqD_ref (by assumption) | exact seqD_up | exact lstD_ref (by assumption) | exact lstD_up | rfl)))))
    refine rd_rI (by decide) ?_
    have b3 := Int.emod_nonneg (o1 * o1) (b := 2305843009213693907) (by decide)
    have b4 := Int.emod_lt_of_pos (o1 * o1) (b := 2305843009213693907) (by decide)
    generalize o1 * o1 % 2305843009213693907 = o2 at b3 b4 ⊢
    (repeat (first | (with_reducible first | refine rd_seq ?_ | refine rd_seqE ?_ | refine rd_next ?_ | refine rd_rtE ?_ | refine rd_nxE ?_ | refine rd_nx ?_ | refine rd_rt ?_ | refine rd_ct ?_ | refine rd_bk ?_ | refine rd_drop ?_ | refine rd_ret ?_ | refine rd_retN ?_ | refine rd_dif ?_ | refine rd_asg ?_ | refine rd_par ?_ | refine rd_for ?_ | refine rd_break ?_ | refine rd_cont ?_ | refine rd_c ?_ | refine rd_op ?_ | refine rd_un ?_ | refine rd_b ?_ | refine rd_bK ?_ | refine rd_tru ?_ | refine rd_tKb ?_ | refine rd_and ?_ | refine rd_or ?_ | refine rd_not ?_ | refine rd_andV ?_ | refine rd_orV ?_ | refine rd_notV ?_ | refine rd_tvKb ?_ | refine rd_ifE ?_ | refine rd_nil ?_ | refine rd_cons ?_ | refine rd_tup ?_ | refine rd_lst ?_ | refine rd_lstM ?_ | refine rd_cb ?_ | refine rd_call ?_ | refine rd_sp0 ?_ | refine rd_sp1 ?_ | refine rd_sp2 ?_ | refine rd_sp3 ?_ | refine rd_int ?_ | refine rd_intb ?_ | refine rd_abs ?_ | refine rd_ii ?_ | refine rd_add ?_ | refine rd_sub ?_ | refine rd_addI ?_ | refine rd_cmp ?_ | refine rd_setI ?_ | refine rd_mt ?_ | refine rd_lc ?_ | refine rd_lcM ?_ | refine rd_yes ?_ | refine rd_wseq ?_ | refine rd_wsT ?_ | refine rd_wsL ?_ | refine rd_wsS ?_ | refine rd_wzip ?_ | refine rd_zipT ?_ | refine rd_rng1 ?_ | refine rd_rng2 ?_ | refine rd_sl ?_ | refine rd_slT ?_ | refine rd_slL ?_ | refine rd_slS ?_ | refine rd_nopart ?_ | refine rd_part ?_ | refine rd_ptK ?_ | refine rd_star ?_ | refine rd_ss ?_ | refine rd_itet ?_ | refine rd_itef ?_ | refine rd_itnt ?_ | refine rd_itnf ?_) | ((with_reducible apply rd_var); (· exact rfl)) | ((with_reducible apply rd_asgK); (· exact rfl)) | ((with_reducible apply rd_parK); (· exact rfl)) | ((with_reducible apply rd_len); (· (first | assumption | exact seqD_ref (by assumption) | exact seqD_up | exact lstD_ref (by assumption) | exact lstD_up | rfl))) | ((with_reducible apply rd_tuple); (· (first | assumption | exact seqD_ref (by assumption) | exact seqD_up | exact lstD_ref (by assumption) | exact lstD_up | rfl))) | ((with_reducible apply rd_list); (· (first | assumption | exact seqD_ref (by assumption) | exact seqD_up | exact lstD_ref (by assumption) | exact lstD_up | rfl))) | ((with_reducible apply rd_stK); (· (first | assumption | exact seqD_ref (by assumption) | exact seqD_up | exact lstD_ref (by assumption) | exact lstD_up | rfl))) | ((with_reducible apply rd_ix); (· (first | assumption | exact seqD_ref (by assumption) | exact seqD_up | exact lstD_ref (by assumption) | exact lstD_up | rfl)); (· (first | exact atI_c0 _ _ | exact atI_c1 _ _ _ | exact atI_c2 _ _ _ _ | assumption | rfl))) | ((with_reducible apply rd_set30); (· (first | assumption | exact gup_same))) | ((with_reducible apply rd_set32); (· (first | assumption | exact gup_same))) | ((with_reducible apply rd_some); (· (first | assumption | exact seqD_ref (by assumption) | exact seqD_up | exact lstD_ref (by assumption) | exact lstD_up | rfl)))))
    refine rd_rI (mulW (by omega) (by omega) (by omega) (by omega)) ?_
    (repeat (first | (with_reducible first | refine rd_seq ?_ | refine rd_seqE ?_ | refine rd_next ?_ | refine rd_rtE ?_ | refine rd_nxE ?_ | refine rd_nx ?_ | refine rd_rt ?_ | refine rd_ct ?_ | refine rd_bk ?_ | refine rd_drop ?_ | refine rd_ret ?_ | refine rd_retN ?_ | refine rd_dif ?_ | refine rd_asg ?_ | refine rd_par ?_ | refine rd_for ?_ | refine rd_break ?_ | refine rd_cont ?_ | refine rd_c ?_ | refine rd_op ?_ | refine rd_un ?_ | refine rd_b ?_ | refine rd_bK ?_ | refine rd_tru ?_ | refine rd_tKb ?_ | refine rd_and ?_ | refine rd_or ?_ | refine rd_not ?_ | refine rd_andV ?_ | refine rd_orV ?_ | refine rd_notV ?_ | refine rd_tvKb ?_ | refine rd_ifE ?_ | refine rd_nil ?_ | refine rd_cons ?_ | refine rd_tup ?_ | refine rd_lst ?_ | refine rd_lstM ?_ | refine rd_cb ?_ | refine rd_call ?_ | refine rd_sp0 ?_ | refine rd_sp1 ?_ | refine rd_sp2 ?_ | refine rd_sp3 ?_ | refine rd_int ?_ | refine rd_intb ?_ | refine rd_abs ?_ | refine rd_ii ?_ | refine rd_add ?_ | refine rd_sub ?_ | refine rd_addI ?_ | refine rd_cmp ?_ | refine rd_setI ?_ | refine rd_mt ?_ | refine rd_lc ?_ | refine rd_lcM ?_ | refine rd_yes ?_ | refine rd_wseq ?_ | refine rd_wsT ?_ | refine rd_wsL ?_ | refine rd_wsS ?_ | refine rd_wzip ?_ | refine rd_zipT ?_ | refine rd_rng1 ?_ | refine rd_rng2 ?_ | refine rd_sl ?_ | refine rd_slT ?_ | refine rd_slL ?_ | refine rd_slS ?_ | refine rd_nopart ?_ | refine rd_part ?_ | refine rd_ptK ?_ | refine rd_star ?_ | refine rd_ss ?_ | refine rd_itet ?_ | refine rd_itef ?_ | refine rd_itnt ?_ | refine rd_itnf ?_) | ((with_reducible apply rd_var); (· exact rfl)) | ((with_reducible apply rd_asgK); (· exact rfl)) | ((with_reducible apply rd_parK); (· exact rfl)) | ((with_reducible apply rd_len); (· (first | assumption | exact seqD_ref (by assumption) | exact seqD_up | exact lstD_ref (by assumption) | exact lstD_up | rfl))) | ((with_reducible apply rd_tuple); (· (first | assumption | exact seqD_ref (by assumption) | exact seqD_up | exact lstD_ref (by assumption) | exact lstD_up | rfl))) | ((with_reducible apply rd_list); (· (first | assumption | exact seqD_ref (by assumption) | exact seqD_up | exact lstD_ref (by assumption) | exact lstD_up | rfl))) | ((with_reducible apply rd_stK); (· (first | assumption | exact seqD_ref (by assumption) | exact seqD_up | exact lstD_ref (by assumption) | exact lstD_up | rfl))) | ((with_reducible apply rd_ix); (· (first | assumption | exact seqD_ref (by assumption) | exact seqD_up | exact lstD_ref (by assumption) | exact lstD_up | rfl)); (· (first | exact atI_c0 _ _ | exact atI_c1 _ _ _ | exact atI_c2 _ _ _ _ | assumption | rfl))) | ((with_reducible apply rd_set30); (· (first | assumption | exact gup_same))) | ((with_reducible apply rd_set32); (· (first | assumption | exact gup_same))) | ((with_reducible apply rd_some); (· (first | assumption | exact seqD_ref (by assumption) | exact seqD_up | exact lstD_ref (by assumption) | exact lstD_up | rfl)))))
    refine rd_rI (mulW (by omega) (by omega) (by omega) (by omega)) ?_
    (repeat (first | (with_reducible first | refine rd_seq ?_ | refine rd_seqE ?_ | refine rd_next ?_ | refine rd_rtE ?_ | refine rd_nxE ?_ | refine rd_nx ?_ | refine rd_rt ?_ | refine rd_ct ?_ | refine rd_bk ?_ | refine rd_drop ?_ | refine rd_ret ?_ | refine rd_retN ?_ | refine rd_dif ?_ | refine rd_asg ?_ | refine rd_par ?_ | refine rd_for ?_ | refine rd_break ?_ | refine rd_cont ?_ | refine rd_c ?_ | refine rd_op ?_ | refine rd_un ?_ | refine rd_b ?_ | refine rd_bK ?_ | refine rd_tru ?_ | refine rd_tKb ?_ | refine rd_and ?_ | refine rd_or ?_ | refine rd_not ?_ | refine rd_andV ?_ | refine rd_orV ?_ | refine rd_notV ?_ | refine rd_tvKb ?_ | refine rd_ifE ?_ | refine rd_nil ?_ | refine rd_cons ?_ | refine rd_tup ?_ | refine rd_lst ?_ | refine rd_lstM ?_ | refine rd_cb ?_ | refine rd_call ?_ | refine rd_sp0 ?_ | refine rd_sp1 ?_ | refine rd_sp2 ?_ | refine rd_sp3 ?_ | refine rd_int ?_ | refine rd_intb ?_ | refine rd_abs ?_ | refine rd_ii ?_ | refine rd_add ?_ | refine rd_sub ?_ | refine rd_addI ?_ | refine rd_cmp ?_ | refine rd_setI ?_ | refine rd_mt ?_ | refine rd_lc ?_ | refine rd_lcM ?_ | refine rd_yes ?_ | refine rd_wseq ?_ | refine rd_wsT ?_ | refine rd_wsL ?_ | refine rd_wsS ?_ | refine rd_wzip ?_ | refine rd_zipT ?_ | refine rd_rng1 ?_ | refine rd_rng2 ?_ | refine rd_sl ?_ | refine rd_slT ?_ | refine rd_slL ?_ | refine rd_slS ?_ | refine rd_nopart ?_ | refine rd_part ?_ | refine rd_ptK ?_ | refine rd_star ?_ | refine rd_ss ?_ | refine rd_itet ?_ | refine rd_itef ?_ | refine rd_itnt ?_ | refine rd_itnf ?_) | ((with_reducible apply rd_var); (· exact rfl)) | ((with_reducible apply rd_asgK); (· exact rfl)) | ((with_reducible apply rd_parK); (· exact rfl)) | ((with_reducible apply rd_len); (· (first | assumption | exact seqD_ref (by assumption) | exact seqD_up | exact lstD_ref (by assumption) | exact lstD_up | rfl))) | ((with_reducible apply rd_tuple); (· (first | assumption | exact seqD_ref (by assumption) | exact seqD_up | exact lstD_ref (by assumption) | exact lstD_up | rfl))) | ((with_reducible apply rd_list); (· (first | assumption | exact seqD_ref (by assumption) | exact seqD_up | exact lstD_ref (by assumption) | exact lstD_up | rfl))) | ((with_reducible apply rd_stK); (· (first | assumption | exact seqD_ref (by assumption) | exact seqD_up | exact lstD_ref (by assumption) | exact lstD_up | rfl))) | ((with_reducible apply rd_ix); (· (first | assumption | exact seqD_ref (by assumption) | exact seqD_up | exact lstD_ref (by assumption) | exact lstD_up | rfl)); (· (first | exact atI_c0 _ _ | exact atI_c1 _ _ _ | exact atI_c2 _ _ _ _ | assumption | rfl))) | ((with_reducible apply rd_set30); (· (first | assumption | exact gup_same))) | ((with_reducible apply rd_set32); (· (first | assumption | exact gup_same))) | ((with_reducible apply rd_some); (· (first | assumption | exact seqD_ref (by assumption) | exact seqD_up | exact lstD_ref (by assumption) | exact lstD_up | rfl)))))
    refine rd_rI (by decide) ?_
    (repeat (first | (with_reducible first | refine rd_seq ?_ | refine rd_seqE ?_ | refine rd_next ?_ | refine rd_rtE ?_ | refine rd_nxE ?_ | refine rd_nx ?_ | refine rd_rt ?_ | refine rd_ct ?_ | refine rd_bk ?_ | refine rd_drop ?_ | refine rd_ret ?_ | refine rd_retN ?_ | refine rd_dif ?_ | refine rd_asg ?_ | refine rd_par ?_ | refine rd_for ?_ | refine rd_break ?_ | refine rd_cont ?_ | refine rd_c ?_ | refine rd_op ?_ | refine rd_un ?_ | refine rd_b ?_ | refine rd_bK ?_ | refine rd_tru ?_ | refine rd_tKb ?_ | refine rd_and ?_ | refine rd_or ?_ | refine rd_not ?_ | refine rd_andV ?_ | refine rd_orV ?_ | refine rd_notV ?_ | refine rd_tvKb ?_ | refine rd_ifE ?_ | refine rd_nil ?_ | refine rd_cons ?_ | refine rd_tup ?_ | refine rd_lst ?_ | refine rd_lstM ?_ | refine rd_cb ?_ | refine rd_call ?_ | refine rd_sp0 ?_ | refine rd_sp1 ?_ | refine rd_sp2 ?_ | refine rd_sp3 ?_ | refine rd_int ?_ | refine rd_intb ?_ | refine rd_abs ?_ | refine rd_ii ?_ | refine rd_add ?_ | refine rd_sub ?_ | refine rd_addI ?_ | refine rd_cmp ?_ | refine rd_setI ?_ | refine rd_mt ?_ | refine rd_lc ?_ | refine rd_lcM ?_ | refine rd_yes ?_ | refine rd_wseq ?_ | refine rd_wsT ?_ | refine rd_wsL ?_ | refine rd_wsS ?_ | refine rd_wzip ?_ | refine rd_zipT ?_ | refine rd_rng1 ?_ | refine rd_rng2 ?_ | refine rd_sl ?_ | refine rd_slT ?_ | refine rd_slL ?_ | refine rd_slS ?_ | refine rd_nopart ?_ | refine rd_part ?_ | refine rd_ptK ?_ | refine rd_star ?_ | refine rd_ss ?_ | refine rd_itet ?_ | refine rd_itef ?_ | refine rd_itnt ?_ | refine rd_itnf ?_) | ((with_reducible apply rd_var); (· exact rfl)) | ((with_reducible apply rd_asgK); (· exact rfl)) | ((with_reducible apply rd_parK); (· exact rfl)) | ((with_reducible apply rd_len); (· (first | assumption | exact seqD_ref (by assumption) | exact seqD_up | exact lstD_ref (by assumption) | exact lstD_up | rfl))) | ((with_reducible apply rd_tuple); (· (first | assumption | exact seqD_ref (by assumption) | exact seqD_up | exact lstD_ref (by assumption) | exact lstD_up | rfl))) | ((with_reducible apply rd_list); (· (first | assumption | exact seqD_ref (by assumption) | exact seqD_up | exact lstD_ref (by assumption) | exact lstD_up | rfl))) | ((with_reducible apply rd_stK); (· (first | assumption | exact seqD_ref (by assumption) | exact seqD_up | exact lstD_ref (by assumption) | exact lstD_up | rfl))) | ((with_reducible apply rd_ix); (· (first | assumption | exact seqD_ref (by assumption) | exact seqD_up | exact lstD_ref (by assumption) | exact lstD_up | rfl)); (· (first | exact atI_c0 _ _ | exact atI_c1 _ _ _ | exact atI_c2 _ _ _ _ | assumption | rfl))) | ((with_reducible apply rd_set30); (· (first | assumption | exact gup_same))) | ((with_reducible apply rd_set32); (· (first | assumption | exact gup_same))) | ((with_reducible apply rd_some); (· (first | assumption | exact seqD_ref (by assumption) | exact seqD_up | exact lstD_ref (by assumption) | exact lstD_up | rfl)))))
    refine rd_rI (divW (by decide) (by decide)) ?_
    (repeat (first | (with_reducible first | refine rd_seq ?_ | refine rd_seqE ?_ | refine rd_next ?_ | refine rd_rtE ?_ | refine rd_nxE ?_ | refine rd_nx ?_ | refine rd_rt ?_ | refine rd_ct ?_ | refine rd_bk ?_ | refine rd_drop ?_ | refine rd_ret ?_ | refine rd_retN ?_ | refine rd_dif ?_ | refine rd_asg ?_ | refine rd_par ?_ | refine rd_for ?_ | refine rd_break ?_ | refine rd_cont ?_ | refine rd_c ?_ | refine rd_op ?_ | refine rd_un ?_ | refine rd_b ?_ | refine rd_bK ?_ | refine rd_tru ?_ | refine rd_tKb ?_ | refine rd_and ?_ | refine rd_or ?_ | refine rd_not ?_ | refine rd_andV ?_ | refine rd_orV ?_ | refine rd_notV ?_ | refine rd_tvKb ?_ | refine rd_ifE ?_ | refine rd_nil ?_ | refine rd_cons ?_ | refine rd_tup ?_ | refine rd_lst ?_ | refine rd_lstM ?_ | refine rd_cb ?_ | refine rd_call ?_ | refine rd_sp0 ?_ | refine rd_sp1 ?_ | refine rd_sp2 ?_ | refine rd_sp3 ?_ | refine rd_int ?_ | refine rd_intb ?_ | refine rd_abs ?_ | refine rd_ii ?_ | refine rd_add ?_ | refine rd_sub ?_ | refine rd_addI ?_ | refine rd_cmp ?_ | refine rd_setI ?_ | refine rd_mt ?_ | refine rd_lc ?_ | refine rd_lcM ?_ | refine rd_yes ?_ | refine rd_wseq ?_ | refine rd_wsT ?_ | refine rd_wsL ?_ | refine rd_wsS ?_ | refine rd_wzip ?_ | refine rd_zipT ?_ | refine rd_rng1 ?_ | refine rd_rng2 ?_ | refine rd_sl ?_ | refine rd_slT ?_ | refine rd_slL ?_ | refine rd_slS ?_ | refine rd_nopart ?_ | refine rd_part ?_ | refine rd_ptK ?_ | refine rd_star ?_ | refine rd_ss ?_ | refine rd_itet ?_ | refine rd_itef ?_ | refine rd_itnt ?_ | refine rd_itnf ?_) | ((with_reducible apply rd_var); (· exact rfl)) | ((with_reducible apply rd_asgK); (· exact rfl)) | ((with_reducible apply rd_parK); (· exact rfl)) | ((with_reducible apply rd_len); (· (first | assumption | exact seqD_ref (by assumption) | exact seqD_up | exact lstD_ref (by assumption) | exact lstD_up | rfl))) | ((with_reducible apply rd_tuple); (· (first | assumption | exact seqD_ref (by assumption) | exact seqD_up | exact lstD_ref (by assumption) | exact lstD_up | rfl))) | ((with_reducible apply rd_list); (· (first | assumption | exact seqD_ref (by assumption) | exact seqD_up | exact lstD_ref (by assumption) | exact lstD_up | rfl))) | ((with_reducible apply rd_stK); (· (first | assumption | exact seqD_ref (by assumption) | exact seqD_up | exact lstD_ref (by assumption) | exact lstD_up | rfl))) | ((with_reducible apply rd_ix); (· (first | assumption | exact seqD_ref (by assumption) | exact seqD_up | exact lstD_ref (by assumption) | exact lstD_up | rfl)); (· (first | exact atI_c0 _ _ | exact atI_c1 _ _ _ | exact atI_c2 _ _ _ _ | assumption | rfl))) | ((with_reducible apply rd_set30); (· (first | assumption | exact gup_same))) | ((with_reducible apply rd_set32); (· (first | assumption | exact gup_same))) | ((with_reducible apply rd_some); (· (first | assumption | exact seqD_ref (by assumption) | exact seqD_up | exact lstD_ref (by assumption) | exact lstD_up | rfl)))))
    refine rd_rI h1 ?_
    (repeat (first | (with_reducible first | refine rd_seq ?_ | refine rd_seqE ?_ | refine rd_next ?_ | refine rd_rtE ?_ | refine rd_nxE ?_ | refine rd_nx ?_ | refine rd_rt ?_ | refine rd_ct ?_ | refine rd_bk ?_ | refine rd_drop ?_ | refine rd_ret ?_ | refine rd_retN ?_ | refine rd_dif ?_ | refine rd_asg ?_ | refine rd_par ?_ | refine rd_for ?_ | refine rd_break ?_ | refine rd_cont ?_ | refine rd_c ?_ | refine rd_op ?_ | refine rd_un ?_ | refine rd_b ?_ | refine rd_bK ?_ | refine rd_tru ?_ | refine rd_tKb ?_ | refine rd_and ?_ | refine rd_or ?_ | refine rd_not ?_ | refine rd_andV ?_ | refine rd_orV ?_ | refine rd_notV ?_ | refine rd_tvKb ?_ | refine rd_ifE ?_ | refine rd_nil ?_ | refine rd_cons ?_ | refine rd_tup ?_ | refine rd_lst ?_ | refine rd_lstM ?_ | refine rd_cb ?_ | refine rd_call ?_ | refine rd_sp0 ?_ | refine rd_sp1 ?_ | refine rd_sp2 ?_ | refine rd_sp3 ?_ | refine rd_int ?_ | refine rd_intb ?_ | refine rd_abs ?_ | refine rd_ii ?_ | refine rd_add ?_ | refine rd_sub ?_ | refine rd_addI ?_ | refine rd_cmp ?_ | refine rd_setI ?_ | refine rd_mt ?_ | refine rd_lc ?_ | refine rd_lcM ?_ | refine rd_yes ?_ | refine rd_wseq ?_ | refine rd_wsT ?_ | refine rd_wsL ?_ | refine rd_wsS ?_ | refine rd_wzip ?_ | refine rd_zipT ?_ | refine rd_rng1 ?_ | refine rd_rng2 ?_ | refine rd_sl ?_ | refine rd_slT ?_ | refine rd_slL ?_ | refine rd_slS ?_ | refine rd_nopart ?_ | refine rd_part ?_ | refine rd_ptK ?_ | refine rd_star ?_ | refine rd_ss ?_ | refine rd_itet ?_ | refine rd_itef ?_ | refine rd_itnt ?_ | refine rd_itnf ?_) | ((with_reducible apply rd_var); (· exact rfl)) | ((with_reducible apply rd_asgK); (· exact rfl)) | ((with_reducible apply rd_parK); (· exact rfl)) | ((with_reducible apply rd_len); (· (first | assumption | exact seqD_ref (by assumption) | exact seqD_up | exact lstD_ref (by assumption) | exact lstD_up | rfl))) | ((with_reducible apply rd_tuple); (· (first | assumption | exact seqD_ref (by assumption) | exact seqD_up | exact lstD_ref (by assumption) | exact lstD_up | rfl))) | ((with_reducible apply rd_list); (· (first | assumption | exact seqD_ref (by assumption) | exact seqD_up | exact lstD_ref (by assumption) | exact lstD_up | rfl))) | ((with_reducible apply rd_stK); (· (first | assumption | exact seqD_ref (by assumption) | exact seqD_up | exact lstD_ref (by assumption) | exact lstD_up | rfl))) | ((with_reducible apply rd_ix); (· (first | assumption | exact seqD_ref (by assumption) | exact seqD_up | exact lstD_ref (by assumption) | exact lstD_up | rfl)); (· (first | exact atI_c0 _ _ | exact atI_c1 _ _ _ | exact atI_c2 _ _ _ _ | assumption | rfl))) | ((with_reducible apply rd_set30); (· (first | assumption | exact gup_same))) | ((with_reducible apply rd_set32); (· (first | assumption | exact gup_same))) | ((with_reducible apply rd_some); (· (first | assumption | exact seqD_ref (by assumption) | exact seqD_up | exact lstD_ref (by assumption) | exact lstD_up | rfl)))))
    exact dret (k _ _ (Int.emod_nonneg _ (by omega)) (Int.emod_lt_of_pos _ h1) ⟨_, _, _, rfl, v0, v1, by omega, by omega⟩)

abbrev s_qpick : Stmt := topS 26
abbrev N_qpick : List Str := ["_law_pot_here", "_law_items"]
theorem sc_qpick : FnScope N_qpick ["_law_pot_here", "_law_items"] (defScope s_qpick) := ⟨rfl, rfl, rfl, by decide +kernel, rfl, by decide +kernel, by decide +kernel⟩
abbrev sp_qpick : SpD :=
  sp2 fun a b g P => ∃ p ds n L, a = .ref p ∧ b = .lst ds ∧ ds ≠ [] ∧ ds.length < 100000 ∧ g p = some (.lst L) ∧ PotL n L ∧ n ≤ 100000 ∧ ∀ d ∈ ds, ∀ L', PotL (n + 1) L' → P d (gup g p (.lst L'))
theorem ok_qpick {P : Program} {w : World} {K : Fg} {mg : Str → Option Value} {base : Heap} {t_MAX_PLACE t_MAX_STEP t_MOST_LAST t_MOST_MOST : Tok} {f f_qdip : Addr} {fd d_qdip : FuncData} (D : Dfn K mg "_law_pick" s_qpick ["_law_pot_here", "_law_items"] f fd) (T : Txt K mg t_MAX_PLACE t_MAX_STEP t_MOST_LAST t_MOST_MOST) (D_qdip : Dfn K mg "_law_dip" s_qdip ["_law_pot_here", "_law_total"] f_qdip d_qdip) (G_qdip : FnOk P w K mg base CX0 1 f_qdip d_qdip ["_law_pot_here", "_law_total"] (upSp K sp_qdip)) :
    FnOk P w K mg base CX0 2 f fd ["_law_pot_here", "_law_items"] (upSp K sp_qpick) := by
  refine fun_okD D.fn sc_qpick (fun ds g Q h => len2 h) (fun cdv A outer s H E hr => ⟨_, (pds_one (pds_ret (pd_ix (pdv 1) (pd_call G_qdip (hr.mono (by decide)) D_qdip.at_ D_qdip.fn.kp D_qdip.bd pass0 (pda_cons (pdv 0) (pda_cons (pd_callB call_len_seq ref_len T.b_len (by decide +kernel) (pda_cons (pdv 1) pda_nil)) pda_nil)))))), ?_⟩)
  intro ds g Q h
  obtain ⟨a0, a1, rfl, h⟩ := sp2_of h
  rw [show startD N_qpick [a0, a1] = [some a0, some a1] from rfl]
  obtain ⟨p, ds, n, L, e1, e2, h1, h2, hg, hp, hn, k⟩ := h
  subst e1 e2
  have hl : 1 ≤ ds.length := List.length_pos_iff.mpr h1
  (repeat (first | (with_reducible first | refine rd_seq ?_ | refine rd_seqE ?_ | refine rd_next ?_ | refine rd_rtE ?_ | refine rd_nxE ?_ | refine rd_nx ?_ | refine rd_rt ?_ | refine rd_ct ?_ | refine rd_bk ?_ | refine rd_drop ?_ | refine rd_ret ?_ | refine rd_retN ?_ | refine rd_dif ?_ | refine rd_asg ?_ | refine rd_par ?_ | refine rd_for ?_ | refine rd_break ?_ | refine rd_cont ?_ | refine rd_c ?_ | refine rd_op ?_ | refine rd_un ?_ | refine rd_b ?_ | refine rd_bK ?_ | refine rd_tru ?_ | refine rd_tKb ?_ | refine rd_and ?_ | refine rd_or ?_ | refine rd_not ?_ | refine rd_andV ?_ | refine rd_orV ?_ | refine rd_notV ?_ | refine rd_tvKb ?_ | refine rd_ifE ?_ | refine rd_nil ?_ | refine rd_cons ?_ | refine rd_tup ?_ | refine rd_lst ?_ | refine rd_lstM ?_ | refine rd_cb ?_ | refine rd_call ?_ | refine rd_sp0 ?_ | refine rd_sp1 ?_ | refine rd_sp2 ?_ | refine rd_sp3 ?_ | refine rd_int ?_ | refine rd_intb ?_ | refine rd_abs ?_ | refine rd_ii ?_ | refine rd_add ?_ | refine rd_sub ?_ | refine rd_addI ?_ | refine rd_cmp ?_ | refine rd_setI ?_ | refine rd_mt ?_ | refine rd_lc ?_ | refine rd_lcM ?_ | refine rd_yes ?_ | refine rd_wseq ?_ | refine rd_wsT ?_ | refine rd_wsL ?_ | refine rd_wsS ?_ | refine rd_wzip ?_ | refine rd_zipT ?_ | refine rd_rng1 ?_ | refine rd_rng2 ?_ | refine rd_sl ?_ | refine rd_slT ?_ | refine rd_slL ?_ | refine rd_slS ?_ | refine rd_nopart ?_ | refine rd_part ?_ | refine rd_ptK ?_ | refine rd_star ?_ | refine rd_ss ?_ | refine rd_itet ?_ | refine rd_itef ?_ | refine rd_itnt ?_ | refine rd_itnf ?_) | ((with_reducible apply rd_var); (· exact rfl)) | ((with_reducible apply rd_asgK); (· exact rfl)) | ((with_reducible apply rd_parK); (· exact rfl)) | ((with_reducible apply rd_len); (· (first | assumption | exact seqD_ref (by assumption) | exact seqD_up | exact lstD_ref (by assumption) | exact lstD_up | rfl))) | ((with_reducible apply rd_tuple); (· (first | assumption | exact seqD_ref (by assumption) | exact seqD_up | exact lstD_ref (by assumption) | exact lstD_up | rfl))) | ((with_reducible apply rd_list); (· (first | assumption | exact seqD_ref (by assumption) | exact seqD_up | exact lstD_ref (by assumption) | exact lstD_up | rfl))) | ((with_reducible apply rd_stK); (· (first | assumption | exact seqD_ref (by assumption) | exact seqD_up | exact lstD_ref (by assumption) | exact lstD_up | rfl))) | ((with_reducible apply rd_ix); (· (first | assumption | exact seqD_ref (by assumption) | exact seqD_up | exact lstD_ref (by assumption) | exact lstD_up | rfl)); (· (first | exact atI_c0 _ _ | exact atI_c1 _ _ _ | exact atI_c2 _ _ _ _ | assumption | rfl))) | ((with_reducible apply rd_set30); (· (first | assumption | exact gup_same))) | ((with_reducible apply rd_set32); (· (first | assumption | exact gup_same))) | ((with_reducible apply rd_some); (· (first | assumption | exact seqD_ref (by assumption) | exact seqD_up | exact lstD_ref (by assumption) | exact lstD_up | rfl)))))
  refine ⟨p, _, n, L, rfl, rfl, by omega, by omega, hg, hp, hn, fun r L' r0 r1 hp' => ?_⟩
  obtain ⟨j, rfl⟩ := Int.eq_ofNat_of_zero_le r0
  have hj : j < ds.length := by omega
  (with_reducible apply rd_ix)
  · rfl
  · exact atI_nat (List.getElem?_eq_getElem hj)
  (repeat (first | (with_reducible first | refine rd_seq ?_ | refine rd_seqE ?_ | refine rd_next ?_ | refine rd_rtE ?_ | refine rd_nxE ?_ | refine rd_nx ?_ | refine rd_rt ?_ | refine rd_ct ?_ | refine rd_bk ?_ | refine rd_drop ?_ | refine rd_ret ?_ | refine rd_retN ?_ | refine rd_dif ?_ | refine rd_asg ?_ | refine rd_par ?_ | refine rd_for ?_ | refine rd_break ?_ | refine rd_cont ?_ | refine rd_c ?_ | refine rd_op ?_ | refine rd_un ?_ | refine rd_b ?_ | refine rd_bK ?_ | refine rd_tru ?_ | refine rd_tKb ?_ | refine rd_and ?_ | refine rd_or ?_ | refine rd_not ?_ | refine rd_andV ?_ | refine rd_orV ?_ | refine rd_notV ?_ | refine rd_tvKb ?_ | refine rd_ifE ?_ | refine rd_nil ?_ | refine rd_cons ?_ | refine rd_tup ?_ | refine rd_lst ?_ | refine rd_lstM ?_ | refine rd_cb ?_ | refine rd_call ?_ | refine rd_sp0 ?_ | refine rd_sp1 ?_ | refine rd_sp2 ?_ | refine rd_sp3 ?_ | refine rd_int ?_ | refine rd_intb ?_ | refine rd_abs ?_ | refine rd_ii ?_ | refine rd_add ?_ | refine rd_sub ?_ | refine rd_addI ?_ | refine rd_cmp ?_ | refine rd_setI ?_ | refine rd_mt ?_ | refine rd_lc ?_ | refine rd_lcM ?_ | refine rd_yes ?_ | refine rd_wseq ?_ | refine rd_wsT ?_ | refine rd_wsL ?_ | refine rd_wsS ?_ | refine rd_wzip ?_ | refine rd_zipT ?_ | refine rd_rng1 ?_ | refine rd_rng2 ?_ | refine rd_sl ?_ | refine rd_slT ?_ | refine rd_slL ?_ | refine rd_slS ?_ | refine rd_nopart ?_ | refine rd_part ?_ | refine rd_ptK ?_ | refine rd_star ?_ | refine rd_ss ?_ | refine rd_itet ?_ | refine rd_itef ?_ | refine rd_itnt ?_ | refine rd_itnf ?_) | ((with_reducible apply rd_var); (· exact rfl)) | ((with_reducible apply rd_asgK); (· exact rfl)) | ((with_reducible apply rd_parK); (· exact rfl)) | ((with_reducible apply rd_len); (· (first | assumption | exact seqD_ref (by assumption) | exact seqD_up | exact lstD_ref (by assumption) | exact lstD_up | rfl))) | ((with_reducible apply rd_tuple); (· (first | assumption | exact seqD_ref (by assumption) | exact seqD_up | exact lstD_ref (by assumption) | exact lstD_up | rfl))) | ((with_reducible apply rd_list); (· (first | assumption | exact seqD_ref (by assumption) | exact seqD_up | exact lstD_ref (by assumption) | exact lstD_up | rfl))) | ((with_reducible apply rd_stK); (· (first | assumption | exact seqD_ref (by assumption) | exact seqD_up | exact lstD_ref (by assumption) | exact lstD_up | rfl))) | ((with_reducible apply rd_ix); (· (first | assumption | exact seqD_ref (by assumption) | exact seqD_up | exact lstD_ref (by assumption) | exact lstD_up | rfl)); (· (first | exact atI_c0 _ _ | exact atI_c1 _ _ _ | exact atI_c2 _ _ _ _ | assumption | rfl))) | ((with_reducible apply rd_set30); (· (first | assumption | exact gup_same))) | ((with_reducible apply rd_set32); (· (first | assumption | exact gup_same))) | ((with_reducible apply rd_some); (· (first | assumption | exact seqD_ref (by assumption) | exact seqD_up | exact lstD_ref (by assumption) | exact lstD_up | rfl)))))
  exact dret (k _ (List.getElem_mem hj) _ hp')

abbrev s_qdegrees : Stmt := topS 27
abbrev N_qdegrees : List Str := ["_law_pot_here", "_law_most", "_law_turn", "_law_size", "_law_found"]
theorem sc_qdegrees : FnScope N_qdegrees ["_law_pot_here", "_law_most"] (defScope s_qdegrees) := ⟨rfl, rfl, rfl, by decide +kernel, rfl, by decide +kernel, by decide +kernel⟩
abbrev sp_qdegrees : SpD :=
  sp2 fun a b g P => ∃ p m n L, a = .ref p ∧ b = .int m ∧ 0 ≤ m ∧ m ≤ 480 ∧ g p = some (.lst L) ∧ PotL n L ∧ n ≤ 90000 ∧ ∀ ns L', PD ns → PotL (n + 5) L' → P (tI ns) (gup g p (.lst L'))
theorem ok_qdegrees {P : Program} {w : World} {K : Fg} {mg : Str → Option Value} {base : Heap} {t_MAX_PLACE t_MAX_STEP t_MOST_LAST t_MOST_MOST : Tok} {f f_qdip : Addr} {fd d_qdip : FuncData} (D : Dfn K mg "_law_degrees" s_qdegrees ["_law_pot_here", "_law_most"] f fd) (T : Txt K mg t_MAX_PLACE t_MAX_STEP t_MOST_LAST t_MOST_MOST) (D_qdip : Dfn K mg "_law_dip" s_qdip ["_law_pot_here", "_law_total"] f_qdip d_qdip) (G_qdip : FnOk P w K mg base CX0 1 f_qdip d_qdip ["_law_pot_here", "_law_total"] (upSp K sp_qdip)) :
    FnOk P w K mg base CX0 2 f fd ["_law_pot_here", "_law_most"] (upSp K sp_qdegrees) := by
  refine fun_okD D.fn sc_qdegrees (fun ds g Q h => len2 h) (fun cdv A outer s H E hr => ⟨_, (pds_cons (pds_par (i := 3) (j := 4) rfl sc_qdegrees.nd (pda_cons (pd_add pd_int (pd_call G_qdip (hr.mono (by decide)) D_qdip.at_ D_qdip.fn.kp D_qdip.bd pass0 (pda_cons (pdv 0) (pda_cons pd_int pda_nil)))) (pda_cons (pd_lstM pda_nil) pda_nil))) (pds_cons (pds_for (tg := .nm 2) PassesOwn.never rfl (pid_range1 T.b_range (pda_cons (pdv 3) pda_nil)) (pgd_nm (i := 2) sc_qdegrees.nd) (pds_one (pds_expr (pd_append (pdv 4) (pda_cons (pd_call G_qdip (hr.mono (by decide)) D_qdip.at_ D_qdip.fn.kp D_qdip.bd pass0 (pda_cons (pdv 0) (pda_cons (pd_add (pdv 1) pd_int) pda_nil))) pda_nil))))) (pds_one (pds_ret (pd_callTy call_tuple_of ref_tuple T.b_tuple (by decide +kernel) (pda_cons (pd_sortedSet T.b_sorted T.b_set (pdv 4)) pda_nil)))))), ?_⟩)
  intro ds g Q h
  obtain ⟨a0, a1, rfl, h⟩ := sp2_of h
  rw [show startD N_qdegrees [a0, a1] = [some a0, some a1, none, none, none] from rfl]
  obtain ⟨p, m, n, L, e1, e2, m0, m1, hg, hp, hn, k⟩ := h
  subst e1 e2
  (repeat (first | (with_reducible first | refine rd_seq ?_ | refine rd_seqE ?_ | refine rd_next ?_ | refine rd_rtE ?_ | refine rd_nxE ?_ | refine rd_nx ?_ | refine rd_rt ?_ | refine rd_ct ?_ | refine rd_bk ?_ | refine rd_drop ?_ | refine rd_ret ?_ | refine rd_retN ?_ | refine rd_dif ?_ | refine rd_asg ?_ | refine rd_par ?_ | refine rd_for ?_ | refine rd_break ?_ | refine rd_cont ?_ | refine rd_c ?_ | refine rd_op ?_ | refine rd_un ?_ | refine rd_b ?_ | refine rd_bK ?_ | refine rd_tru ?_ | refine rd_tKb ?_ | refine rd_and ?_ | refine rd_or ?_ | refine rd_not ?_ | refine rd_andV ?_ | refine rd_orV ?_ | refine rd_notV ?_ | refine rd_tvKb ?_ | refine rd_ifE ?_ | refine rd_nil ?_ | refine rd_cons ?_ | refine rd_tup ?_ | refine rd_lst ?_ | refine rd_lstM ?_ | refine rd_cb ?_ | refine rd_call ?_ | refine rd_sp0 ?_ | refine rd_sp1 ?_ | refine rd_sp2 ?_ | refine rd_sp3 ?_ | refine rd_int ?_ | refine rd_intb ?_ | refine rd_abs ?_ | refine rd_ii ?_ | refine rd_add ?_ | refine rd_sub ?_ | refine rd_addI ?_ | refine rd_cmp ?_ | refine rd_setI ?_ | refine rd_mt ?_ | refine rd_lc ?_ | refine rd_lcM ?_ | refine rd_yes ?_ | refine rd_wseq ?_ | refine rd_wsT ?_ | refine rd_wsL ?_ | refine rd_wsS ?_ | refine rd_wzip ?_ | refine rd_zipT ?_ | refine rd_rng1 ?_ | refine rd_rng2 ?_ | refine rd_sl ?_ | refine rd_slT ?_ | refine rd_slL ?_ | refine rd_slS ?_ | refine rd_nopart ?_ | refine rd_part ?_ | refine rd_ptK ?_ | refine rd_star ?_ | refine rd_ss ?_ | refine rd_itet ?_ | refine rd_itef ?_ | refine rd_itnt ?_ | refine rd_itnf ?_) | ((with_reducible apply rd_var); (· exact rfl)) | ((with_reducible apply rd_asgK); (· exact rfl)) | ((with_reducible apply rd_parK); (· exact rfl)) | ((with_reducible apply rd_len); (· (first | assumption | exact seqD_ref (by assumption) | exact seqD_up | exact lstD_ref (by assumption) | exact lstD_up | rfl))) | ((with_reducible apply rd_tuple); (· (first | assumption | exact seqD_ref (by assumption) | exact seqD_up | exact lstD_ref (by assumption) | exact lstD_up | rfl))) | ((with_reducible apply rd_list); (· (first | assumption | exact seqD_ref (by assumption) | exact seqD_up | exact lstD_ref (by assumption) | exact lstD_up | rfl))) | ((with_reducible apply rd_stK); (· (first | assumption | exact seqD_ref (by assumption) | exact seqD_up | exact lstD_ref (by assumption) | exact lstD_up | rfl))) | ((with_reducible apply rd_ix); (· (first | assumption | exact seqD_ref (by assumption) | exact seqD_up | exact lstD_ref (by assumption) | exact lstD_up | rfl)); (· (first | exact atI_c0 _ _ | exact atI_c1 _ _ _ | exact atI_c2 _ _ _ _ | assumption | rfl))) | ((with_reducible apply rd_set30); (· (first | assumption | exact gup_same))) | ((with_reducible apply rd_set32); (· (first | assumption | exact gup_same))) | ((with_reducible apply rd_some); (· (first | assumption | exact seqD_ref (by assumption) | exact seqD_up | exact lstD_ref (by assumption) | exact lstD_up | rfl)))))
  refine ⟨p, 4, n, L, rfl, rfl, by decide, by decide, hg, hp, by omega, fun r L1 r0 r1 hp1 => ?_⟩
  (repeat (first | (with_reducible first | refine rd_seq ?_ | refine rd_seqE ?_ | refine rd_next ?_ | refine rd_rtE ?_ | refine rd_nxE ?_ | refine rd_nx ?_ | refine rd_rt ?_ | refine rd_ct ?_ | refine rd_bk ?_ | refine rd_drop ?_ | refine rd_ret ?_ | refine rd_retN ?_ | refine rd_dif ?_ | refine rd_asg ?_ | refine rd_par ?_ | refine rd_for ?_ | refine rd_break ?_ | refine rd_cont ?_ | refine rd_c ?_ | refine rd_op ?_ | refine rd_un ?_ | refine rd_b ?_ | refine rd_bK ?_ | refine rd_tru ?_ | refine rd_tKb ?_ | refine rd_and ?_ | refine rd_or ?_ | refine rd_not ?_ | refine rd_andV ?_ | refine rd_orV ?_ | refine rd_notV ?_ | refine rd_tvKb ?_ | refine rd_ifE ?_ | refine rd_nil ?_ | refine rd_cons ?_ | refine rd_tup ?_ | refine rd_lst ?_ | refine rd_lstM ?_ | refine rd_cb ?_ | refine rd_call ?_ | refine rd_sp0 ?_ | refine rd_sp1 ?_ | refine rd_sp2 ?_ | refine rd_sp3 ?_ | refine rd_int ?_ | refine rd_intb ?_ | refine rd_abs ?_ | refine rd_ii ?_ | refine rd_add ?_ | refine rd_sub ?_ | refine rd_addI ?_ | refine rd_cmp ?_ | refine rd_setI ?_ | refine rd_mt ?_ | refine rd_lc ?_ | refine rd_lcM ?_ | refine rd_yes ?_ | refine rd_wseq ?_ | refine rd_wsT ?_ | refine rd_wsL ?_ | refine rd_wsS ?_ | refine rd_wzip ?_ | refine rd_zipT ?_ | refine rd_rng1 ?_ | refine rd_rng2 ?_ | refine rd_sl ?_ | refine rd_slT ?_ | refine rd_slL ?_ | refine rd_slS ?_ | refine rd_nopart ?_ | refine rd_part ?_ | refine rd_ptK ?_ | refine rd_star ?_ | refine rd_ss ?_ | refine rd_itet ?_ | refine rd_itef ?_ | refine rd_itnt ?_ | refine rd_itnf ?_) | ((with_reducible apply rd_var); (· exact rfl)) | ((with_reducible apply rd_asgK); (· exact rfl)) | ((with_reducible apply rd_parK); (· exact rfl)) | ((with_reducible apply rd_len); (· (first | assumption | exact seqD_ref (by assumption) | exact seqD_up | exact lstD_ref (by assumption) | exact lstD_up | rfl))) | ((with_reducible apply rd_tuple); (· (first | assumption | exact seqD_ref (by assumption) | exact seqD_up | exact lstD_ref (by assumption) | exact lstD_up | rfl))) | ((with_reducible apply rd_list); (· (first | assumption | exact seqD_ref (by assumption) | exact seqD_up | exact lstD_ref (by assumption) | exact lstD_up | rfl))) | ((with_reducible apply rd_stK); (· (first | assumption | exact seqD_ref (by assumption) | exact seqD_up | exact lstD_ref (by assumption) | exact lstD_up | rfl))) | ((with_reducible apply rd_ix); (· (first | assumption | exact seqD_ref (by assumption) | exact seqD_up | exact lstD_ref (by assumption) | exact lstD_up | rfl)); (· (first | exact atI_c0 _ _ | exact atI_c1 _ _ _ | exact atI_c2 _ _ _ _ | assumption | rfl))) | ((with_reducible apply rd_set30); (· (first | assumption | exact gup_same))) | ((with_reducible apply rd_set32); (· (first | assumption | exact gup_same))) | ((with_reducible apply rd_some); (· (first | assumption | exact seqD_ref (by assumption) | exact seqD_up | exact lstD_ref (by assumption) | exact lstD_up | rfl)))))
  refine rd_zK (by show 0 ≤ 16777216; decide) ?_
  intro q hq
  have hqp : q ≠ p := fun e => by rw [e, gup_same] at hq; cases hq
  (repeat (first | (with_reducible first | refine rd_seq ?_ | refine rd_seqE ?_ | refine rd_next ?_ | refine rd_rtE ?_ | refine rd_nxE ?_ | refine rd_nx ?_ | refine rd_rt ?_ | refine rd_ct ?_ | refine rd_bk ?_ | refine rd_drop ?_ | refine rd_ret ?_ | refine rd_retN ?_ | refine rd_dif ?_ | refine rd_asg ?_ | refine rd_par ?_ | refine rd_for ?_ | refine rd_break ?_ | refine rd_cont ?_ | refine rd_c ?_ | refine rd_op ?_ | refine rd_un ?_ | refine rd_b ?_ | refine rd_bK ?_ | refine rd_tru ?_ | refine rd_tKb ?_ | refine rd_and ?_ | refine rd_or ?_ | refine rd_not ?_ | refine rd_andV ?_ | refine rd_orV ?_ | refine rd_notV ?_ | refine rd_tvKb ?_ | refine rd_ifE ?_ | refine rd_nil ?_ | refine rd_cons ?_ | refine rd_tup ?_ | refine rd_lst ?_ | refine rd_lstM ?_ | refine rd_cb ?_ | refine rd_call ?_ | refine rd_sp0 ?_ | refine rd_sp1 ?_ | refine rd_sp2 ?_ | refine rd_sp3 ?_ | refine rd_int ?_ | refine rd_intb ?_ | refine rd_abs ?_ | refine rd_ii ?_ | refine rd_add ?_ | refine rd_sub ?_ | refine rd_addI ?_ | refine rd_cmp ?_ | refine rd_setI ?_ | refine rd_mt ?_ | refine rd_lc ?_ | refine rd_lcM ?_ | refine rd_yes ?_ | refine rd_wseq ?_ | refine rd_wsT ?_ | refine rd_wsL ?_ | refine rd_wsS ?_ | refine rd_wzip ?_ | refine rd_zipT ?_ | refine rd_rng1 ?_ | refine rd_rng2 ?_ | refine rd_sl ?_ | refine rd_slT ?_ | refine rd_slL ?_ | refine rd_slS ?_ | refine rd_nopart ?_ | refine rd_part ?_ | refine rd_ptK ?_ | refine rd_star ?_ | refine rd_ss ?_ | refine rd_itet ?_ | refine rd_itef ?_ | refine rd_itnt ?_ | refine rd_itnf ?_) | ((with_reducible apply rd_var); (· exact rfl)) | ((with_reducible apply rd_asgK); (· exact rfl)) | ((with_reducible apply rd_parK); (· exact rfl)) | ((with_reducible apply rd_len); (· (first | assumption | exact seqD_ref (by assumption) | exact seqD_up | exact lstD_ref (by assumption) | exact lstD_up | rfl))) | ((with_reducible apply rd_tuple); (· (first | assumption | exact seqD_ref (by assumption) | exact seqD_up | exact lstD_ref (by assumption) | exact lstD_up | rfl))) | ((with_reducible apply rd_list); (· (first | assumption | exact seqD_ref (by assumption) | exact seqD_up | exact lstD_ref (by assumption) | exact lstD_up | rfl))) | ((with_reducible apply rd_stK); (· (first | assumption | exact seqD_ref (by assumption) | exact seqD_up | exact lstD_ref (by assumption) | exact lstD_up | rfl))) | ((with_reducible apply rd_ix); (· (first | assumption | exact seqD_ref (by assumption) | exact seqD_up | exact lstD_ref (by assumption) | exact lstD_up | rfl)); (· (first | exact atI_c0 _ _ | exact atI_c1 _ _ _ | exact atI_c2 _ _ _ _ | assumption | rfl))) | ((with_reducible apply rd_set30); (· (first | assumption | exact gup_same))) | ((with_reducible apply rd_set32); (· (first | assumption | exact gup_same))) | ((with_reducible apply rd_some); (· (first | assumption | exact seqD_ref (by assumption) | exact seqD_up | exact lstD_ref (by assumption) | exact lstD_up | rfl)))))
  refine rd_rng1K (j := 1 + r) ⟨by omega, by omega⟩ ?_
  refine rd_loopI (I := fun j δ g' => ∃ (v : Option DV) (ms : List Int) (n' : Nat) (L2 : List DV), δ = [some (.ref p), some (.int m), v, some (.int (1 + r)), some (.ref q)] ∧ g' p = some (.lst L2) ∧ PotL n' L2 ∧ n' + j ≤ n + 5 ∧ g' q = some (.lst (ms.map DV.int)) ∧ (∀ x ∈ ms, 0 ≤ x ∧ x ≤ 480) ∧ ms.length + j ≤ 4 ∧ (j = 0 → ms ≠ []) ∧ (∀ a, a ≠ p → a ≠ q → g' a = g a)) ?_ ?_ ?_
  · refine ⟨none, [], n + 1, L1, rfl, ?_, hp1, ?_, gup_same, fun x hx => (by cases hx), ?_, fun e => ?_, fun a h1 h2 => ?_⟩
    · rw [gup_ne hqp.symm]; exact gup_same
    · simp only [rangeD, List.length_map, List.length_range]; omega
    · simp only [rangeD, List.length_map, List.length_range, List.length_nil]; omega
    · simp only [rangeD, List.length_map, List.length_range] at e; omega
    · rw [gup_ne h2, gup_ne h1]
  · intro d hd j δ g' f hf hI
    obtain ⟨v, ms, n', L2, e, h1, h2, h3, h4, h5, h6, h7, h8⟩ := hI
    subst e
    refine ⟨_, rfl, ?_⟩
    (repeat (first | (with_reducible first | refine rd_seq ?_ | refine rd_seqE ?_ | refine rd_next ?_ | refine rd_rtE ?_ | refine rd_nxE ?_ | refine rd_nx ?_ | refine rd_rt ?_ | refine rd_ct ?_ | refine rd_bk ?_ | refine rd_drop ?_ | refine rd_ret ?_ | refine rd_retN ?_ | refine rd_dif ?_ | refine rd_asg ?_ | refine rd_par ?_ | refine rd_for ?_ | refine rd_break ?_ | refine rd_cont ?_ | refine rd_c ?_ | refine rd_op ?_ | refine rd_un ?_ | refine rd_b ?_ | refine rd_bK ?_ | refine rd_tru ?_ | refine rd_tKb ?_ | refine rd_and ?_ | refine rd_or ?_ | refine rd_not ?_ | refine rd_andV ?_ | refine rd_orV ?_ | refine rd_notV ?_ | refine rd_tvKb ?_ | refine rd_ifE ?_ | refine rd_nil ?_ | refine rd_cons ?_ | refine rd_tup ?_ | refine rd_lst ?_ | refine rd_lstM ?_ | refine rd_cb ?_ | refine rd_call ?_ | refine rd_sp0 ?_ | refine rd_sp1 ?_ | refine rd_sp2 ?_ | refine rd_sp3 ?_ | refine rd_int ?_ | refine rd_intb ?_ | refine rd_abs ?_ | refine rd_ii ?_ | refine rd_add ?_ | refine rd_sub ?_ | refine rd_addI ?_ | refine rd_cmp ?_ | refine rd_setI ?_ | refine rd_mt ?_ | refine rd_lc ?_ | refine rd_lcM ?_ | refine rd_yes ?_ | refine rd_wseq ?_ | refine rd_wsT ?_ | refine rd_wsL ?_ | refine rd_wsS ?_ | refine rd_wzip ?_ | refine rd_zipT ?_ | refine rd_rng1 ?_ | refine rd_rng2 ?_ | refine rd_sl ?_ | refine rd_slT ?_ | refine rd_slL ?_ | refine rd_slS ?_ | refine rd_nopart ?_ | refine rd_part ?_ | refine rd_ptK ?_ | refine rd_star ?_ | refine rd_ss ?_ | refine rd_itet ?_ | refine rd_itef ?_ | refine rd_itnt ?_ | refine rd_itnf ?_) | ((with_reducible apply rd_var); (· exact rfl)) | ((with_reducible apply rd_asgK); (· exact rfl)) | ((with_reducible apply rd_parK); (· exact rfl)) | ((with_reducible apply rd_len); (· (first | assumption | exact seqD_ref (by assumption) | exact seqD_up | exact lstD_ref (by assumption) | exact lstD_up | rfl))) | ((with_reducible apply rd_tuple); (· (first | assumption | exact seqD_ref (by assumption) | exact seqD_up | exact lstD_ref (by assumption) | exact lstD_up | rfl))) | ((with_reducible apply rd_list); (· (first | assumption | exact seqD_ref (by assumption) | exact seqD_up | exact lstD_ref (by assumption) | exact lstD_up | rfl))) | ((with_reducible apply rd_stK); (· (first | assumption | exact seqD_ref (by assumption) | exact seqD_up | exact lstD_ref (by assumption) | exact lstD_up | rfl))) | ((with_reducible apply rd_ix); (· (first | assumption | exact seqD_ref (by assumption) | exact seqD_up | exact lstD_ref (by assumption) | exact lstD_up | rfl)); (· (first | exact atI_c0 _ _ | exact atI_c1 _ _ _ | exact atI_c2 _ _ _ _ | assumption | rfl))) | ((with_reducible apply rd_set30); (· (first | assumption | exact gup_same))) | ((with_reducible apply rd_set32); (· (first | assumption | exact gup_same))) | ((with_reducible apply rd_some); (· (first | assumption | exact seqD_ref (by assumption) | exact seqD_up | exact lstD_ref (by assumption) | exact lstD_up | rfl)))))
    refine ⟨p, m + 1, n', L2, rfl, rfl, by omega, by omega, h1, h2, by omega, fun x L3 x0 x1 hp3 => ?_⟩
    have h4' : gup g' p (.lst L3) q = some (.lst (ms.map DV.int)) := by rw [gup_ne hqp]; exact h4
    (repeat (first | (with_reducible first | refine rd_seq ?_ | refine rd_seqE ?_ | refine rd_next ?_ | refine rd_rtE ?_ | refine rd_nxE ?_ | refine rd_nx ?_ | refine rd_rt ?_ | refine rd_ct ?_ | refine rd_bk ?_ | refine rd_drop ?_ | refine rd_ret ?_ | refine rd_retN ?_ | refine rd_dif ?_ | refine rd_asg ?_ | refine rd_par ?_ | refine rd_for ?_ | refine rd_break ?_ | refine rd_cont ?_ | refine rd_c ?_ | refine rd_op ?_ | refine rd_un ?_ | refine rd_b ?_ | refine rd_bK ?_ | refine rd_tru ?_ | refine rd_tKb ?_ | refine rd_and ?_ | refine rd_or ?_ | refine rd_not ?_ | refine rd_andV ?_ | refine rd_orV ?_ | refine rd_notV ?_ | refine rd_tvKb ?_ | refine rd_ifE ?_ | refine rd_nil ?_ | refine rd_cons ?_ | refine rd_tup ?_ | refine rd_lst ?_ | refine rd_lstM ?_ | refine rd_cb ?_ | refine rd_call ?_ | refine rd_sp0 ?_ | refine rd_sp1 ?_ | refine rd_sp2 ?_ | refine rd_sp3 ?_ | refine rd_int ?_ | refine rd_intb ?_ | refine rd_abs ?_ | refine rd_ii ?_ | refine rd_add ?_ | refine rd_sub ?_ | refine rd_addI ?_ | refine rd_cmp ?_ | refine rd_setI ?_ | refine rd_mt ?_ | refine rd_lc ?_ | refine rd_lcM ?_ | refine rd_yes ?_ | refine rd_wseq ?_ | refine rd_wsT ?_ | refine rd_wsL ?_ | refine rd_wsS ?_ | refine rd_wzip ?_ | refine rd_zipT ?_ | refine rd_rng1 ?_ | refine rd_rng2 ?_ | refine rd_sl ?_ | refine rd_slT ?_ | refine rd_slL ?_ | refine rd_slS ?_ | refine rd_nopart ?_ | refine rd_part ?_ | refine rd_ptK ?_ | refine rd_star ?_ | refine rd_ss ?_ | refine rd_itet ?_ | refine rd_itef ?_ | refine rd_itnt ?_ | refine rd_itnf ?_) | ((with_reducible apply rd_var); (· exact rfl)) | ((with_reducible apply rd_asgK); (· exact rfl)) | ((with_reducible apply rd_parK); (· exact rfl)) | ((with_reducible apply rd_len); (· (first | assumption | exact seqD_ref (by assumption) | exact seqD_up | exact lstD_ref (by assumption) | exact lstD_up | rfl))) | ((with_reducible apply rd_tuple); (· (first | assumption | exact seqD_ref (by assumption) | exact seqD_up | exact lstD_ref (by assumption) | exact lstD_up | rfl))) | ((with_reducible apply rd_list); (· (first | assumption | exact seqD_ref (by assumption) | exact seqD_up | exact lstD_ref (by assumption) | exact lstD_up | rfl))) | ((with_reducible apply rd_stK); (· (first | assumption | exact seqD_ref (by assumption) | exact seqD_up | exact lstD_ref (by assumption) | exact lstD_up | rfl))) | ((with_reducible apply rd_ix); (· (first | assumption | exact seqD_ref (by assumption) | exact seqD_up | exact lstD_ref (by assumption) | exact lstD_up | rfl)); (· (first | exact atI_c0 _ _ | exact atI_c1 _ _ _ | exact atI_c2 _ _ _ _ | assumption | rfl))) | ((with_reducible apply rd_set30); (· (first | assumption | exact gup_same))) | ((with_reducible apply rd_set32); (· (first | assumption | exact gup_same))) | ((with_reducible apply rd_some); (· (first | assumption | exact seqD_ref (by assumption) | exact seqD_up | exact lstD_ref (by assumption) | exact lstD_up | rfl)))))
    refine rd_append h4' (by rw [List.length_map]; omega) ?_
    (repeat (first | (with_reducible first | refine rd_seq ?_ | refine rd_seqE ?_ | refine rd_next ?_ | refine rd_rtE ?_ | refine rd_nxE ?_ | refine rd_nx ?_ | refine rd_rt ?_ | refine rd_ct ?_ | refine rd_bk ?_ | refine rd_drop ?_ | refine rd_ret ?_ | refine rd_retN ?_ | refine rd_dif ?_ | refine rd_asg ?_ | refine rd_par ?_ | refine rd_for ?_ | refine rd_break ?_ | refine rd_cont ?_ | refine rd_c ?_ | refine rd_op ?_ | refine rd_un ?_ | refine rd_b ?_ | refine rd_bK ?_ | refine rd_tru ?_ | refine rd_tKb ?_ | refine rd_and ?_ | refine rd_or ?_ | refine rd_not ?_ | refine rd_andV ?_ | refine rd_orV ?_ | refine rd_notV ?_ | refine rd_tvKb ?_ | refine rd_ifE ?_ | refine rd_nil ?_ | refine rd_cons ?_ | refine rd_tup ?_ | refine rd_lst ?_ | refine rd_lstM ?_ | refine rd_cb ?_ | refine rd_call ?_ | refine rd_sp0 ?_ | refine rd_sp1 ?_ | refine rd_sp2 ?_ | refine rd_sp3 ?_ | refine rd_int ?_ | refine rd_intb ?_ | refine rd_abs ?_ | refine rd_ii ?_ | refine rd_add ?_ | refine rd_sub ?_ | refine rd_addI ?_ | refine rd_cmp ?_ | refine rd_setI ?_ | refine rd_mt ?_ | refine rd_lc ?_ | refine rd_lcM ?_ | refine rd_yes ?_ | refine rd_wseq ?_ | refine rd_wsT ?_ | refine rd_wsL ?_ | refine rd_wsS ?_ | refine rd_wzip ?_ | refine rd_zipT ?_ | refine rd_rng1 ?_ | refine rd_rng2 ?_ | refine rd_sl ?_ | refine rd_slT ?_ | refine rd_slL ?_ | refine rd_slS ?_ | refine rd_nopart ?_ | refine rd_part ?_ | refine rd_ptK ?_ | refine rd_star ?_ | refine rd_ss ?_ | refine rd_itet ?_ | refine rd_itef ?_ | refine rd_itnt ?_ | refine rd_itnf ?_) | ((with_reducible apply rd_var); (· exact rfl)) | ((with_reducible apply rd_asgK); (· exact rfl)) | ((with_reducible apply rd_parK); (· exact rfl)) | ((with_reducible apply rd_len); (· (first | assumption | exact seqD_ref (by assumption) | exact seqD_up | exact lstD_ref (by assumption) | exact lstD_up | rfl))) | ((with_reducible apply rd_tuple); (· (first | assumption | exact seqD_ref (by assumption) | exact seqD_up | exact lstD_ref (by assumption) | exact lstD_up | rfl))) | ((with_reducible apply rd_list); (· (first | assumption | exact seqD_ref (by assumption) | exact seqD_up | exact lstD_ref (by assumption) | exact lstD_up | rfl))) | ((with_reducible apply rd_stK); (· (first | assumption | exact seqD_ref (by assumption) | exact seqD_up | exact lstD_ref (by assumption) | exact lstD_up | rfl))) | ((with_reducible apply rd_ix); (· (first | assumption | exact seqD_ref (by assumption) | exact seqD_up | exact lstD_ref (by assumption) | exact lstD_up | rfl)); (· (first | exact atI_c0 _ _ | exact atI_c1 _ _ _ | exact atI_c2 _ _ _ _ | assumption | rfl))) | ((with_reducible apply rd_set30); (· (first | assumption | exact gup_same))) | ((with_reducible apply rd_set32); (· (first | assumption | exact gup_same))) | ((with_reducible apply rd_some); (· (first | assumption | exact seqD_ref (by assumption) | exact seqD_up | exact lstD_ref (by assumption) | exact lstD_up | rfl)))))
    refine hf _ _ ⟨some d, ms ++ [x], n' + 1, L3, rfl, ?_, hp3, by omega, ?_, ?_, ?_, ?_, ?_⟩
    · rw [gup_ne hqp.symm]; exact gup_same
    · rw [gup_same, List.map_append]; rfl
    · intro y hy
      rcases List.mem_append.mp hy with z | z
      · exact h5 y z
      · have z' := List.mem_singleton.mp z
        subst z'
        exact ⟨x0, by omega⟩
    · rw [List.length_append]
      show ms.length + 1 + j ≤ 4
      omega
    · intro _
      simp
    · intro a ha hb
      rw [gup_ne hb, gup_ne ha]
      exact h8 a ha hb
  · intro δ g' hI
    obtain ⟨v, ms, n', L2, e, h1, h2, h3, h4, h5, h6, h7, h8⟩ := hI
    subst e
    (repeat (first | (with_reducible first | refine rd_seq ?_ | refine rd_seqE ?_ | refine rd_next ?_ | refine rd_rtE ?_ | refine rd_nxE ?_ | refine rd_nx ?_ | refine rd_rt ?_ | refine rd_ct ?_ | refine rd_bk ?_ | refine rd_drop ?_ | refine rd_ret ?_ | refine rd_retN ?_ | refine rd_dif ?_ | refine rd_asg ?_ | refine rd_par ?_ | refine rd_for ?_ | refine rd_break ?_ | refine rd_cont ?_ | refine rd_c ?_ | refine rd_op ?_ | refine rd_un ?_ | refine rd_b ?_ | refine rd_bK ?_ | refine rd_tru ?_ | refine rd_tKb ?_ | refine rd_and ?_ | refine rd_or ?_ | refine rd_not ?_ | refine rd_andV ?_ | refine rd_orV ?_ | refine rd_notV ?_ | refine rd_tvKb ?_ | refine rd_ifE ?_ | refine rd_nil ?_ | refine rd_cons ?_ | refine rd_tup ?_ | refine rd_lst ?_ | refine rd_lstM ?_ | refine rd_cb ?_ | refine rd_call ?_ | refine rd_sp0 ?_ | refine rd_sp1 ?_ | refine rd_sp2 ?_ | refine rd_sp3 ?_ | refine rd_int ?_ | refine rd_intb ?_ | refine rd_abs ?_ | refine rd_ii ?_ | refine rd_add ?_ | refine rd_sub ?_ | refine rd_addI ?_ | refine rd_cmp ?_ | refine rd_setI ?_ | refine rd_mt ?_ | refine rd_lc ?_ | refine rd_lcM ?_ | refine rd_yes ?_ | refine rd_wseq ?_ | refine rd_wsT ?_ | refine rd_wsL ?_ | refine rd_wsS ?_ | refine rd_wzip ?_ | refine rd_zipT ?_ | refine rd_rng1 ?_ | refine rd_rng2 ?_ | refine rd_sl ?_ | refine rd_slT ?_ | refine rd_slL ?_ | refine rd_slS ?_ | refine rd_nopart ?_ | refine rd_part ?_ | refine rd_ptK ?_ | refine rd_star ?_ | refine rd_ss ?_ | refine rd_itet ?_ | refine rd_itef ?_ | refine rd_itnt ?_ | refine rd_itnf ?_) | ((with_reducible apply rd_var); (· exact rfl)) | ((with_reducible apply rd_asgK); (· exact rfl)) | ((with_reducible apply rd_parK); (· exact rfl)) | ((with_reducible apply rd_len); (· (first | assumption | exact seqD_ref (by assumption) | exact seqD_up | exact lstD_ref (by assumption) | exact lstD_up | rfl))) | ((with_reducible apply rd_tuple); (· (first | assumption | exact seqD_ref (by assumption) | exact seqD_up | exact lstD_ref (by assumption) | exact lstD_up | rfl))) | ((with_reducible apply rd_list); (· (first | assumption | exact seqD_ref (by assumption) | exact seqD_up | exact lstD_ref (by assumption) | exact lstD_up | rfl))) | ((with_reducible apply rd_stK); (· (first | assumption | exact seqD_ref (by assumption) | exact seqD_up | exact lstD_ref (by assumption) | exact lstD_up | rfl))) | ((with_reducible apply rd_ix); (· (first | assumption | exact seqD_ref (by assumption) | exact seqD_up | exact lstD_ref (by assumption) | exact lstD_up | rfl)); (· (first | exact atI_c0 _ _ | exact atI_c1 _ _ _ | exact atI_c2 _ _ _ _ | assumption | rfl))) | ((with_reducible apply rd_set30); (· (first | assumption | exact gup_same))) | ((with_reducible apply rd_set32); (· (first | assumption | exact gup_same))) | ((with_reducible apply rd_some); (· (first | assumption | exact seqD_ref (by assumption) | exact seqD_up | exact lstD_ref (by assumption) | exact lstD_up | rfl)))))
    refine rd_ssK (lstD_ref h4) (intsD_map ms) (by omega) (fun xs x1 x2 x3 => ?_)
    (repeat (first | (with_reducible first | refine rd_seq ?_ | refine rd_seqE ?_ | refine rd_next ?_ | refine rd_rtE ?_ | refine rd_nxE ?_ | refine rd_nx ?_ | refine rd_rt ?_ | refine rd_ct ?_ | refine rd_bk ?_ | refine rd_drop ?_ | refine rd_ret ?_ | refine rd_retN ?_ | refine rd_dif ?_ | refine rd_asg ?_ | refine rd_par ?_ | refine rd_for ?_ | refine rd_break ?_ | refine rd_cont ?_ | refine rd_c ?_ | refine rd_op ?_ | refine rd_un ?_ | refine rd_b ?_ | refine rd_bK ?_ | refine rd_tru ?_ | refine rd_tKb ?_ | refine rd_and ?_ | refine rd_or ?_ | refine rd_not ?_ | refine rd_andV ?_ | refine rd_orV ?_ | refine rd_notV ?_ | refine rd_tvKb ?_ | refine rd_ifE ?_ | refine rd_nil ?_ | refine rd_cons ?_ | refine rd_tup ?_ | refine rd_lst ?_ | refine rd_lstM ?_ | refine rd_cb ?_ | refine rd_call ?_ | refine rd_sp0 ?_ | refine rd_sp1 ?_ | refine rd_sp2 ?_ | refine rd_sp3 ?_ | refine rd_int ?_ | refine rd_intb ?_ | refine rd_abs ?_ | refine rd_ii ?_ | refine rd_add ?_ | refine rd_sub ?_ | refine rd_addI ?_ | refine rd_cmp ?_ | refine rd_setI ?_ | refine rd_mt ?_ | refine rd_lc ?_ | refine rd_lcM ?_ | refine rd_yes ?_ | refine rd_wseq ?_ | refine rd_wsT ?_ | refine rd_wsL ?_ | refine rd_wsS ?_ | refine rd_wzip ?_ | refine rd_zipT ?_ | refine rd_rng1 ?_ | refine rd_rng2 ?_ | refine rd_sl ?_ | refine rd_slT ?_ | refine rd_slL ?_ | refine rd_slS ?_ | refine rd_nopart ?_ | refine rd_part ?_ | refine rd_ptK ?_ | refine rd_star ?_ | refine rd_ss ?_ | refine rd_itet ?_ | refine rd_itef ?_ | refine rd_itnt ?_ | refine rd_itnf ?_) | ((with_reducible apply rd_var); (· exact rfl)) | ((with_reducible apply rd_asgK); (· exact rfl)) | ((with_reducible apply rd_parK); (· exact rfl)) | ((with_reducible apply rd_len); (· (first | assumption | exact seqD_ref (by assumption) | exact seqD_up | exact lstD_ref (by assumption) | exact lstD_up | rfl))) | ((with_reducible apply rd_tuple); (· (first | assumption | exact seqD_ref (by assumption) | exact seqD_up | exact lstD_ref (by assumption) | exact lstD_up | rfl))) | ((with_reducible apply rd_list); (· (first | assumption | exact seqD_ref (by assumption) | exact seqD_up | exact lstD_ref (by assumption) | exact lstD_up | rfl))) | ((with_reducible apply rd_stK); (· (first | assumption | exact seqD_ref (by assumption) | exact seqD_up | exact lstD_ref (by assumption) | exact lstD_up | rfl))) | ((with_reducible apply rd_ix); (· (first | assumption | exact seqD_ref (by assumption) | exact seqD_up | exact lstD_ref (by assumption) | exact lstD_up | rfl)); (· (first | exact atI_c0 _ _ | exact atI_c1 _ _ _ | exact atI_c2 _ _ _ _ | assumption | rfl))) | ((with_reducible apply rd_set30); (· (first | assumption | exact gup_same))) | ((with_reducible apply rd_set32); (· (first | assumption | exact gup_same))) | ((with_reducible apply rd_some); (· (first | assumption | exact seqD_ref (by assumption) | exact seqD_up | exact lstD_ref (by assumption) | exact lstD_up | rfl)))))
    have hne : xs ≠ [] := by
      intro e
      cases ms with
      | nil => exact h7 rfl rfl
      | cons y r' =>
        have hy := (x2 y).mpr List.mem_cons_self
        rw [e] at hy
        exact nomatch hy
    have hpd : PD xs := ⟨hne, by omega, fun x hx => h5 x ((x2 x).mp hx), x1⟩
    refine ⟨gup g p (.lst L2), fun a => ?_, k xs L2 hpd ?_⟩
    · by_cases ha : a = p
      · subst ha
        left
        rw [gup_same, h1]
      · rw [gup_ne ha]
        by_cases hb : a = q
        · subst hb
          right
          rw [gup_ne ha] at hq
          exact hq
        · left
          exact (h8 a ha hb).symm
    · obtain ⟨u, v, kk, e, z1, z2, z3, z4⟩ := h2
      exact ⟨u, v, kk, e, z1, z2, z3, by omega⟩

abbrev s_qis_below : Stmt := topS 28
abbrev N_qis_below : List Str := ["_law_one", "_law_other", "_law_first", "_law_second"]
theorem sc_qis_below : FnScope N_qis_below ["_law_one", "_law_other"] (defScope s_qis_below) := ⟨rfl, rfl, rfl, by decide +kernel, rfl, by decide +kernel, by decide +kernel⟩
abbrev sp_qis_below : SpD :=
  sp2 fun a b g P => ∃ xs ys, a = tI xs ∧ b = tI ys ∧ xs.length ≤ 9 ∧ ys.length ≤ 9 ∧ P (.bl (belowB xs ys)) g
theorem ok_qis_below {P : Program} {w : World} {K : Fg} {mg : Str → Option Value} {base : Heap} {t_MAX_PLACE t_MAX_STEP t_MOST_LAST t_MOST_MOST : Tok} {f : Addr} {fd : FuncData} (D : Dfn K mg "_law_is_below" s_qis_below ["_law_one", "_law_other"] f fd) (T : Txt K mg t_MAX_PLACE t_MAX_STEP t_MOST_LAST t_MOST_MOST) :
    FnOk P w K mg base CX0 1 f fd ["_law_one", "_law_other"] (upSp K sp_qis_below) := by
  refine fun_okD D.fn sc_qis_below (fun ds g Q h => len2 h) (fun cdv A outer s H E hr => ⟨_, (pds_one (pds_ret (pd_and (pd_cmp op_ge (RefCmp.op ref_cmp) (pd_callB call_len_seq ref_len T.b_len (by decide +kernel) (pda_cons (pdv 0) pda_nil)) (pd_callB call_len_seq ref_len T.b_len (by decide +kernel) (pda_cons (pdv 1) pda_nil)) (nomark _)) (pd_one (pd_cmp (op_eqD hr.units) (RefCmp.op ref_eq) (pd_lc (own := [("_law_first", 2), ("_law_second", 3)]) (tg := .tp [2, 3]) rfl sc_qis_below.nd (pid_zip T.b_zip (pda_cons (pdv 0) (pda_cons (pdv 1) pda_nil))) (blkOk_by (own := [("_law_first", 2), ("_law_second", 3)]) (N := N_qis_below) (sc := defScope s_qis_below) (by decide +kernel)) (fun _ _ _ _ _ => (pgd_tp (is := [2, 3]) rfl (pgd_cons (i := 2) (pgd_nm (i := 2) sc_qis_below.nd) (pgd_cons (i := 3) (pgd_nm (i := 3) sc_qis_below.nd) pgd_nil)))) (fun _ _ _ _ _ => (ptsd_one (pt_cmpD op_gt (RefCmp.op ref_cmp) (pdv 2) (pdv 3) (nomark _)))) (fun _ _ _ _ _ => pd_int)) (pd_lst pda_nil) (nomark _)))))), ?_⟩)
  intro ds g Q h
  obtain ⟨a0, a1, rfl, h⟩ := sp2_of h
  rw [show startD N_qis_below [a0, a1] = [some a0, some a1, none, none] from rfl]
  obtain ⟨xs, ys, e1, e2, hx, hy, k⟩ := h
  subst e1 e2
  have hz : (zipD (xs.map DV.int) (ys.map DV.int)).length ≤ 16777216 := by
    rw [zipD_len, List.length_map, List.length_map]
    omega
  (repeat (first | (with_reducible first | refine rd_seq ?_ | refine rd_seqE ?_ | refine rd_next ?_ | refine rd_rtE ?_ | refine rd_nxE ?_ | refine rd_nx ?_ | refine rd_rt ?_ | refine rd_ct ?_ | refine rd_bk ?_ | refine rd_drop ?_ | refine rd_ret ?_ | refine rd_retN ?_ | refine rd_dif ?_ | refine rd_asg ?_ | refine rd_par ?_ | refine rd_for ?_ | refine rd_break ?_ | refine rd_cont ?_ | refine rd_c ?_ | refine rd_op ?_ | refine rd_un ?_ | refine rd_b ?_ | refine rd_bK ?_ | refine rd_tru ?_ | refine rd_tKb ?_ | refine rd_and ?_ | refine rd_or ?_ | refine rd_not ?_ | refine rd_andV ?_ | refine rd_orV ?_ | refine rd_notV ?_ | refine rd_tvKb ?_ | refine rd_ifE ?_ | refine rd_nil ?_ | refine rd_cons ?_ | refine rd_tup ?_ | refine rd_lst ?_ | refine rd_lstM ?_ | refine rd_cb ?_ | refine rd_call ?_ | refine rd_sp0 ?_ | refine rd_sp1 ?_ | refine rd_sp2 ?_ | refine rd_sp3 ?_ | refine rd_int ?_ | refine rd_intb ?_ | refine rd_abs ?_ | refine rd_ii ?_ | refine rd_add ?_ | refine rd_sub ?_ | refine rd_addI ?_ | refine rd_cmp ?_ | refine rd_setI ?_ | refine rd_mt ?_ | refine rd_lc ?_ | refine rd_lcM ?_ | refine rd_yes ?_ | refine rd_wseq ?_ | refine rd_wsT ?_ | refine rd_wsL ?_ | refine rd_wsS ?_ | refine rd_wzip ?_ | refine rd_zipT ?_ | refine rd_rng1 ?_ | refine rd_rng2 ?_ | refine rd_sl ?_ | refine rd_slT ?_ | refine rd_slL ?_ | refine rd_slS ?_ | refine rd_nopart ?_ | refine rd_part ?_ | refine rd_ptK ?_ | refine rd_star ?_ | refine rd_ss ?_ | refine rd_itet ?_ | refine rd_itef ?_ | refine rd_itnt ?_ | refine rd_itnf ?_) | ((with_reducible apply rd_var); (· exact rfl)) | ((with_reducible apply rd_asgK); (· exact rfl)) | ((with_reducible apply rd_parK); (· exact rfl)) | ((with_reducible apply rd_len); (· (first | assumption | exact seqD_ref (by assumption) | exact seqD_up | exact lstD_ref (by assumption) | exact lstD_up | rfl))) | ((with_reducible apply rd_tuple); (· (first | assumption | exact seqD_ref (by assumption) | exact seqD_up | exact lstD_ref (by assumption) | exact lstD_up | rfl))) | ((with_reducible apply rd_list); (· (first | assumption | exact seqD_ref (by assumption) | exact seqD_up | exact lstD_ref (by assumption) | exact lstD_up | rfl))) | ((with_reducible apply rd_stK); (· (first | assumption | exact seqD_ref (by assumption) | exact seqD_up | exact lstD_ref (by assumption) | exact lstD_up | rfl))) | ((with_reducible apply rd_ix); (· (first | assumption | exact seqD_ref (by assumption) | exact seqD_up | exact lstD_ref (by assumption) | exact lstD_up | rfl)); (· (first | exact atI_c0 _ _ | exact atI_c1 _ _ _ | exact atI_c2 _ _ _ _ | assumption | rfl))) | ((with_reducible apply rd_set30); (· (first | assumption | exact gup_same))) | ((with_reducible apply rd_set32); (· (first | assumption | exact gup_same))) | ((with_reducible apply rd_some); (· (first | assumption | exact seqD_ref (by assumption) | exact seqD_up | exact lstD_ref (by assumption) | exact lstD_up | rfl)))))
  refine rd_iteb (fun c => ?_) (fun c => ?_)
  · (repeat (first | (with_reducible first | refine rd_seq ?_ | refine rd_seqE ?_ | refine rd_next ?_ | refine rd_rtE ?_ | refine rd_nxE ?_ | refine rd_nx ?_ | refine rd_rt ?_ | refine rd_ct ?_ | refine rd_bk ?_ | refine rd_drop ?_ | refine rd_ret ?_ | refine rd_retN ?_ | refine rd_dif ?_ | refine rd_asg ?_ | refine rd_par ?_ | refine rd_for ?_ | refine rd_break ?_ | refine rd_cont ?_ | refine rd_c ?_ | refine rd_op ?_ | refine rd_un ?_ | refine rd_b ?_ | refine rd_bK ?_ | refine rd_tru ?_ | refine rd_tKb ?_ | refine rd_and ?_ | refine rd_or ?_ | refine rd_not ?_ | refine rd_andV ?_ | refine rd_orV ?_ | refine rd_notV ?_ | refine rd_tvKb ?_ | refine rd_ifE ?_ | refine rd_nil ?_ | refine rd_cons ?_ | refine rd_tup ?_ | refine rd_lst ?_ | refine rd_lstM ?_ | refine rd_cb ?_ | refine rd_call ?_ | refine rd_sp0 ?_ | refine rd_sp1 ?_ | refine rd_sp2 ?_ | refine rd_sp3 ?_ | refine rd_int ?_ | refine rd_intb ?_ | refine rd_abs ?_ | refine rd_ii ?_ | refine rd_add ?_ | refine rd_sub ?_ | refine rd_addI ?_ | refine rd_cmp ?_ | refine rd_setI ?_ | refine rd_mt ?_ | refine rd_lc ?_ | refine rd_lcM ?_ | refine rd_yes ?_ | refine rd_wseq ?_ | refine rd_wsT ?_ | refine rd_wsL ?_ | refine rd_wsS ?_ | refine rd_wzip ?_ | refine rd_zipT ?_ | refine rd_rng1 ?_ | refine rd_rng2 ?_ | refine rd_sl ?_ | refine rd_slT ?_ | refine rd_slL ?_ | refine rd_slS ?_ | refine rd_nopart ?_ | refine rd_part ?_ | refine rd_ptK ?_ | refine rd_star ?_ | refine rd_ss ?_ | refine rd_itet ?_ | refine rd_itef ?_ | refine rd_itnt ?_ | refine rd_itnf ?_) | ((with_reducible apply rd_var); (· exact rfl)) | ((with_reducible apply rd_asgK); (· exact rfl)) | ((with_reducible apply rd_parK); (· exact rfl)) | ((with_reducible apply rd_len); (· (first | assumption | exact seqD_ref (by assumption) | exact seqD_up | exact lstD_ref (by assumption) | exact lstD_up | rfl))) | ((with_reducible apply rd_tuple); (· (first | assumption | exact seqD_ref (by assumption) | exact seqD_up | exact lstD_ref (by assumption) | exact lstD_up | rfl))) | ((with_reducible apply rd_list); (· (first | assumption | exact seqD_ref (by assumption) | exact seqD_up | exact lstD_ref (by assumption) | exact lstD_up | rfl))) | ((with_reducible apply rd_stK); (· (first | assumption | exact seqD_ref (by assumption) | exact seqD_up | exact lstD_ref (by assumption) | exact lstD_up | rfl))) | ((with_reducible apply rd_ix); (· (first | assumption | exact seqD_ref (by assumption) | exact seqD_up | exact lstD_ref (by assumption) | exact lstD_up | rfl)); (· (first | exact atI_c0 _ _ | exact atI_c1 _ _ _ | exact atI_c2 _ _ _ _ | assumption | rfl))) | ((with_reducible apply rd_set30); (· (first | assumption | exact gup_same))) | ((with_reducible apply rd_set32); (· (first | assumption | exact gup_same))) | ((with_reducible apply rd_some); (· (first | assumption | exact seqD_ref (by assumption) | exact seqD_up | exact lstD_ref (by assumption) | exact lstD_up | rfl)))))
    refine rd_zK hz (comp_fil (p := gtD) (f := fun _ => .int 1) (fun d hd => ?_) ?_)
    · rw [zip_ints] at hd
      obtain ⟨p, _, e⟩ := List.mem_map.mp hd
      subst e
      refine ⟨_, rfl, fun Q' h' => ?_, fun _ Q2 h2 => ?_⟩
      · (repeat (first | (with_reducible first | refine rd_seq ?_ | refine rd_seqE ?_ | refine rd_next ?_ | refine rd_rtE ?_ | refine rd_nxE ?_ | refine rd_nx ?_ | refine rd_rt ?_ | refine rd_ct ?_ | refine rd_bk ?_ | refine rd_drop ?_ | refine rd_ret ?_ | refine rd_retN ?_ | refine rd_dif ?_ | refine rd_asg ?_ | refine rd_par ?_ | refine rd_for ?_ | refine rd_break ?_ | refine rd_cont ?_ | refine rd_c ?_ | refine rd_op ?_ | refine rd_un ?_ | refine rd_b ?_ | refine rd_bK ?_ | refine rd_tru ?_ | refine rd_tKb ?_ | refine rd_and ?_ | refine rd_or ?_ | refine rd_not ?_ | refine rd_andV ?_ | refine rd_orV ?_ | refine rd_notV ?_ | refine rd_tvKb ?_ | refine rd_ifE ?_ | refine rd_nil ?_ | refine rd_cons ?_ | refine rd_tup ?_ | refine rd_lst ?_ | refine rd_lstM ?_ | refine rd_cb ?_ | refine rd_call ?_ | refine rd_sp0 ?_ | refine rd_sp1 ?_ | refine rd_sp2 ?_ | refine rd_sp3 ?_ | refine rd_int ?_ | refine rd_intb ?_ | refine rd_abs ?_ | refine rd_ii ?_ | refine rd_add ?_ | refine rd_sub ?_ | refine rd_addI ?_ | refine rd_cmp ?_ | refine rd_setI ?_ | refine rd_mt ?_ | refine rd_lc ?_ | refine rd_lcM ?_ | refine rd_yes ?_ | refine rd_wseq ?_ | refine rd_wsT ?_ | refine rd_wsL ?_ | refine rd_wsS ?_ | refine rd_wzip ?_ | refine rd_zipT ?_ | refine rd_rng1 ?_ | refine rd_rng2 ?_ | refine rd_sl ?_ | refine rd_slT ?_ | refine rd_slL ?_ | refine rd_slS ?_ | refine rd_nopart ?_ | refine rd_part ?_ | refine rd_ptK ?_ | refine rd_star ?_ | refine rd_ss ?_ | refine rd_itet ?_ | refine rd_itef ?_ | refine rd_itnt ?_ | refine rd_itnf ?_) | ((with_reducible apply rd_var); (· exact rfl)) | ((with_reducible apply rd_asgK); (· exact rfl)) | ((with_reducible apply rd_parK); (· exact rfl)) | ((with_reducible apply rd_len); (· (first | assumption | exact seqD_ref (by assumption) | exact seqD_up | exact lstD_ref (by assumption) | exact lstD_up | rfl))) | ((with_reducible apply rd_tuple); (· (first | assumption | exact seqD_ref (by assumption) | exact seqD_up | exact lstD_ref (by assumption) | exact lstD_up | rfl))) | ((with_reducible apply rd_list); (· (first | assumption | exact seqD_ref (by assumption) | exact seqD_up | exact lstD_ref (by assumption) | exact lstD_up | rfl))) | ((with_reducible apply rd_stK); (· (first | assumption | exact seqD_ref (by assumption) | exact seqD_up | exact lstD_ref (by assumption) | exact lstD_up | rfl))) | ((with_reducible apply rd_ix); (· (first | assumption | exact seqD_ref (by assumption) | exact seqD_up | exact lstD_ref (by assumption) | exact lstD_up | rfl)); (· (first | exact atI_c0 _ _ | exact atI_c1 _ _ _ | exact atI_c2 _ _ _ _ | assumption | rfl))) | ((with_reducible apply rd_set30); (· (first | assumption | exact gup_same))) | ((with_reducible apply rd_set32); (· (first | assumption | exact gup_same))) | ((with_reducible apply rd_some); (· (first | assumption | exact seqD_ref (by assumption) | exact seqD_up | exact lstD_ref (by assumption) | exact lstD_up | rfl)))))
        exact h'
      · (repeat (first | (with_reducible first | refine rd_seq ?_ | refine rd_seqE ?_ | refine rd_next ?_ | refine rd_rtE ?_ | refine rd_nxE ?_ | refine rd_nx ?_ | refine rd_rt ?_ | refine rd_ct ?_ | refine rd_bk ?_ | refine rd_drop ?_ | refine rd_ret ?_ | refine rd_retN ?_ | refine rd_dif ?_ | refine rd_asg ?_ | refine rd_par ?_ | refine rd_for ?_ | refine rd_break ?_ | refine rd_cont ?_ | refine rd_c ?_ | refine rd_op ?_ | refine rd_un ?_ | refine rd_b ?_ | refine rd_bK ?_ | refine rd_tru ?_ | refine rd_tKb ?_ | refine rd_and ?_ | refine rd_or ?_ | refine rd_not ?_ | refine rd_andV ?_ | refine rd_orV ?_ | refine rd_notV ?_ | refine rd_tvKb ?_ | refine rd_ifE ?_ | refine rd_nil ?_ | refine rd_cons ?_ | refine rd_tup ?_ | refine rd_lst ?_ | refine rd_lstM ?_ | refine rd_cb ?_ | refine rd_call ?_ | refine rd_sp0 ?_ | refine rd_sp1 ?_ | refine rd_sp2 ?_ | refine rd_sp3 ?_ | refine rd_int ?_ | refine rd_intb ?_ | refine rd_abs ?_ | refine rd_ii ?_ | refine rd_add ?_ | refine rd_sub ?_ | refine rd_addI ?_ | refine rd_cmp ?_ | refine rd_setI ?_ | refine rd_mt ?_ | refine rd_lc ?_ | refine rd_lcM ?_ | refine rd_yes ?_ | refine rd_wseq ?_ | refine rd_wsT ?_ | refine rd_wsL ?_ | refine rd_wsS ?_ | refine rd_wzip ?_ | refine rd_zipT ?_ | refine rd_rng1 ?_ | refine rd_rng2 ?_ | refine rd_sl ?_ | refine rd_slT ?_ | refine rd_slL ?_ | refine rd_slS ?_ | refine rd_nopart ?_ | refine rd_part ?_ | refine rd_ptK ?_ | refine rd_star ?_ | refine rd_ss ?_ | refine rd_itet ?_ | refine rd_itef ?_ | refine rd_itnt ?_ | refine rd_itnf ?_) | ((with_reducible apply rd_var); (· exact rfl)) | ((with_reducible apply rd_asgK); (· exact rfl)) | ((with_reducible apply rd_parK); (· exact rfl)) | ((with_reducible apply rd_len); (· (first | assumption | exact seqD_ref (by assumption) | exact seqD_up | exact lstD_ref (by assumption) | exact lstD_up | rfl))) | ((with_reducible apply rd_tuple); (· (first | assumption | exact seqD_ref (by assumption) | exact seqD_up | exact lstD_ref (by assumption) | exact lstD_up | rfl))) | ((with_reducible apply rd_list); (· (first | assumption | exact seqD_ref (by assumption) | exact seqD_up | exact lstD_ref (by assumption) | exact lstD_up | rfl))) | ((with_reducible apply rd_stK); (· (first | assumption | exact seqD_ref (by assumption) | exact seqD_up | exact lstD_ref (by assumption) | exact lstD_up | rfl))) | ((with_reducible apply rd_ix); (· (first | assumption | exact seqD_ref (by assumption) | exact seqD_up | exact lstD_ref (by assumption) | exact lstD_up | rfl)); (· (first | exact atI_c0 _ _ | exact atI_c1 _ _ _ | exact atI_c2 _ _ _ _ | assumption | rfl))) | ((with_reducible apply rd_set30); (· (first | assumption | exact gup_same))) | ((with_reducible apply rd_set32); (· (first | assumption | exact gup_same))) | ((with_reducible apply rd_some); (· (first | assumption | exact seqD_ref (by assumption) | exact seqD_up | exact lstD_ref (by assumption) | exact lstD_up | rfl)))))
        exact h2
    · rw [zip_gtD]
      (repeat (first | (with_reducible first | refine rd_seq ?_ | refine rd_seqE ?_ | refine rd_next ?_ | refine rd_rtE ?_ | refine rd_nxE ?_ | refine rd_nx ?_ | refine rd_rt ?_ | refine rd_ct ?_ | refine rd_bk ?_ | refine rd_drop ?_ | refine rd_ret ?_ | refine rd_retN ?_ | refine rd_dif ?_ | refine rd_asg ?_ | refine rd_par ?_ | refine rd_for ?_ | refine rd_break ?_ | refine rd_cont ?_ | refine rd_c ?_ | refine rd_op ?_ | refine rd_un ?_ | refine rd_b ?_ | refine rd_bK ?_ | refine rd_tru ?_ | refine rd_tKb ?_ | refine rd_and ?_ | refine rd_or ?_ | refine rd_not ?_ | refine rd_andV ?_ | refine rd_orV ?_ | refine rd_notV ?_ | refine rd_tvKb ?_ | refine rd_ifE ?_ | refine rd_nil ?_ | refine rd_cons ?_ | refine rd_tup ?_ | refine rd_lst ?_ | refine rd_lstM ?_ | refine rd_cb ?_ | refine rd_call ?_ | refine rd_sp0 ?_ | refine rd_sp1 ?_ | refine rd_sp2 ?_ | refine rd_sp3 ?_ | refine rd_int ?_ | refine rd_intb ?_ | refine rd_abs ?_ | refine rd_ii ?_ | refine rd_add ?_ | refine rd_sub ?_ | refine rd_addI ?_ | refine rd_cmp ?_ | refine rd_setI ?_ | refine rd_mt ?_ | refine rd_lc ?_ | refine rd_lcM ?_ | refine rd_yes ?_ | refine rd_wseq ?_ | refine rd_wsT ?_ | refine rd_wsL ?_ | refine rd_wsS ?_ | refine rd_wzip ?_ | refine rd_zipT ?_ | refine rd_rng1 ?_ | refine rd_rng2 ?_ | refine rd_sl ?_ | refine rd_slT ?_ | refine rd_slL ?_ | refine rd_slS ?_ | refine rd_nopart ?_ | refine rd_part ?_ | refine rd_ptK ?_ | refine rd_star ?_ | refine rd_ss ?_ | refine rd_itet ?_ | refine rd_itef ?_ | refine rd_itnt ?_ | refine rd_itnf ?_) | ((with_reducible apply rd_var); (· exact rfl)) | ((with_reducible apply rd_asgK); (· exact rfl)) | ((with_reducible apply rd_parK); (· exact rfl)) | ((with_reducible apply rd_len); (· (first | assumption | exact seqD_ref (by assumption) | exact seqD_up | exact lstD_ref (by assumption) | exact lstD_up | rfl))) | ((with_reducible apply rd_tuple); (· (first | assumption | exact seqD_ref (by assumption) | exact seqD_up | exact lstD_ref (by assumption) | exact lstD_up | rfl))) | ((with_reducible apply rd_list); (· (first | assumption | exact seqD_ref (by assumption) | exact seqD_up | exact lstD_ref (by assumption) | exact lstD_up | rfl))) | ((with_reducible apply rd_stK); (· (first | assumption | exact seqD_ref (by assumption) | exact seqD_up | exact lstD_ref (by assumption) | exact lstD_up | rfl))) | ((with_reducible apply rd_ix); (· (first | assumption | exact seqD_ref (by assumption) | exact seqD_up | exact lstD_ref (by assumption) | exact lstD_up | rfl)); (· (first | exact atI_c0 _ _ | exact atI_c1 _ _ _ | exact atI_c2 _ _ _ _ | assumption | rfl))) | ((with_reducible apply rd_set30); (· (first | assumption | exact gup_same))) | ((with_reducible apply rd_set32); (· (first | assumption | exact gup_same))) | ((with_reducible apply rd_some); (· (first | assumption | exact seqD_ref (by assumption) | exact seqD_up | exact lstD_ref (by assumption) | exact lstD_up | rfl)))))
      refine rd_zK (by show 0 ≤ 16777216; decide) ?_
      refine rd_eq (okD_lI _) (okD_lI []) ?_
      rw [show (DV.lst []) = .lst (([] : List Int).map DV.int) from rfl, eqD_lI, overs_nil]
      (repeat (first | (with_reducible first | refine rd_seq ?_ | refine rd_seqE ?_ | refine rd_next ?_ | refine rd_rtE ?_ | refine rd_nxE ?_ | refine rd_nx ?_ | refine rd_rt ?_ | refine rd_ct ?_ | refine rd_bk ?_ | refine rd_drop ?_ | refine rd_ret ?_ | refine rd_retN ?_ | refine rd_dif ?_ | refine rd_asg ?_ | refine rd_par ?_ | refine rd_for ?_ | refine rd_break ?_ | refine rd_cont ?_ | refine rd_c ?_ | refine rd_op ?_ | refine rd_un ?_ | refine rd_b ?_ | refine rd_bK ?_ | refine rd_tru ?_ | refine rd_tKb ?_ | refine rd_and ?_ | refine rd_or ?_ | refine rd_not ?_ | refine rd_andV ?_ | refine rd_orV ?_ | refine rd_notV ?_ | refine rd_tvKb ?_ | refine rd_ifE ?_ | refine rd_nil ?_ | refine rd_cons ?_ | refine rd_tup ?_ | refine rd_lst ?_ | refine rd_lstM ?_ | refine rd_cb ?_ | refine rd_call ?_ | refine rd_sp0 ?_ | refine rd_sp1 ?_ | refine rd_sp2 ?_ | refine rd_sp3 ?_ | refine rd_int ?_ | refine rd_intb ?_ | refine rd_abs ?_ | refine rd_ii ?_ | refine rd_add ?_ | refine rd_sub ?_ | refine rd_addI ?_ | refine rd_cmp ?_ | refine rd_setI ?_ | refine rd_mt ?_ | refine rd_lc ?_ | refine rd_lcM ?_ | refine rd_yes ?_ | refine rd_wseq ?_ | refine rd_wsT ?_ | refine rd_wsL ?_ | refine rd_wsS ?_ | refine rd_wzip ?_ | refine rd_zipT ?_ | refine rd_rng1 ?_ | refine rd_rng2 ?_ | refine rd_sl ?_ | refine rd_slT ?_ | refine rd_slL ?_ | refine rd_slS ?_ | refine rd_nopart ?_ | refine rd_part ?_ | refine rd_ptK ?_ | refine rd_star ?_ | refine rd_ss ?_ | refine rd_itet ?_ | refine rd_itef ?_ | refine rd_itnt ?_ | refine rd_itnf ?_) | ((with_reducible apply rd_var); (· exact rfl)) | ((with_reducible apply rd_asgK); (· exact rfl)) | ((with_reducible apply rd_parK); (· exact rfl)) | ((with_reducible apply rd_len); (· (first | assumption | exact seqD_ref (by assumption) | exact seqD_up | exact lstD_ref (by assumption) | exact lstD_up | rfl))) | ((with_reducible apply rd_tuple); (· (first | assumption | exact seqD_ref (by assumption) | exact seqD_up | exact lstD_ref (by assumption) | exact lstD_up | rfl))) | ((with_reducible apply rd_list); (· (first | assumption | exact seqD_ref (by assumption) | exact seqD_up | exact lstD_ref (by assumption) | exact lstD_up | rfl))) | ((with_reducible apply rd_stK); (· (first | assumption | exact seqD_ref (by assumption) | exact seqD_up | exact lstD_ref (by assumption) | exact lstD_up | rfl))) | ((with_reducible apply rd_ix); (· (first | assumption | exact seqD_ref (by assumption) | exact seqD_up | exact lstD_ref (by assumption) | exact lstD_up | rfl)); (· (first | exact atI_c0 _ _ | exact atI_c1 _ _ _ | exact atI_c2 _ _ _ _ | assumption | rfl))) | ((with_reducible apply rd_set30); (· (first | assumption | exact gup_same))) | ((with_reducible apply rd_set32); (· (first | assumption | exact gup_same))) | ((with_reducible apply rd_some); (· (first | assumption | exact seqD_ref (by assumption) | exact seqD_up | exact lstD_ref (by assumption) | exact lstD_up | rfl)))))
      refine dret ?_
      unfold belowB at k
      rw [decide_eq_true (by simpa using c)] at k
      exact k
  · (repeat (first | (with_reducible first | refine rd_seq ?_ | refine rd_seqE ?_ | refine rd_next ?_ | refine rd_rtE ?_ | refine rd_nxE ?_ | refine rd_nx ?_ | refine rd_rt ?_ | refine rd_ct ?_ | refine rd_bk ?_ | refine rd_drop ?_ | refine rd_ret ?_ | refine rd_retN ?_ | refine rd_dif ?_ | refine rd_asg ?_ | refine rd_par ?_ | refine rd_for ?_ | refine rd_break ?_ | refine rd_cont ?_ | refine rd_c ?_ | refine rd_op ?_ | refine rd_un ?_ | refine rd_b ?_ | refine rd_bK ?_ | refine rd_tru ?_ | refine rd_tKb ?_ | refine rd_and ?_ | refine rd_or ?_ | refine rd_not ?_ | refine rd_andV ?_ | refine rd_orV ?_ | refine rd_notV ?_ | refine rd_tvKb ?_ | refine rd_ifE ?_ | refine rd_nil ?_ | refine rd_cons ?_ | refine rd_tup ?_ | refine rd_lst ?_ | refine rd_lstM ?_ | refine rd_cb ?_ | refine rd_call ?_ | refine rd_sp0 ?_ | refine rd_sp1 ?_ | refine rd_sp2 ?_ | refine rd_sp3 ?_ | refine rd_int ?_ | refine rd_intb ?_ | refine rd_abs ?_ | refine rd_ii ?_ | refine rd_add ?_ | refine rd_sub ?_ | refine rd_addI ?_ | refine rd_cmp ?_ | refine rd_setI ?_ | refine rd_mt ?_ | refine rd_lc ?_ | refine rd_lcM ?_ | refine rd_yes ?_ | refine rd_wseq ?_ | refine rd_wsT ?_ | refine rd_wsL ?_ | refine rd_wsS ?_ | refine rd_wzip ?_ | refine rd_zipT ?_ | refine rd_rng1 ?_ | refine rd_rng2 ?_ | refine rd_sl ?_ | refine rd_slT ?_ | refine rd_slL ?_ | refine rd_slS ?_ | refine rd_nopart ?_ | refine rd_part ?_ | refine rd_ptK ?_ | refine rd_star ?_ | refine rd_ss ?_ | refine rd_itet ?_ | refine rd_itef ?_ | refine rd_itnt ?_ | refine rd_itnf ?_) | ((with_reducible apply rd_var); (· exact rfl)) | ((with_reducible apply rd_asgK); (· exact rfl)) | ((with_reducible apply rd_parK); (· exact rfl)) | ((with_reducible apply rd_len); (· (first | assumption | exact seqD_ref (by assumption) | exact seqD_up | exact lstD_ref (by assumption) | exact lstD_up | rfl))) | ((with_reducible apply rd_tuple); (· (first | assumption | exact seqD_ref (by assumption) | exact seqD_up | exact lstD_ref (by assumption) | exact lstD_up | rfl))) | ((with_reducible apply rd_list); (· (first | assumption | exact seqD_ref (by assumption) | exact seqD_up | exact lstD_ref (by assumption) | exact lstD_up | rfl))) | ((with_reducible apply rd_stK); (· (first | assumption | exact seqD_ref (by assumption) | exact seqD_up | exact lstD_ref (by assumption) | exact lstD_up | rfl))) | ((with_reducible apply rd_ix); (· (first | assumption | exact seqD_ref (by assumption) | exact seqD_up | exact lstD_ref (by assumption) | exact lstD_up | rfl)); (· (first | exact atI_c0 _ _ | exact atI_c1 _ _ _ | exact atI_c2 _ _ _ _ | assumption | rfl))) | ((with_reducible apply rd_set30); (· (first | assumption | exact gup_same))) | ((with_reducible apply rd_set32); (· (first | assumption | exact gup_same))) | ((with_reducible apply rd_some); (· (first | assumption | exact seqD_ref (by assumption) | exact seqD_up | exact lstD_ref (by assumption) | exact lstD_up | rfl)))))
    refine dret ?_
    unfold belowB at k
    rw [decide_eq_false (by simpa using c)] at k
    rw [c]
    exact k

abbrev s_qright : Stmt := topS 29
abbrev N_qright : List Str := ["_law_pot_here", "_law_most", "_law_some", "_law_one", "_law_other", "_law_third", "_law_lower", "_law_upper"]
theorem sc_qright : FnScope N_qright ["_law_pot_here"] (defScope s_qright) := ⟨rfl, rfl, rfl, by decide +kernel, rfl, by decide +kernel, by decide +kernel⟩
abbrev sp_qright : SpD :=
  sp1 fun a g P => ∃ p n L, a = .ref p ∧ g p = some (.lst L) ∧ PotL n L ∧ n ≤ 80000 ∧ ∀ L', PotL (n + 16) L' → P (.bl true) (gup g p (.lst L'))
theorem ok_qright {P : Program} {w : World} {K : Fg} {mg : Str → Option Value} {base : Heap} {t_MAX_PLACE t_MAX_STEP t_MOST_LAST t_MOST_MOST : Tok} {f f_pure_degrees f_qis_below f_is_below f_upper_of f_lower_of f_qdegrees f_qpick : Addr} {fd d_pure_degrees d_qis_below d_is_below d_upper_of d_lower_of d_qdegrees d_qpick : FuncData} (D : Dfn K mg "_law_right" s_qright ["_law_pot_here"] f fd) (T : Txt K mg t_MAX_PLACE t_MAX_STEP t_MOST_LAST t_MOST_MOST) (D_pure_degrees : Dfn K mg "pure_degrees" s_pure_degrees ["last", "most"] f_pure_degrees d_pure_degrees) (G_pure_degrees : FnOk P w K mg base CX0 4 f_pure_degrees d_pure_degrees ["last", "most"] (upSp K sp_pure_degrees)) (D_qis_below : Dfn K mg "_law_is_below" s_qis_below ["_law_one", "_law_other"] f_qis_below d_qis_below) (G_qis_below : FnOk P w K mg base CX0 1 f_qis_below d_qis_below ["_law_one", "_law_other"] (upSp K sp_qis_below)) (D_is_below : Dfn K mg "is_below" s_is_below ["value", "other"] f_is_below d_is_below) (G_is_below : FnOk P w K mg base CX0 5 f_is_below d_is_below ["value", "other"] (upSp K sp_is_below)) (D_upper_of : Dfn K mg "upper_of" s_upper_of ["one", "other"] f_upper_of d_upper_of) (G_upper_of : FnOk P w K mg base CX0 6 f_upper_of d_upper_of ["one", "other"] (upSp K sp_upper_of)) (D_lower_of : Dfn K mg "lower_of" s_lower_of ["one", "other"] f_lower_of d_lower_of) (G_lower_of : FnOk P w K mg base CX0 6 f_lower_of d_lower_of ["one", "other"] (upSp K sp_lower_of)) (D_qdegrees : Dfn K mg "_law_degrees" s_qdegrees ["_law_pot_here", "_law_most"] f_qdegrees d_qdegrees) (G_qdegrees : FnOk P w K mg base CX0 2 f_qdegrees d_qdegrees ["_law_pot_here", "_law_most"] (upSp K sp_qdegrees)) (D_qpick : Dfn K mg "_law_pick" s_qpick ["_law_pot_here", "_law_items"] f_qpick d_qpick) (G_qpick : FnOk P w K mg base CX0 2 f_qpick d_qpick ["_law_pot_here", "_law_items"] (upSp K sp_qpick)) :
    FnOk P w K mg base CX0 7 f fd ["_law_pot_here"] (upSp K sp_qright) := by
  refine fun_okD D.fn sc_qright (fun ds g Q h => len1 h) (fun cdv A outer s H E hr => ⟨_, (pds_cons (pds_set (i := 1) sc_qright.nd (pd_call G_qpick (hr.mono (by decide)) D_qpick.at_ D_qpick.fn.kp D_qpick.bd pass0 (pda_cons (pdv 0) (pda_cons (pd_lst (pda_cons pd_int (pda_cons pd_int (pda_cons pd_int (pda_cons pd_int pda_nil))))) pda_nil)))) (pds_cons (pds_par3 (i := 3) (j := 4) (l := 5) rfl sc_qright.nd (pda_cons (pd_call G_qdegrees (hr.mono (by decide)) D_qdegrees.at_ D_qdegrees.fn.kp D_qdegrees.bd pass0 (pda_cons (pdv 0) (pda_cons (pdv 1) pda_nil))) (pda_cons (pd_call G_qdegrees (hr.mono (by decide)) D_qdegrees.at_ D_qdegrees.fn.kp D_qdegrees.bd pass0 (pda_cons (pdv 0) (pda_cons (pdv 1) pda_nil))) (pda_cons (pd_call G_qdegrees (hr.mono (by decide)) D_qdegrees.at_ D_qdegrees.fn.kp D_qdegrees.bd pass0 (pda_cons (pdv 0) (pda_cons (pdv 1) pda_nil))) pda_nil)))) (pds_cons (pds_par (i := 6) (j := 7) rfl sc_qright.nd (pda_cons (pd_call G_lower_of (hr.mono (by decide)) D_lower_of.at_ D_lower_of.fn.kp D_lower_of.bd pass0 (pda_cons (pdv 3) (pda_cons (pdv 4) pda_nil))) (pda_cons (pd_call G_upper_of (hr.mono (by decide)) D_upper_of.at_ D_upper_of.fn.kp D_upper_of.bd pass0 (pda_cons (pdv 3) (pda_cons (pdv 4) pda_nil))) pda_nil))) (pds_cons (pds_if (pwd_pt (pwd_or (pt_cmpD (op_neD hr.units) (RefCmp.op ref_ne) (pd_callB call_len_seq ref_len T.b_len (by decide +kernel) (pda_cons (pdv 6) pda_nil)) (pd_callB (call_max2 rfl) ref_II T.b_max (by decide +kernel) (pda_cons (pd_callB call_len_seq ref_len T.b_len (by decide +kernel) (pda_cons (pdv 3) pda_nil)) (pda_cons (pd_callB call_len_seq ref_len T.b_len (by decide +kernel) (pda_cons (pdv 4) pda_nil)) pda_nil))) (nomark _)) (pwd_or1 (pt_cmpD (op_neD hr.units) (RefCmp.op ref_ne) (pd_callB call_len_seq ref_len T.b_len (by decide +kernel) (pda_cons (pdv 7) pda_nil)) (pd_callB (call_min2 rfl) ref_II T.b_min (by decide +kernel) (pda_cons (pd_callB call_len_seq ref_len T.b_len (by decide +kernel) (pda_cons (pdv 3) pda_nil)) (pda_cons (pd_callB call_len_seq ref_len T.b_len (by decide +kernel) (pda_cons (pdv 4) pda_nil)) pda_nil))) (nomark _))))) (pds_one (pds_ret pd_bl)) pds_nil) (pds_cons (pds_for (tg := .nm 2) PassesOwn.never rfl (pid_seq (pd_tup (pda_cons (pdv 3) (pda_cons (pdv 4) pda_nil)))) (pgd_nm (i := 2) sc_qright.nd) (pds_one (pds_if (pwd_pt (pwd_or (pt_notD (pt_truD (pd_call G_qis_below (hr.mono (by decide)) D_qis_below.at_ D_qis_below.fn.kp D_qis_below.bd pass0 (pda_cons (pdv 6) (pda_cons (pdv 2) pda_nil))))) (pwd_or (pt_notD (pt_truD (pd_call G_qis_below (hr.mono (by decide)) D_qis_below.at_ D_qis_below.fn.kp D_qis_below.bd pass0 (pda_cons (pdv 2) (pda_cons (pdv 7) pda_nil))))) (pwd_or (pt_notD (pt_truD (pd_call G_is_below (hr.mono (by decide)) D_is_below.at_ D_is_below.fn.kp D_is_below.bd pass0 (pda_cons (pdv 6) (pda_cons (pdv 2) pda_nil))))) (pwd_or1 (pt_notD (pt_truD (pd_call G_is_below (hr.mono (by decide)) D_is_below.at_ D_is_below.fn.kp D_is_below.bd pass0 (pda_cons (pdv 2) (pda_cons (pdv 7) pda_nil)))))))))) (pds_one (pds_ret pd_bl)) pds_nil))) (pds_cons (pds_if (pwd_pt (pwd_or (pt_cmpD (op_neD hr.units) (RefCmp.op ref_ne) (pd_call G_lower_of (hr.mono (by decide)) D_lower_of.at_ D_lower_of.fn.kp D_lower_of.bd pass0 (pda_cons (pdv 4) (pda_cons (pdv 3) pda_nil))) (pdv 6) (nomark _)) (pwd_or (pt_cmpD (op_neD hr.units) (RefCmp.op ref_ne) (pd_call G_upper_of (hr.mono (by decide)) D_upper_of.at_ D_upper_of.fn.kp D_upper_of.bd pass0 (pda_cons (pdv 4) (pda_cons (pdv 3) pda_nil))) (pdv 7) (nomark _)) (pwd_or (pt_cmpD (op_neD hr.units) (RefCmp.op ref_ne) (pd_call G_lower_of (hr.mono (by decide)) D_lower_of.at_ D_lower_of.fn.kp D_lower_of.bd pass0 (pda_cons (pdv 3) (pda_cons (pdv 7) pda_nil))) (pdv 3) (nomark _)) (pwd_or1 (pt_cmpD (op_neD hr.units) (RefCmp.op ref_ne) (pd_call G_upper_of (hr.mono (by decide)) D_upper_of.at_ D_upper_of.fn.kp D_upper_of.bd pass0 (pda_cons (pdv 3) (pda_cons (pdv 6) pda_nil))) (pdv 3) (nomark _))))))) (pds_one (pds_ret pd_bl)) pds_nil) (pds_cons (pds_if (pwd_pt (pwd_or (pt_cmpD (op_neD hr.units) (RefCmp.op ref_ne) (pd_call G_lower_of (hr.mono (by decide)) D_lower_of.at_ D_lower_of.fn.kp D_lower_of.bd pass0 (pda_cons (pdv 6) (pda_cons (pdv 5) pda_nil))) (pd_call G_lower_of (hr.mono (by decide)) D_lower_of.at_ D_lower_of.fn.kp D_lower_of.bd pass0 (pda_cons (pdv 3) (pda_cons (pd_call G_lower_of (hr.mono (by decide)) D_lower_of.at_ D_lower_of.fn.kp D_lower_of.bd pass0 (pda_cons (pdv 4) (pda_cons (pdv 5) pda_nil))) pda_nil))) (nomark _)) (pwd_or1 (pt_cmpD (op_neD hr.units) (RefCmp.op ref_ne) (pd_call G_upper_of (hr.mono (by decide)) D_upper_of.at_ D_upper_of.fn.kp D_upper_of.bd pass0 (pda_cons (pdv 7) (pda_cons (pdv 5) pda_nil))) (pd_call G_upper_of (hr.mono (by decide)) D_upper_of.at_ D_upper_of.fn.kp D_upper_of.bd pass0 (pda_cons (pdv 3) (pda_cons (pd_call G_upper_of (hr.mono (by decide)) D_upper_of.at_ D_upper_of.fn.kp D_upper_of.bd pass0 (pda_cons (pdv 4) (pda_cons (pdv 5) pda_nil))) pda_nil))) (nomark _))))) (pds_one (pds_ret pd_bl)) pds_nil) (pds_cons (pds_if (pwd_pt (pwd_or (pt_cmpD (op_neD hr.units) (RefCmp.op ref_ne) (pd_call G_is_below (hr.mono (by decide)) D_is_below.at_ D_is_below.fn.kp D_is_below.bd pass0 (pda_cons (pdv 3) (pda_cons (pdv 4) pda_nil))) (pd_call G_qis_below (hr.mono (by decide)) D_qis_below.at_ D_qis_below.fn.kp D_qis_below.bd pass0 (pda_cons (pdv 3) (pda_cons (pdv 4) pda_nil))) (nomark _)) (pwd_or (pt_cmpD (op_neD hr.units) (RefCmp.op ref_ne) (pd_call G_qis_below (hr.mono (by decide)) D_qis_below.at_ D_qis_below.fn.kp D_qis_below.bd pass0 (pda_cons (pdv 3) (pda_cons (pdv 4) pda_nil))) (pd_cmp (op_eqD hr.units) (RefCmp.op ref_eq) (pdv 6) (pdv 3) (nomark _)) (nomark _)) (pwd_or1 (pt_cmpD (op_neD hr.units) (RefCmp.op ref_ne) (pd_cmp (op_eqD hr.units) (RefCmp.op ref_eq) (pdv 7) (pdv 4) (nomark _)) (pd_cmp (op_eqD hr.units) (RefCmp.op ref_eq) (pdv 6) (pdv 3) (nomark _)) (nomark _)))))) (pds_one (pds_ret pd_bl)) pds_nil) (pds_cons (pds_for (tg := .nm 2) PassesOwn.never rfl (pid_seq (pd_call G_pure_degrees (hr.mono (by decide)) D_pure_degrees.at_ D_pure_degrees.fn.kp D_pure_degrees.bd pass0 (pda_cons pd_int (pda_cons pd_int pda_nil)))) (pgd_nm (i := 2) sc_qright.nd) (pds_cons (pds_if (pt_cmpD (op_neD hr.units) (RefCmp.op ref_ne) (pd_and (pd_call G_qis_below (hr.mono (by decide)) D_qis_below.at_ D_qis_below.fn.kp D_qis_below.bd pass0 (pda_cons (pdv 2) (pda_cons (pdv 3) pda_nil))) (pd_one (pd_call G_qis_below (hr.mono (by decide)) D_qis_below.at_ D_qis_below.fn.kp D_qis_below.bd pass0 (pda_cons (pdv 2) (pda_cons (pdv 4) pda_nil))))) (pd_call G_qis_below (hr.mono (by decide)) D_qis_below.at_ D_qis_below.fn.kp D_qis_below.bd pass0 (pda_cons (pdv 2) (pda_cons (pdv 6) pda_nil))) (nomark _)) (pds_one (pds_ret pd_bl)) pds_nil) (pds_one (pds_if (pt_cmpD (op_neD hr.units) (RefCmp.op ref_ne) (pd_and (pd_call G_qis_below (hr.mono (by decide)) D_qis_below.at_ D_qis_below.fn.kp D_qis_below.bd pass0 (pda_cons (pdv 3) (pda_cons (pdv 2) pda_nil))) (pd_one (pd_call G_qis_below (hr.mono (by decide)) D_qis_below.at_ D_qis_below.fn.kp D_qis_below.bd pass0 (pda_cons (pdv 4) (pda_cons (pdv 2) pda_nil))))) (pd_call G_qis_below (hr.mono (by decide)) D_qis_below.at_ D_qis_below.fn.kp D_qis_below.bd pass0 (pda_cons (pdv 7) (pda_cons (pdv 2) pda_nil))) (nomark _)) (pds_one (pds_ret pd_bl)) pds_nil)))) (pds_one (pds_ret pd_bl))))))))))), ?_⟩)
  intro ds g Q h
  obtain ⟨a0, rfl, h⟩ := sp1_of h
  rw [show startD N_qright [a0] = [some a0, none, none, none, none, none, none, none] from rfl]
  obtain ⟨p, n, L, e1, hg, hp, hn, k⟩ := h
  subst e1
  (repeat (first | (with_reducible first | refine rd_seq ?_ | refine rd_seqE ?_ | refine rd_next ?_ | refine rd_rtE ?_ | refine rd_nxE ?_ | refine rd_nx ?_ | refine rd_rt ?_ | refine rd_ct ?_ | refine rd_bk ?_ | refine rd_drop ?_ | refine rd_ret ?_ | refine rd_retN ?_ | refine rd_dif ?_ | refine rd_asg ?_ | refine rd_par ?_ | refine rd_for ?_ | refine rd_break ?_ | refine rd_cont ?_ | refine rd_c ?_ | refine rd_op ?_ | refine rd_un ?_ | refine rd_b ?_ | refine rd_bK ?_ | refine rd_tru ?_ | refine rd_tKb ?_ | refine rd_and ?_ | refine rd_or ?_ | refine rd_not ?_ | refine rd_andV ?_ | refine rd_orV ?_ | refine rd_notV ?_ | refine rd_tvKb ?_ | refine rd_ifE ?_ | refine rd_nil ?_ | refine rd_cons ?_ | refine rd_tup ?_ | refine rd_lst ?_ | refine rd_lstM ?_ | refine rd_cb ?_ | refine rd_call ?_ | refine rd_sp0 ?_ | refine rd_sp1 ?_ | refine rd_sp2 ?_ | refine rd_sp3 ?_ | refine rd_int ?_ | refine rd_intb ?_ | refine rd_abs ?_ | refine rd_ii ?_ | refine rd_add ?_ | refine rd_sub ?_ | refine rd_addI ?_ | refine rd_cmp ?_ | refine rd_setI ?_ | refine rd_mt ?_ | refine rd_lc ?_ | refine rd_lcM ?_ | refine rd_yes ?_ | refine rd_wseq ?_ | refine rd_wsT ?_ | refine rd_wsL ?_ | refine rd_wsS ?_ | refine rd_wzip ?_ | refine rd_zipT ?_ | refine rd_rng1 ?_ | refine rd_rng2 ?_ | refine rd_sl ?_ | refine rd_slT ?_ | refine rd_slL ?_ | refine rd_slS ?_ | refine rd_nopart ?_ | refine rd_part ?_ | refine rd_ptK ?_ | refine rd_star ?_ | refine rd_ss ?_ | refine rd_itet ?_ | refine rd_itef ?_ | refine rd_itnt ?_ | refine rd_itnf ?_) | ((with_reducible apply rd_var); (· exact rfl)) | ((with_reducible apply rd_asgK); (· exact rfl)) | ((with_reducible apply rd_parK); (· exact rfl)) | ((with_reducible apply rd_len); (· (first | assumption | exact seqD_ref (by assumption) | exact seqD_up | exact lstD_ref (by assumption) | exact lstD_up | rfl))) | ((with_reducible apply rd_tuple); (· (first | assumption | exact seqD_ref (by assumption) | exact seqD_up | exact lstD_ref (by assumption) | exact lstD_up | rfl))) | ((with_reducible apply rd_list); (· (first | assumption | exact seqD_ref (by assumption) | exact seqD_up | exact lstD_ref (by assumption) | exact lstD_up | rfl))) | ((with_reducible apply rd_stK); (· (first | assumption | exact seqD_ref (by assumption) | exact seqD_up | exact lstD_ref (by assumption) | exact lstD_up | rfl))) | ((with_reducible apply rd_ix); (· (first | assumption | exact seqD_ref (by assumption) | exact seqD_up | exact lstD_ref (by assumption) | exact lstD_up | rfl)); (· (first | exact atI_c0 _ _ | exact atI_c1 _ _ _ | exact atI_c2 _ _ _ _ | assumption | rfl))) | ((with_reducible apply rd_set30); (· (first | assumption | exact gup_same))) | ((with_reducible apply rd_set32); (· (first | assumption | exact gup_same))) | ((with_reducible apply rd_some); (· (first | assumption | exact seqD_ref (by assumption) | exact seqD_up | exact lstD_ref (by assumption) | exact lstD_up | rfl)))))
  refine rd_zK (by show 4 ≤ 16777216; decide) ?_
  (repeat (first | (with_reducible first | refine rd_seq ?_ | refine rd_seqE ?_ | refine rd_next ?_ | refine rd_rtE ?_ | refine rd_nxE ?_ | refine rd_nx ?_ | refine rd_rt ?_ | refine rd_ct ?_ | refine rd_bk ?_ | refine rd_drop ?_ | refine rd_ret ?_ | refine rd_retN ?_ | refine rd_dif ?_ | refine rd_asg ?_ | refine rd_par ?_ | refine rd_for ?_ | refine rd_break ?_ | refine rd_cont ?_ | refine rd_c ?_ | refine rd_op ?_ | refine rd_un ?_ | refine rd_b ?_ | refine rd_bK ?_ | refine rd_tru ?_ | refine rd_tKb ?_ | refine rd_and ?_ | refine rd_or ?_ | refine rd_not ?_ | refine rd_andV ?_ | refine rd_orV ?_ | refine rd_notV ?_ | refine rd_tvKb ?_ | refine rd_ifE ?_ | refine rd_nil ?_ | refine rd_cons ?_ | refine rd_tup ?_ | refine rd_lst ?_ | refine rd_lstM ?_ | refine rd_cb ?_ | refine rd_call ?_ | refine rd_sp0 ?_ | refine rd_sp1 ?_ | refine rd_sp2 ?_ | refine rd_sp3 ?_ | refine rd_int ?_ | refine rd_intb ?_ | refine rd_abs ?_ | refine rd_ii ?_ | refine rd_add ?_ | refine rd_sub ?_ | refine rd_addI ?_ | refine rd_cmp ?_ | refine rd_setI ?_ | refine rd_mt ?_ | refine rd_lc ?_ | refine rd_lcM ?_ | refine rd_yes ?_ | refine rd_wseq ?_ | refine rd_wsT ?_ | refine rd_wsL ?_ | refine rd_wsS ?_ | refine rd_wzip ?_ | refine rd_zipT ?_ | refine rd_rng1 ?_ | refine rd_rng2 ?_ | refine rd_sl ?_ | refine rd_slT ?_ | refine rd_slL ?_ | refine rd_slS ?_ | refine rd_nopart ?_ | refine rd_part ?_ | refine rd_ptK ?_ | refine rd_star ?_ | refine rd_ss ?_ | refine rd_itet ?_ | refine rd_itef ?_ | refine rd_itnt ?_ | refine rd_itnf ?_) | ((with_reducible apply rd_var); (· exact rfl)) | ((with_reducible apply rd_asgK); (· exact rfl)) | ((with_reducible apply rd_parK); (· exact rfl)) | ((with_reducible apply rd_len); (· (first | assumption | exact seqD_ref (by assumption) | exact seqD_up | exact lstD_ref (by assumption) | exact lstD_up | rfl))) | ((with_reducible apply rd_tuple); (· (first | assumption | exact seqD_ref (by assumption) | exact seqD_up | exact lstD_ref (by assumption) | exact lstD_up | rfl))) | ((with_reducible apply rd_list); (· (first | assumption | exact seqD_ref (by assumption) | exact seqD_up | exact lstD_ref (by assumption) | exact lstD_up | rfl))) | ((with_reducible apply rd_stK); (· (first | assumption | exact seqD_ref (by assumption) | exact seqD_up | exact lstD_ref (by assumption) | exact lstD_up | rfl))) | ((with_reducible apply rd_ix); (· (first | assumption | exact seqD_ref (by assumption) | exact seqD_up | exact lstD_ref (by assumption) | exact lstD_up | rfl)); (· (first | exact atI_c0 _ _ | exact atI_c1 _ _ _ | exact atI_c2 _ _ _ _ | assumption | rfl))) | ((with_reducible apply rd_set30); (· (first | assumption | exact gup_same))) | ((with_reducible apply rd_set32); (· (first | assumption | exact gup_same))) | ((with_reducible apply rd_some); (· (first | assumption | exact seqD_ref (by assumption) | exact seqD_up | exact lstD_ref (by assumption) | exact lstD_up | rfl)))))
  refine ⟨p, _, n, L, rfl, rfl, by simp, by show 4 < 100000; decide, hg, hp, by omega, fun d hd L1 hp1 => ?_⟩
  have hm : ∃ m : Int, d = .int m ∧ 0 ≤ m ∧ m ≤ 480 := by
    rcases List.mem_cons.mp hd with z | z
    · exact ⟨5, z, by decide, by decide⟩
    rcases (List.mem_cons.mp z) with z | z
    · exact ⟨5, z, by decide, by decide⟩
    rcases (List.mem_cons.mp z) with z | z
    · exact ⟨12, z, by decide, by decide⟩
    · exact ⟨60, List.mem_singleton.mp z, by decide, by decide⟩
  obtain ⟨m, e, m0, m1⟩ := hm
  subst e
  (repeat (first | (with_reducible first | refine rd_seq ?_ | refine rd_seqE ?_ | refine rd_next ?_ | refine rd_rtE ?_ | refine rd_nxE ?_ | refine rd_nx ?_ | refine rd_rt ?_ | refine rd_ct ?_ | refine rd_bk ?_ | refine rd_drop ?_ | refine rd_ret ?_ | refine rd_retN ?_ | refine rd_dif ?_ | refine rd_asg ?_ | refine rd_par ?_ | refine rd_for ?_ | refine rd_break ?_ | refine rd_cont ?_ | refine rd_c ?_ | refine rd_op ?_ | refine rd_un ?_ | refine rd_b ?_ | refine rd_bK ?_ | refine rd_tru ?_ | refine rd_tKb ?_ | refine rd_and ?_ | refine rd_or ?_ | refine rd_not ?_ | refine rd_andV ?_ | refine rd_orV ?_ | refine rd_notV ?_ | refine rd_tvKb ?_ | refine rd_ifE ?_ | refine rd_nil ?_ | refine rd_cons ?_ | refine rd_tup ?_ | refine rd_lst ?_ | refine rd_lstM ?_ | refine rd_cb ?_ | refine rd_call ?_ | refine rd_sp0 ?_ | refine rd_sp1 ?_ | refine rd_sp2 ?_ | refine rd_sp3 ?_ | refine rd_int ?_ | refine rd_intb ?_ | refine rd_abs ?_ | refine rd_ii ?_ | refine rd_add ?_ | refine rd_sub ?_ | refine rd_addI ?_ | refine rd_cmp ?_ | refine rd_setI ?_ | refine rd_mt ?_ | refine rd_lc ?_ | refine rd_lcM ?_ | refine rd_yes ?_ | refine rd_wseq ?_ | refine rd_wsT ?_ | refine rd_wsL ?_ | refine rd_wsS ?_ | refine rd_wzip ?_ | refine rd_zipT ?_ | refine rd_rng1 ?_ | refine rd_rng2 ?_ | refine rd_sl ?_ | refine rd_slT ?_ | refine rd_slL ?_ | refine rd_slS ?_ | refine rd_nopart ?_ | refine rd_part ?_ | refine rd_ptK ?_ | refine rd_star ?_ | refine rd_ss ?_ | refine rd_itet ?_ | refine rd_itef ?_ | refine rd_itnt ?_ | refine rd_itnf ?_) | ((with_reducible apply rd_var); (· exact rfl)) | ((with_reducible apply rd_asgK); (· exact rfl)) | ((with_reducible apply rd_parK); (· exact rfl)) | ((with_reducible apply rd_len); (· (first | assumption | exact seqD_ref (by assumption) | exact seqD_up | exact lstD_ref (by assumption) | exact lstD_up | rfl))) | ((with_reducible apply rd_tuple); (· (first | assumption | exact seqD_ref (by assumption) | exact seqD_up | exact lstD_ref (by assumption) | exact lstD_up | rfl))) | ((with_reducible apply rd_list); (· (first | assumption | exact seqD_ref (by assumption) | exact seqD_up | exact lstD_ref (by assumption) | exact lstD_up | rfl))) | ((with_reducible apply rd_stK); (· (first | assumption | exact seqD_ref (by assumption) | exact seqD_up | exact lstD_ref (by assumption) | exact lstD_up | rfl))) | ((with_reducible apply rd_ix); (· (first | assumption | exact seqD_ref (by assumption) | exact seqD_up | exact lstD_ref (by assumption) | exact lstD_up | rfl)); (· (first | exact atI_c0 _ _ | exact atI_c1 _ _ _ | exact atI_c2 _ _ _ _ | assumption | rfl))) | ((with_reducible apply rd_set30); (· (first | assumption | exact gup_same))) | ((with_reducible apply rd_set32); (· (first | assumption | exact gup_same))) | ((with_reducible apply rd_some); (· (first | assumption | exact seqD_ref (by assumption) | exact seqD_up | exact lstD_ref (by assumption) | exact lstD_up | rfl)))))
  refine ⟨p, m, n + 1, L1, rfl, rfl, m0, m1, gup_same, hp1, by omega, fun A L2 hA hp2 => ?_⟩
  rw [gup_gup]
  (repeat (first | (with_reducible first | refine rd_seq ?_ | refine rd_seqE ?_ | refine rd_next ?_ | refine rd_rtE ?_ | refine rd_nxE ?_ | refine rd_nx ?_ | refine rd_rt ?_ | refine rd_ct ?_ | refine rd_bk ?_ | refine rd_drop ?_ | refine rd_ret ?_ | refine rd_retN ?_ | refine rd_dif ?_ | refine rd_asg ?_ | refine rd_par ?_ | refine rd_for ?_ | refine rd_break ?_ | refine rd_cont ?_ | refine rd_c ?_ | refine rd_op ?_ | refine rd_un ?_ | refine rd_b ?_ | refine rd_bK ?_ | refine rd_tru ?_ | refine rd_tKb ?_ | refine rd_and ?_ | refine rd_or ?_ | refine rd_not ?_ | refine rd_andV ?_ | refine rd_orV ?_ | refine rd_notV ?_ | refine rd_tvKb ?_ | refine rd_ifE ?_ | refine rd_nil ?_ | refine rd_cons ?_ | refine rd_tup ?_ | refine rd_lst ?_ | refine rd_lstM ?_ | refine rd_cb ?_ | refine rd_call ?_ | refine rd_sp0 ?_ | refine rd_sp1 ?_ | refine rd_sp2 ?_ | refine rd_sp3 ?_ | refine rd_int ?_ | refine rd_intb ?_ | refine rd_abs ?_ | refine rd_ii ?_ | refine rd_add ?_ | refine rd_sub ?_ | refine rd_addI ?_ | refine rd_cmp ?_ | refine rd_setI ?_ | refine rd_mt ?_ | refine rd_lc ?_ | refine rd_lcM ?_ | refine rd_yes ?_ | refine rd_wseq ?_ | refine rd_wsT ?_ | refine rd_wsL ?_ | refine rd_wsS ?_ | refine rd_wzip ?_ | refine rd_zipT ?_ | refine rd_rng1 ?_ | refine rd_rng2 ?_ | refine rd_sl ?_ | refine rd_slT ?_ | refine rd_slL ?_ | refine rd_slS ?_ | refine rd_nopart ?_ | refine rd_part ?_ | refine rd_ptK ?_ | refine rd_star ?_ | refine rd_ss ?_ | refine rd_itet ?_ | refine rd_itef ?_ | refine rd_itnt ?_ | refine rd_itnf ?_) | ((with_reducible apply rd_var); (· exact rfl)) | ((with_reducible apply rd_asgK); (· exact rfl)) | ((with_reducible apply rd_parK); (· exact rfl)) | ((with_reducible apply rd_len); (· (first | assumption | exact seqD_ref (by assumption) | exact seqD_up | exact lstD_ref (by assumption) | exact lstD_up | rfl))) | ((with_reducible apply rd_tuple); (· (first | assumption | exact seqD_ref (by assumption) | exact seqD_up | exact lstD_ref (by assumption) | exact lstD_up | rfl))) | ((with_reducible apply rd_list); (· (first | assumption | exact seqD_ref (by assumption) | exact seqD_up | exact lstD_ref (by assumption) | exact lstD_up | rfl))) | ((with_reducible apply rd_stK); (· (first | assumption | exact seqD_ref (by assumption) | exact seqD_up | exact lstD_ref (by assumption) | exact lstD_up | rfl))) | ((with_reducible apply rd_ix); (· (first | assumption | exact seqD_ref (by assumption) | exact seqD_up | exact lstD_ref (by assumption) | exact lstD_up | rfl)); (· (first | exact atI_c0 _ _ | exact atI_c1 _ _ _ | exact atI_c2 _ _ _ _ | assumption | rfl))) | ((with_reducible apply rd_set30); (· (first | assumption | exact gup_same))) | ((with_reducible apply rd_set32); (· (first | assumption | exact gup_same))) | ((with_reducible apply rd_some); (· (first | assumption | exact seqD_ref (by assumption) | exact seqD_up | exact lstD_ref (by assumption) | exact lstD_up | rfl)))))
  refine ⟨p, m, n + 1 + 5, L2, rfl, rfl, m0, m1, gup_same, hp2, by omega, fun B L3 hI2 hp3 => ?_⟩
  rw [gup_gup]
  (repeat (first | (with_reducible first | refine rd_seq ?_ | refine rd_seqE ?_ | refine rd_next ?_ | refine rd_rtE ?_ | refine rd_nxE ?_ | refine rd_nx ?_ | refine rd_rt ?_ | refine rd_ct ?_ | refine rd_bk ?_ | refine rd_drop ?_ | refine rd_ret ?_ | refine rd_retN ?_ | refine rd_dif ?_ | refine rd_asg ?_ | refine rd_par ?_ | refine rd_for ?_ | refine rd_break ?_ | refine rd_cont ?_ | refine rd_c ?_ | refine rd_op ?_ | refine rd_un ?_ | refine rd_b ?_ | refine rd_bK ?_ | refine rd_tru ?_ | refine rd_tKb ?_ | refine rd_and ?_ | refine rd_or ?_ | refine rd_not ?_ | refine rd_andV ?_ | refine rd_orV ?_ | refine rd_notV ?_ | refine rd_tvKb ?_ | refine rd_ifE ?_ | refine rd_nil ?_ | refine rd_cons ?_ | refine rd_tup ?_ | refine rd_lst ?_ | refine rd_lstM ?_ | refine rd_cb ?_ | refine rd_call ?_ | refine rd_sp0 ?_ | refine rd_sp1 ?_ | refine rd_sp2 ?_ | refine rd_sp3 ?_ | refine rd_int ?_ | refine rd_intb ?_ | refine rd_abs ?_ | refine rd_ii ?_ | refine rd_add ?_ | refine rd_sub ?_ | refine rd_addI ?_ | refine rd_cmp ?_ | refine rd_setI ?_ | refine rd_mt ?_ | refine rd_lc ?_ | refine rd_lcM ?_ | refine rd_yes ?_ | refine rd_wseq ?_ | refine rd_wsT ?_ | refine rd_wsL ?_ | refine rd_wsS ?_ | refine rd_wzip ?_ | refine rd_zipT ?_ | refine rd_rng1 ?_ | refine rd_rng2 ?_ | refine rd_sl ?_ | refine rd_slT ?_ | refine rd_slL ?_ | refine rd_slS ?_ | refine rd_nopart ?_ | refine rd_part ?_ | refine rd_ptK ?_ | refine rd_star ?_ | refine rd_ss ?_ | refine rd_itet ?_ | refine rd_itef ?_ | refine rd_itnt ?_ | refine rd_itnf ?_) | ((with_reducible apply rd_var); (· exact rfl)) | ((with_reducible apply rd_asgK); (· exact rfl)) | ((with_reducible apply rd_parK); (· exact rfl)) | ((with_reducible apply rd_len); (· (first | assumption | exact seqD_ref (by assumption) | exact seqD_up | exact lstD_ref (by assumption) | exact lstD_up | rfl))) | ((with_reducible apply rd_tuple); (· (first | assumption | exact seqD_ref (by assumption) | exact seqD_up | exact lstD_ref (by assumption) | exact lstD_up | rfl))) | ((with_reducible apply rd_list); (· (first | assumption | exact seqD_ref (by assumption) | exact seqD_up | exact lstD_ref (by assumption) | exact lstD_up | rfl))) | ((with_reducible apply rd_stK); (· (first | assumption | exact seqD_ref (by assumption) | exact seqD_up | exact lstD_ref (by assumption) | exact lstD_up | rfl))) | ((with_reducible apply rd_ix); (· (first | assumption | exact seqD_ref (by assumption) | exact seqD_up | exact lstD_ref (by assumption) | exact lstD_up | rfl)); (· (first | exact atI_c0 _ _ | exact atI_c1 _ _ _ | exact atI_c2 _ _ _ _ | assumption | rfl))) | ((with_reducible apply rd_set30); (· (first | assumption | exact gup_same))) | ((with_reducible apply rd_set32); (· (first | assumption | exact gup_same))) | ((with_reducible apply rd_some); (· (first | assumption | exact seqD_ref (by assumption) | exact seqD_up | exact lstD_ref (by assumption) | exact lstD_up | rfl)))))
  refine ⟨p, m, n + 1 + 5 + 5, L3, rfl, rfl, m0, m1, gup_same, hp3, by omega, fun C L4 hC hp4 => ?_⟩
  rw [gup_gup]
  (repeat (first | (with_reducible first | refine rd_seq ?_ | refine rd_seqE ?_ | refine rd_next ?_ | refine rd_rtE ?_ | refine rd_nxE ?_ | refine rd_nx ?_ | refine rd_rt ?_ | refine rd_ct ?_ | refine rd_bk ?_ | refine rd_drop ?_ | refine rd_ret ?_ | refine rd_retN ?_ | refine rd_dif ?_ | refine rd_asg ?_ | refine rd_par ?_ | refine rd_for ?_ | refine rd_break ?_ | refine rd_cont ?_ | refine rd_c ?_ | refine rd_op ?_ | refine rd_un ?_ | refine rd_b ?_ | refine rd_bK ?_ | refine rd_tru ?_ | refine rd_tKb ?_ | refine rd_and ?_ | refine rd_or ?_ | refine rd_not ?_ | refine rd_andV ?_ | refine rd_orV ?_ | refine rd_notV ?_ | refine rd_tvKb ?_ | refine rd_ifE ?_ | refine rd_nil ?_ | refine rd_cons ?_ | refine rd_tup ?_ | refine rd_lst ?_ | refine rd_lstM ?_ | refine rd_cb ?_ | refine rd_call ?_ | refine rd_sp0 ?_ | refine rd_sp1 ?_ | refine rd_sp2 ?_ | refine rd_sp3 ?_ | refine rd_int ?_ | refine rd_intb ?_ | refine rd_abs ?_ | refine rd_ii ?_ | refine rd_add ?_ | refine rd_sub ?_ | refine rd_addI ?_ | refine rd_cmp ?_ | refine rd_setI ?_ | refine rd_mt ?_ | refine rd_lc ?_ | refine rd_lcM ?_ | refine rd_yes ?_ | refine rd_wseq ?_ | refine rd_wsT ?_ | refine rd_wsL ?_ | refine rd_wsS ?_ | refine rd_wzip ?_ | refine rd_zipT ?_ | refine rd_rng1 ?_ | refine rd_rng2 ?_ | refine rd_sl ?_ | refine rd_slT ?_ | refine rd_slL ?_ | refine rd_slS ?_ | refine rd_nopart ?_ | refine rd_part ?_ | refine rd_ptK ?_ | refine rd_star ?_ | refine rd_ss ?_ | refine rd_itet ?_ | refine rd_itef ?_ | refine rd_itnt ?_ | refine rd_itnf ?_) | ((with_reducible apply rd_var); (· exact rfl)) | ((with_reducible apply rd_asgK); (· exact rfl)) | ((with_reducible apply rd_parK); (· exact rfl)) | ((with_reducible apply rd_len); (· (first | assumption | exact seqD_ref (by assumption) | exact seqD_up | exact lstD_ref (by assumption) | exact lstD_up | rfl))) | ((with_reducible apply rd_tuple); (· (first | assumption | exact seqD_ref (by assumption) | exact seqD_up | exact lstD_ref (by assumption) | exact lstD_up | rfl))) | ((with_reducible apply rd_list); (· (first | assumption | exact seqD_ref (by assumption) | exact seqD_up | exact lstD_ref (by assumption) | exact lstD_up | rfl))) | ((with_reducible apply rd_stK); (· (first | assumption | exact seqD_ref (by assumption) | exact seqD_up | exact lstD_ref (by assumption) | exact lstD_up | rfl))) | ((with_reducible apply rd_ix); (· (first | assumption | exact seqD_ref (by assumption) | exact seqD_up | exact lstD_ref (by assumption) | exact lstD_up | rfl)); (· (first | exact atI_c0 _ _ | exact atI_c1 _ _ _ | exact atI_c2 _ _ _ _ | assumption | rfl))) | ((with_reducible apply rd_set30); (· (first | assumption | exact gup_same))) | ((with_reducible apply rd_set32); (· (first | assumption | exact gup_same))) | ((with_reducible apply rd_some); (· (first | assumption | exact seqD_ref (by assumption) | exact seqD_up | exact lstD_ref (by assumption) | exact lstD_up | rfl)))))
  refine ⟨A, B, rfl, rfl, hA, hI2, ?_⟩
  (repeat (first | (with_reducible first | refine rd_seq ?_ | refine rd_seqE ?_ | refine rd_next ?_ | refine rd_rtE ?_ | refine rd_nxE ?_ | refine rd_nx ?_ | refine rd_rt ?_ | refine rd_ct ?_ | refine rd_bk ?_ | refine rd_drop ?_ | refine rd_ret ?_ | refine rd_retN ?_ | refine rd_dif ?_ | refine rd_asg ?_ | refine rd_par ?_ | refine rd_for ?_ | refine rd_break ?_ | refine rd_cont ?_ | refine rd_c ?_ | refine rd_op ?_ | refine rd_un ?_ | refine rd_b ?_ | refine rd_bK ?_ | refine rd_tru ?_ | refine rd_tKb ?_ | refine rd_and ?_ | refine rd_or ?_ | refine rd_not ?_ | refine rd_andV ?_ | refine rd_orV ?_ | refine rd_notV ?_ | refine rd_tvKb ?_ | refine rd_ifE ?_ | refine rd_nil ?_ | refine rd_cons ?_ | refine rd_tup ?_ | refine rd_lst ?_ | refine rd_lstM ?_ | refine rd_cb ?_ | refine rd_call ?_ | refine rd_sp0 ?_ | refine rd_sp1 ?_ | refine rd_sp2 ?_ | refine rd_sp3 ?_ | refine rd_int ?_ | refine rd_intb ?_ | refine rd_abs ?_ | refine rd_ii ?_ | refine rd_add ?_ | refine rd_sub ?_ | refine rd_addI ?_ | refine rd_cmp ?_ | refine rd_setI ?_ | refine rd_mt ?_ | refine rd_lc ?_ | refine rd_lcM ?_ | refine rd_yes ?_ | refine rd_wseq ?_ | refine rd_wsT ?_ | refine rd_wsL ?_ | refine rd_wsS ?_ | refine rd_wzip ?_ | refine rd_zipT ?_ | refine rd_rng1 ?_ | refine rd_rng2 ?_ | refine rd_sl ?_ | refine rd_slT ?_ | refine rd_slL ?_ | refine rd_slS ?_ | refine rd_nopart ?_ | refine rd_part ?_ | refine rd_ptK ?_ | refine rd_star ?_ | refine rd_ss ?_ | refine rd_itet ?_ | refine rd_itef ?_ | refine rd_itnt ?_ | refine rd_itnf ?_) | ((with_reducible apply rd_var); (· exact rfl)) | ((with_reducible apply rd_asgK); (· exact rfl)) | ((with_reducible apply rd_parK); (· exact rfl)) | ((with_reducible apply rd_len); (· (first | assumption | exact seqD_ref (by assumption) | exact seqD_up | exact lstD_ref (by assumption) | exact lstD_up | rfl))) | ((with_reducible apply rd_tuple); (· (first | assumption | exact seqD_ref (by assumption) | exact seqD_up | exact lstD_ref (by assumption) | exact lstD_up | rfl))) | ((with_reducible apply rd_list); (· (first | assumption | exact seqD_ref (by assumption) | exact seqD_up | exact lstD_ref (by assumption) | exact lstD_up | rfl))) | ((with_reducible apply rd_stK); (· (first | assumption | exact seqD_ref (by assumption) | exact seqD_up | exact lstD_ref (by assumption) | exact lstD_up | rfl))) | ((with_reducible apply rd_ix); (· (first | assumption | exact seqD_ref (by assumption) | exact seqD_up | exact lstD_ref (by assumption) | exact lstD_up | rfl)); (· (first | exact atI_c0 _ _ | exact atI_c1 _ _ _ | exact atI_c2 _ _ _ _ | assumption | rfl))) | ((with_reducible apply rd_set30); (· (first | assumption | exact gup_same))) | ((with_reducible apply rd_set32); (· (first | assumption | exact gup_same))) | ((with_reducible apply rd_some); (· (first | assumption | exact seqD_ref (by assumption) | exact seqD_up | exact lstD_ref (by assumption) | exact lstD_up | rfl)))))
  refine ⟨A, B, rfl, rfl, hA, hI2, ?_⟩
  rw [lower_lo, upper_up]
  have hl := hA.lo hI2
  have hu := hA.up hI2
  (repeat (first | (with_reducible first | refine rd_seq ?_ | refine rd_seqE ?_ | refine rd_next ?_ | refine rd_rtE ?_ | refine rd_nxE ?_ | refine rd_nx ?_ | refine rd_rt ?_ | refine rd_ct ?_ | refine rd_bk ?_ | refine rd_drop ?_ | refine rd_ret ?_ | refine rd_retN ?_ | refine rd_dif ?_ | refine rd_asg ?_ | refine rd_par ?_ | refine rd_for ?_ | refine rd_break ?_ | refine rd_cont ?_ | refine rd_c ?_ | refine rd_op ?_ | refine rd_un ?_ | refine rd_b ?_ | refine rd_bK ?_ | refine rd_tru ?_ | refine rd_tKb ?_ | refine rd_and ?_ | refine rd_or ?_ | refine rd_not ?_ | refine rd_andV ?_ | refine rd_orV ?_ | refine rd_notV ?_ | refine rd_tvKb ?_ | refine rd_ifE ?_ | refine rd_nil ?_ | refine rd_cons ?_ | refine rd_tup ?_ | refine rd_lst ?_ | refine rd_lstM ?_ | refine rd_cb ?_ | refine rd_call ?_ | refine rd_sp0 ?_ | refine rd_sp1 ?_ | refine rd_sp2 ?_ | refine rd_sp3 ?_ | refine rd_int ?_ | refine rd_intb ?_ | refine rd_abs ?_ | refine rd_ii ?_ | refine rd_add ?_ | refine rd_sub ?_ | refine rd_addI ?_ | refine rd_cmp ?_ | refine rd_setI ?_ | refine rd_mt ?_ | refine rd_lc ?_ | refine rd_lcM ?_ | refine rd_yes ?_ | refine rd_wseq ?_ | refine rd_wsT ?_ | refine rd_wsL ?_ | refine rd_wsS ?_ | refine rd_wzip ?_ | refine rd_zipT ?_ | refine rd_rng1 ?_ | refine rd_rng2 ?_ | refine rd_sl ?_ | refine rd_slT ?_ | refine rd_slL ?_ | refine rd_slS ?_ | refine rd_nopart ?_ | refine rd_part ?_ | refine rd_ptK ?_ | refine rd_star ?_ | refine rd_ss ?_ | refine rd_itet ?_ | refine rd_itef ?_ | refine rd_itnt ?_ | refine rd_itnf ?_) | ((with_reducible apply rd_var); (· exact rfl)) | ((with_reducible apply rd_asgK); (· exact rfl)) | ((with_reducible apply rd_parK); (· exact rfl)) | ((with_reducible apply rd_len); (· (first | assumption | exact seqD_ref (by assumption) | exact seqD_up | exact lstD_ref (by assumption) | exact lstD_up | rfl))) | ((with_reducible apply rd_tuple); (· (first | assumption | exact seqD_ref (by assumption) | exact seqD_up | exact lstD_ref (by assumption) | exact lstD_up | rfl))) | ((with_reducible apply rd_list); (· (first | assumption | exact seqD_ref (by assumption) | exact seqD_up | exact lstD_ref (by assumption) | exact lstD_up | rfl))) | ((with_reducible apply rd_stK); (· (first | assumption | exact seqD_ref (by assumption) | exact seqD_up | exact lstD_ref (by assumption) | exact lstD_up | rfl))) | ((with_reducible apply rd_ix); (· (first | assumption | exact seqD_ref (by assumption) | exact seqD_up | exact lstD_ref (by assumption) | exact lstD_up | rfl)); (· (first | exact atI_c0 _ _ | exact atI_c1 _ _ _ | exact atI_c2 _ _ _ _ | assumption | rfl))) | ((with_reducible apply rd_set30); (· (first | assumption | exact gup_same))) | ((with_reducible apply rd_set32); (· (first | assumption | exact gup_same))) | ((with_reducible apply rd_some); (· (first | assumption | exact seqD_ref (by assumption) | exact seqD_up | exact lstD_ref (by assumption) | exact lstD_up | rfl)))))
  refine rd_neI (by simp only [List.length_map, lo_len]; split <;> omega) ?_
  (repeat (first | (with_reducible first | refine rd_seq ?_ | refine rd_seqE ?_ | refine rd_next ?_ | refine rd_rtE ?_ | refine rd_nxE ?_ | refine rd_nx ?_ | refine rd_rt ?_ | refine rd_ct ?_ | refine rd_bk ?_ | refine rd_drop ?_ | refine rd_ret ?_ | refine rd_retN ?_ | refine rd_dif ?_ | refine rd_asg ?_ | refine rd_par ?_ | refine rd_for ?_ | refine rd_break ?_ | refine rd_cont ?_ | refine rd_c ?_ | refine rd_op ?_ | refine rd_un ?_ | refine rd_b ?_ | refine rd_bK ?_ | refine rd_tru ?_ | refine rd_tKb ?_ | refine rd_and ?_ | refine rd_or ?_ | refine rd_not ?_ | refine rd_andV ?_ | refine rd_orV ?_ | refine rd_notV ?_ | refine rd_tvKb ?_ | refine rd_ifE ?_ | refine rd_nil ?_ | refine rd_cons ?_ | refine rd_tup ?_ | refine rd_lst ?_ | refine rd_lstM ?_ | refine rd_cb ?_ | refine rd_call ?_ | refine rd_sp0 ?_ | refine rd_sp1 ?_ | refine rd_sp2 ?_ | refine rd_sp3 ?_ | refine rd_int ?_ | refine rd_intb ?_ | refine rd_abs ?_ | refine rd_ii ?_ | refine rd_add ?_ | refine rd_sub ?_ | refine rd_addI ?_ | refine rd_cmp ?_ | refine rd_setI ?_ | refine rd_mt ?_ | refine rd_lc ?_ | refine rd_lcM ?_ | refine rd_yes ?_ | refine rd_wseq ?_ | refine rd_wsT ?_ | refine rd_wsL ?_ | refine rd_wsS ?_ | refine rd_wzip ?_ | refine rd_zipT ?_ | refine rd_rng1 ?_ | refine rd_rng2 ?_ | refine rd_sl ?_ | refine rd_slT ?_ | refine rd_slL ?_ | refine rd_slS ?_ | refine rd_nopart ?_ | refine rd_part ?_ | refine rd_ptK ?_ | refine rd_star ?_ | refine rd_ss ?_ | refine rd_itet ?_ | refine rd_itef ?_ | refine rd_itnt ?_ | refine rd_itnf ?_) | ((with_reducible apply rd_var); (· exact rfl)) | ((with_reducible apply rd_asgK); (· exact rfl)) | ((with_reducible apply rd_parK); (· exact rfl)) | ((with_reducible apply rd_len); (· (first | assumption | exact seqD_ref (by assumption) | exact seqD_up | exact lstD_ref (by assumption) | exact lstD_up | rfl))) | ((with_reducible apply rd_tuple); (· (first | assumption | exact seqD_ref (by assumption) | exact seqD_up | exact lstD_ref (by assumption) | exact lstD_up | rfl))) | ((with_reducible apply rd_list); (· (first | assumption | exact seqD_ref (by assumption) | exact seqD_up | exact lstD_ref (by assumption) | exact lstD_up | rfl))) | ((with_reducible apply rd_stK); (· (first | assumption | exact seqD_ref (by assumption) | exact seqD_up | exact lstD_ref (by assumption) | exact lstD_up | rfl))) | ((with_reducible apply rd_ix); (· (first | assumption | exact seqD_ref (by assumption) | exact seqD_up | exact lstD_ref (by assumption) | exact lstD_up | rfl)); (· (first | exact atI_c0 _ _ | exact atI_c1 _ _ _ | exact atI_c2 _ _ _ _ | assumption | rfl))) | ((with_reducible apply rd_set30); (· (first | assumption | exact gup_same))) | ((with_reducible apply rd_set32); (· (first | assumption | exact gup_same))) | ((with_reducible apply rd_some); (· (first | assumption | exact seqD_ref (by assumption) | exact seqD_up | exact lstD_ref (by assumption) | exact lstD_up | rfl)))))
  refine rd_neI (by simp only [List.length_map, up_len]; split <;> omega) ?_
  (repeat (first | (with_reducible first | refine rd_seq ?_ | refine rd_seqE ?_ | refine rd_next ?_ | refine rd_rtE ?_ | refine rd_nxE ?_ | refine rd_nx ?_ | refine rd_rt ?_ | refine rd_ct ?_ | refine rd_bk ?_ | refine rd_drop ?_ | refine rd_ret ?_ | refine rd_retN ?_ | refine rd_dif ?_ | refine rd_asg ?_ | refine rd_par ?_ | refine rd_for ?_ | refine rd_break ?_ | refine rd_cont ?_ | refine rd_c ?_ | refine rd_op ?_ | refine rd_un ?_ | refine rd_b ?_ | refine rd_bK ?_ | refine rd_tru ?_ | refine rd_tKb ?_ | refine rd_and ?_ | refine rd_or ?_ | refine rd_not ?_ | refine rd_andV ?_ | refine rd_orV ?_ | refine rd_notV ?_ | refine rd_tvKb ?_ | refine rd_ifE ?_ | refine rd_nil ?_ | refine rd_cons ?_ | refine rd_tup ?_ | refine rd_lst ?_ | refine rd_lstM ?_ | refine rd_cb ?_ | refine rd_call ?_ | refine rd_sp0 ?_ | refine rd_sp1 ?_ | refine rd_sp2 ?_ | refine rd_sp3 ?_ | refine rd_int ?_ | refine rd_intb ?_ | refine rd_abs ?_ | refine rd_ii ?_ | refine rd_add ?_ | refine rd_sub ?_ | refine rd_addI ?_ | refine rd_cmp ?_ | refine rd_setI ?_ | refine rd_mt ?_ | refine rd_lc ?_ | refine rd_lcM ?_ | refine rd_yes ?_ | refine rd_wseq ?_ | refine rd_wsT ?_ | refine rd_wsL ?_ | refine rd_wsS ?_ | refine rd_wzip ?_ | refine rd_zipT ?_ | refine rd_rng1 ?_ | refine rd_rng2 ?_ | refine rd_sl ?_ | refine rd_slT ?_ | refine rd_slL ?_ | refine rd_slS ?_ | refine rd_nopart ?_ | refine rd_part ?_ | refine rd_ptK ?_ | refine rd_star ?_ | refine rd_ss ?_ | refine rd_itet ?_ | refine rd_itef ?_ | refine rd_itnt ?_ | refine rd_itnf ?_) | ((with_reducible apply rd_var); (· exact rfl)) | ((with_reducible apply rd_asgK); (· exact rfl)) | ((with_reducible apply rd_parK); (· exact rfl)) | ((with_reducible apply rd_len); (· (first | assumption | exact seqD_ref (by assumption) | exact seqD_up | exact lstD_ref (by assumption) | exact lstD_up | rfl))) | ((with_reducible apply rd_tuple); (· (first | assumption | exact seqD_ref (by assumption) | exact seqD_up | exact lstD_ref (by assumption) | exact lstD_up | rfl))) | ((with_reducible apply rd_list); (· (first | assumption | exact seqD_ref (by assumption) | exact seqD_up | exact lstD_ref (by assumption) | exact lstD_up | rfl))) | ((with_reducible apply rd_stK); (· (first | assumption | exact seqD_ref (by assumption) | exact seqD_up | exact lstD_ref (by assumption) | exact lstD_up | rfl))) | ((with_reducible apply rd_ix); (· (first | assumption | exact seqD_ref (by assumption) | exact seqD_up | exact lstD_ref (by assumption) | exact lstD_up | rfl)); (· (first | exact atI_c0 _ _ | exact atI_c1 _ _ _ | exact atI_c2 _ _ _ _ | assumption | rfl))) | ((with_reducible apply rd_set30); (· (first | assumption | exact gup_same))) | ((with_reducible apply rd_set32); (· (first | assumption | exact gup_same))) | ((with_reducible apply rd_some); (· (first | assumption | exact seqD_ref (by assumption) | exact seqD_up | exact lstD_ref (by assumption) | exact lstD_up | rfl)))))
  refine rd_zK (by show 2 ≤ 16777216; decide) ?_
  (repeat (first | (with_reducible first | refine rd_seq ?_ | refine rd_seqE ?_ | refine rd_next ?_ | refine rd_rtE ?_ | refine rd_nxE ?_ | refine rd_nx ?_ | refine rd_rt ?_ | refine rd_ct ?_ | refine rd_bk ?_ | refine rd_drop ?_ | refine rd_ret ?_ | refine rd_retN ?_ | refine rd_dif ?_ | refine rd_asg ?_ | refine rd_par ?_ | refine rd_for ?_ | refine rd_break ?_ | refine rd_cont ?_ | refine rd_c ?_ | refine rd_op ?_ | refine rd_un ?_ | refine rd_b ?_ | refine rd_bK ?_ | refine rd_tru ?_ | refine rd_tKb ?_ | refine rd_and ?_ | refine rd_or ?_ | refine rd_not ?_ | refine rd_andV ?_ | refine rd_orV ?_ | refine rd_notV ?_ | refine rd_tvKb ?_ | refine rd_ifE ?_ | refine rd_nil ?_ | refine rd_cons ?_ | refine rd_tup ?_ | refine rd_lst ?_ | refine rd_lstM ?_ | refine rd_cb ?_ | refine rd_call ?_ | refine rd_sp0 ?_ | refine rd_sp1 ?_ | refine rd_sp2 ?_ | refine rd_sp3 ?_ | refine rd_int ?_ | refine rd_intb ?_ | refine rd_abs ?_ | refine rd_ii ?_ | refine rd_add ?_ | refine rd_sub ?_ | refine rd_addI ?_ | refine rd_cmp ?_ | refine rd_setI ?_ | refine rd_mt ?_ | refine rd_lc ?_ | refine rd_lcM ?_ | refine rd_yes ?_ | refine rd_wseq ?_ | refine rd_wsT ?_ | refine rd_wsL ?_ | refine rd_wsS ?_ | refine rd_wzip ?_ | refine rd_zipT ?_ | refine rd_rng1 ?_ | refine rd_rng2 ?_ | refine rd_sl ?_ | refine rd_slT ?_ | refine rd_slL ?_ | refine rd_slS ?_ | refine rd_nopart ?_ | refine rd_part ?_ | refine rd_ptK ?_ | refine rd_star ?_ | refine rd_ss ?_ | refine rd_itet ?_ | refine rd_itef ?_ | refine rd_itnt ?_ | refine rd_itnf ?_) | ((with_reducible apply rd_var); (· exact rfl)) | ((with_reducible apply rd_asgK); (· exact rfl)) | ((with_reducible apply rd_parK); (· exact rfl)) | ((with_reducible apply rd_len); (· (first | assumption | exact seqD_ref (by assumption) | exact seqD_up | exact lstD_ref (by assumption) | exact lstD_up | rfl))) | ((with_reducible apply rd_tuple); (· (first | assumption | exact seqD_ref (by assumption) | exact seqD_up | exact lstD_ref (by assumption) | exact lstD_up | rfl))) | ((with_reducible apply rd_list); (· (first | assumption | exact seqD_ref (by assumption) | exact seqD_up | exact lstD_ref (by assumption) | exact lstD_up | rfl))) | ((with_reducible apply rd_stK); (· (first | assumption | exact seqD_ref (by assumption) | exact seqD_up | exact lstD_ref (by assumption) | exact lstD_up | rfl))) | ((with_reducible apply rd_ix); (· (first | assumption | exact seqD_ref (by assumption) | exact seqD_up | exact lstD_ref (by assumption) | exact lstD_up | rfl)); (· (first | exact atI_c0 _ _ | exact atI_c1 _ _ _ | exact atI_c2 _ _ _ _ | assumption | rfl))) | ((with_reducible apply rd_set30); (· (first | assumption | exact gup_same))) | ((with_reducible apply rd_set32); (· (first | assumption | exact gup_same))) | ((with_reducible apply rd_some); (· (first | assumption | exact seqD_ref (by assumption) | exact seqD_up | exact lstD_ref (by assumption) | exact lstD_up | rfl)))))
  refine rd_loop rfl ?_
  (repeat (first | (with_reducible first | refine rd_seq ?_ | refine rd_seqE ?_ | refine rd_next ?_ | refine rd_rtE ?_ | refine rd_nxE ?_ | refine rd_nx ?_ | refine rd_rt ?_ | refine rd_ct ?_ | refine rd_bk ?_ | refine rd_drop ?_ | refine rd_ret ?_ | refine rd_retN ?_ | refine rd_dif ?_ | refine rd_asg ?_ | refine rd_par ?_ | refine rd_for ?_ | refine rd_break ?_ | refine rd_cont ?_ | refine rd_c ?_ | refine rd_op ?_ | refine rd_un ?_ | refine rd_b ?_ | refine rd_bK ?_ | refine rd_tru ?_ | refine rd_tKb ?_ | refine rd_and ?_ | refine rd_or ?_ | refine rd_not ?_ | refine rd_andV ?_ | refine rd_orV ?_ | refine rd_notV ?_ | refine rd_tvKb ?_ | refine rd_ifE ?_ | refine rd_nil ?_ | refine rd_cons ?_ | refine rd_tup ?_ | refine rd_lst ?_ | refine rd_lstM ?_ | refine rd_cb ?_ | refine rd_call ?_ | refine rd_sp0 ?_ | refine rd_sp1 ?_ | refine rd_sp2 ?_ | refine rd_sp3 ?_ | refine rd_int ?_ | refine rd_intb ?_ | refine rd_abs ?_ | refine rd_ii ?_ | refine rd_add ?_ | refine rd_sub ?_ | refine rd_addI ?_ | refine rd_cmp ?_ | refine rd_setI ?_ | refine rd_mt ?_ | refine rd_lc ?_ | refine rd_lcM ?_ | refine rd_yes ?_ | refine rd_wseq ?_ | refine rd_wsT ?_ | refine rd_wsL ?_ | refine rd_wsS ?_ | refine rd_wzip ?_ | refine rd_zipT ?_ | refine rd_rng1 ?_ | refine rd_rng2 ?_ | refine rd_sl ?_ | refine rd_slT ?_ | refine rd_slL ?_ | refine rd_slS ?_ | refine rd_nopart ?_ | refine rd_part ?_ | refine rd_ptK ?_ | refine rd_star ?_ | refine rd_ss ?_ | refine rd_itet ?_ | refine rd_itef ?_ | refine rd_itnt ?_ | refine rd_itnf ?_) | ((with_reducible apply rd_var); (· exact rfl)) | ((with_reducible apply rd_asgK); (· exact rfl)) | ((with_reducible apply rd_parK); (· exact rfl)) | ((with_reducible apply rd_len); (· (first | assumption | exact seqD_ref (by assumption) | exact seqD_up | exact lstD_ref (by assumption) | exact lstD_up | rfl))) | ((with_reducible apply rd_tuple); (· (first | assumption | exact seqD_ref (by assumption) | exact seqD_up | exact lstD_ref (by assumption) | exact lstD_up | rfl))) | ((with_reducible apply rd_list); (· (first | assumption | exact seqD_ref (by assumption) | exact seqD_up | exact lstD_ref (by assumption) | exact lstD_up | rfl))) | ((with_reducible apply rd_stK); (· (first | assumption | exact seqD_ref (by assumption) | exact seqD_up | exact lstD_ref (by assumption) | exact lstD_up | rfl))) | ((with_reducible apply rd_ix); (· (first | assumption | exact seqD_ref (by assumption) | exact seqD_up | exact lstD_ref (by assumption) | exact lstD_up | rfl)); (· (first | exact atI_c0 _ _ | exact atI_c1 _ _ _ | exact atI_c2 _ _ _ _ | assumption | rfl))) | ((with_reducible apply rd_set30); (· (first | assumption | exact gup_same))) | ((with_reducible apply rd_set32); (· (first | assumption | exact gup_same))) | ((with_reducible apply rd_some); (· (first | assumption | exact seqD_ref (by assumption) | exact seqD_up | exact lstD_ref (by assumption) | exact lstD_up | rfl)))))
  refine ⟨lo A B, A, rfl, rfl, hl.len, hA.len, ?_⟩
  rw [below_be, lo_be]
  (repeat (first | (with_reducible first | refine rd_seq ?_ | refine rd_seqE ?_ | refine rd_next ?_ | refine rd_rtE ?_ | refine rd_nxE ?_ | refine rd_nx ?_ | refine rd_rt ?_ | refine rd_ct ?_ | refine rd_bk ?_ | refine rd_drop ?_ | refine rd_ret ?_ | refine rd_retN ?_ | refine rd_dif ?_ | refine rd_asg ?_ | refine rd_par ?_ | refine rd_for ?_ | refine rd_break ?_ | refine rd_cont ?_ | refine rd_c ?_ | refine rd_op ?_ | refine rd_un ?_ | refine rd_b ?_ | refine rd_bK ?_ | refine rd_tru ?_ | refine rd_tKb ?_ | refine rd_and ?_ | refine rd_or ?_ | refine rd_not ?_ | refine rd_andV ?_ | refine rd_orV ?_ | refine rd_notV ?_ | refine rd_tvKb ?_ | refine rd_ifE ?_ | refine rd_nil ?_ | refine rd_cons ?_ | refine rd_tup ?_ | refine rd_lst ?_ | refine rd_lstM ?_ | refine rd_cb ?_ | refine rd_call ?_ | refine rd_sp0 ?_ | refine rd_sp1 ?_ | refine rd_sp2 ?_ | refine rd_sp3 ?_ | refine rd_int ?_ | refine rd_intb ?_ | refine rd_abs ?_ | refine rd_ii ?_ | refine rd_add ?_ | refine rd_sub ?_ | refine rd_addI ?_ | refine rd_cmp ?_ | refine rd_setI ?_ | refine rd_mt ?_ | refine rd_lc ?_ | refine rd_lcM ?_ | refine rd_yes ?_ | refine rd_wseq ?_ | refine rd_wsT ?_ | refine rd_wsL ?_ | refine rd_wsS ?_ | refine rd_wzip ?_ | refine rd_zipT ?_ | refine rd_rng1 ?_ | refine rd_rng2 ?_ | refine rd_sl ?_ | refine rd_slT ?_ | refine rd_slL ?_ | refine rd_slS ?_ | refine rd_nopart ?_ | refine rd_part ?_ | refine rd_ptK ?_ | refine rd_star ?_ | refine rd_ss ?_ | refine rd_itet ?_ | refine rd_itef ?_ | refine rd_itnt ?_ | refine rd_itnf ?_) | ((with_reducible apply rd_var); (· exact rfl)) | ((with_reducible apply rd_asgK); (· exact rfl)) | ((with_reducible apply rd_parK); (· exact rfl)) | ((with_reducible apply rd_len); (· (first | assumption | exact seqD_ref (by assumption) | exact seqD_up | exact lstD_ref (by assumption) | exact lstD_up | rfl))) | ((with_reducible apply rd_tuple); (· (first | assumption | exact seqD_ref (by assumption) | exact seqD_up | exact lstD_ref (by assumption) | exact lstD_up | rfl))) | ((with_reducible apply rd_list); (· (first | assumption | exact seqD_ref (by assumption) | exact seqD_up | exact lstD_ref (by assumption) | exact lstD_up | rfl))) | ((with_reducible apply rd_stK); (· (first | assumption | exact seqD_ref (by assumption) | exact seqD_up | exact lstD_ref (by assumption) | exact lstD_up | rfl))) | ((with_reducible apply rd_ix); (· (first | assumption | exact seqD_ref (by assumption) | exact seqD_up | exact lstD_ref (by assumption) | exact lstD_up | rfl)); (· (first | exact atI_c0 _ _ | exact atI_c1 _ _ _ | exact atI_c2 _ _ _ _ | assumption | rfl))) | ((with_reducible apply rd_set30); (· (first | assumption | exact gup_same))) | ((with_reducible apply rd_set32); (· (first | assumption | exact gup_same))) | ((with_reducible apply rd_some); (· (first | assumption | exact seqD_ref (by assumption) | exact seqD_up | exact lstD_ref (by assumption) | exact lstD_up | rfl)))))
  refine ⟨A, up A B, rfl, rfl, hA.len, hu.len, ?_⟩
  rw [below_be, be_up]
  (repeat (first | (with_reducible first | refine rd_seq ?_ | refine rd_seqE ?_ | refine rd_next ?_ | refine rd_rtE ?_ | refine rd_nxE ?_ | refine rd_nx ?_ | refine rd_rt ?_ | refine rd_ct ?_ | refine rd_bk ?_ | refine rd_drop ?_ | refine rd_ret ?_ | refine rd_retN ?_ | refine rd_dif ?_ | refine rd_asg ?_ | refine rd_par ?_ | refine rd_for ?_ | refine rd_break ?_ | refine rd_cont ?_ | refine rd_c ?_ | refine rd_op ?_ | refine rd_un ?_ | refine rd_b ?_ | refine rd_bK ?_ | refine rd_tru ?_ | refine rd_tKb ?_ | refine rd_and ?_ | refine rd_or ?_ | refine rd_not ?_ | refine rd_andV ?_ | refine rd_orV ?_ | refine rd_notV ?_ | refine rd_tvKb ?_ | refine rd_ifE ?_ | refine rd_nil ?_ | refine rd_cons ?_ | refine rd_tup ?_ | refine rd_lst ?_ | refine rd_lstM ?_ | refine rd_cb ?_ | refine rd_call ?_ | refine rd_sp0 ?_ | refine rd_sp1 ?_ | refine rd_sp2 ?_ | refine rd_sp3 ?_ | refine rd_int ?_ | refine rd_intb ?_ | refine rd_abs ?_ | refine rd_ii ?_ | refine rd_add ?_ | refine rd_sub ?_ | refine rd_addI ?_ | refine rd_cmp ?_ | refine rd_setI ?_ | refine rd_mt ?_ | refine rd_lc ?_ | refine rd_lcM ?_ | refine rd_yes ?_ | refine rd_wseq ?_ | refine rd_wsT ?_ | refine rd_wsL ?_ | refine rd_wsS ?_ | refine rd_wzip ?_ | refine rd_zipT ?_ | refine rd_rng1 ?_ | refine rd_rng2 ?_ | refine rd_sl ?_ | refine rd_slT ?_ | refine rd_slL ?_ | refine rd_slS ?_ | refine rd_nopart ?_ | refine rd_part ?_ | refine rd_ptK ?_ | refine rd_star ?_ | refine rd_ss ?_ | refine rd_itet ?_ | refine rd_itef ?_ | refine rd_itnt ?_ | refine rd_itnf ?_) | ((with_reducible apply rd_var); (· exact rfl)) | ((with_reducible apply rd_asgK); (· exact rfl)) | ((with_reducible apply rd_parK); (· exact rfl)) | ((with_reducible apply rd_len); (· (first | assumption | exact seqD_ref (by assumption) | exact seqD_up | exact lstD_ref (by assumption) | exact lstD_up | rfl))) | ((with_reducible apply rd_tuple); (· (first | assumption | exact seqD_ref (by assumption) | exact seqD_up | exact lstD_ref (by assumption) | exact lstD_up | rfl))) | ((with_reducible apply rd_list); (· (first | assumption | exact seqD_ref (by assumption) | exact seqD_up | exact lstD_ref (by assumption) | exact lstD_up | rfl))) | ((with_reducible apply rd_stK); (· (first | assumption | exact seqD_ref (by assumption) | exact seqD_up | exact lstD_ref (by assumption) | exact lstD_up | rfl))) | ((with_reducible apply rd_ix); (· (first | assumption | exact seqD_ref (by assumption) | exact seqD_up | exact lstD_ref (by assumption) | exact lstD_up | rfl)); (· (first | exact atI_c0 _ _ | exact atI_c1 _ _ _ | exact atI_c2 _ _ _ _ | assumption | rfl))) | ((with_reducible apply rd_set30); (· (first | assumption | exact gup_same))) | ((with_reducible apply rd_set32); (· (first | assumption | exact gup_same))) | ((with_reducible apply rd_some); (· (first | assumption | exact seqD_ref (by assumption) | exact seqD_up | exact lstD_ref (by assumption) | exact lstD_up | rfl)))))
  refine ⟨lo A B, A, rfl, hl, rfl, hA, ?_⟩
  rw [below_be, lo_be]
  (repeat (first | (with_reducible first | refine rd_seq ?_ | refine rd_seqE ?_ | refine rd_next ?_ | refine rd_rtE ?_ | refine rd_nxE ?_ | refine rd_nx ?_ | refine rd_rt ?_ | refine rd_ct ?_ | refine rd_bk ?_ | refine rd_drop ?_ | refine rd_ret ?_ | refine rd_retN ?_ | refine rd_dif ?_ | refine rd_asg ?_ | refine rd_par ?_ | refine rd_for ?_ | refine rd_break ?_ | refine rd_cont ?_ | refine rd_c ?_ | refine rd_op ?_ | refine rd_un ?_ | refine rd_b ?_ | refine rd_bK ?_ | refine rd_tru ?_ | refine rd_tKb ?_ | refine rd_and ?_ | refine rd_or ?_ | refine rd_not ?_ | refine rd_andV ?_ | refine rd_orV ?_ | refine rd_notV ?_ | refine rd_tvKb ?_ | refine rd_ifE ?_ | refine rd_nil ?_ | refine rd_cons ?_ | refine rd_tup ?_ | refine rd_lst ?_ | refine rd_lstM ?_ | refine rd_cb ?_ | refine rd_call ?_ | refine rd_sp0 ?_ | refine rd_sp1 ?_ | refine rd_sp2 ?_ | refine rd_sp3 ?_ | refine rd_int ?_ | refine rd_intb ?_ | refine rd_abs ?_ | refine rd_ii ?_ | refine rd_add ?_ | refine rd_sub ?_ | refine rd_addI ?_ | refine rd_cmp ?_ | refine rd_setI ?_ | refine rd_mt ?_ | refine rd_lc ?_ | refine rd_lcM ?_ | refine rd_yes ?_ | refine rd_wseq ?_ | refine rd_wsT ?_ | refine rd_wsL ?_ | refine rd_wsS ?_ | refine rd_wzip ?_ | refine rd_zipT ?_ | refine rd_rng1 ?_ | refine rd_rng2 ?_ | refine rd_sl ?_ | refine rd_slT ?_ | refine rd_slL ?_ | refine rd_slS ?_ | refine rd_nopart ?_ | refine rd_part ?_ | refine rd_ptK ?_ | refine rd_star ?_ | refine rd_ss ?_ | refine rd_itet ?_ | refine rd_itef ?_ | refine rd_itnt ?_ | refine rd_itnf ?_) | ((with_reducible apply rd_var); (· exact rfl)) | ((with_reducible apply rd_asgK); (· exact rfl)) | ((with_reducible apply rd_parK); (· exact rfl)) | ((with_reducible apply rd_len); (· (first | assumption | exact seqD_ref (by assumption) | exact seqD_up | exact lstD_ref (by assumption) | exact lstD_up | rfl))) | ((with_reducible apply rd_tuple); (· (first | assumption | exact seqD_ref (by assumption) | exact seqD_up | exact lstD_ref (by assumption) | exact lstD_up | rfl))) | ((with_reducible apply rd_list); (· (first | assumption | exact seqD_ref (by assumption) | exact seqD_up | exact lstD_ref (by assumption) | exact lstD_up | rfl))) | ((with_reducible apply rd_stK); (· (first | assumption | exact seqD_ref (by assumption) | exact seqD_up | exact lstD_ref (by assumption) | exact lstD_up | rfl))) | ((with_reducible apply rd_ix); (· (first | assumption | exact seqD_ref (by assumption) | exact seqD_up | exact lstD_ref (by assumption) | exact lstD_up | rfl)); (· (first | exact atI_c0 _ _ | exact atI_c1 _ _ _ | exact atI_c2 _ _ _ _ | assumption | rfl))) | ((with_reducible apply rd_set30); (· (first | assumption | exact gup_same))) | ((with_reducible apply rd_set32); (· (first | assumption | exact gup_same))) | ((with_reducible apply rd_some); (· (first | assumption | exact seqD_ref (by assumption) | exact seqD_up | exact lstD_ref (by assumption) | exact lstD_up | rfl)))))
  refine ⟨A, up A B, rfl, hA, rfl, hu, ?_⟩
  rw [below_be, be_up]
  (repeat (first | (with_reducible first | refine rd_seq ?_ | refine rd_seqE ?_ | refine rd_next ?_ | refine rd_rtE ?_ | refine rd_nxE ?_ | refine rd_nx ?_ | refine rd_rt ?_ | refine rd_ct ?_ | refine rd_bk ?_ | refine rd_drop ?_ | refine rd_ret ?_ | refine rd_retN ?_ | refine rd_dif ?_ | refine rd_asg ?_ | refine rd_par ?_ | refine rd_for ?_ | refine rd_break ?_ | refine rd_cont ?_ | refine rd_c ?_ | refine rd_op ?_ | refine rd_un ?_ | refine rd_b ?_ | refine rd_bK ?_ | refine rd_tru ?_ | refine rd_tKb ?_ | refine rd_and ?_ | refine rd_or ?_ | refine rd_not ?_ | refine rd_andV ?_ | refine rd_orV ?_ | refine rd_notV ?_ | refine rd_tvKb ?_ | refine rd_ifE ?_ | refine rd_nil ?_ | refine rd_cons ?_ | refine rd_tup ?_ | refine rd_lst ?_ | refine rd_lstM ?_ | refine rd_cb ?_ | refine rd_call ?_ | refine rd_sp0 ?_ | refine rd_sp1 ?_ | refine rd_sp2 ?_ | refine rd_sp3 ?_ | refine rd_int ?_ | refine rd_intb ?_ | refine rd_abs ?_ | refine rd_ii ?_ | refine rd_add ?_ | refine rd_sub ?_ | refine rd_addI ?_ | refine rd_cmp ?_ | refine rd_setI ?_ | refine rd_mt ?_ | refine rd_lc ?_ | refine rd_lcM ?_ | refine rd_yes ?_ | refine rd_wseq ?_ | refine rd_wsT ?_ | refine rd_wsL ?_ | refine rd_wsS ?_ | refine rd_wzip ?_ | refine rd_zipT ?_ | refine rd_rng1 ?_ | refine rd_rng2 ?_ | refine rd_sl ?_ | refine rd_slT ?_ | refine rd_slL ?_ | refine rd_slS ?_ | refine rd_nopart ?_ | refine rd_part ?_ | refine rd_ptK ?_ | refine rd_star ?_ | refine rd_ss ?_ | refine rd_itet ?_ | refine rd_itef ?_ | refine rd_itnt ?_ | refine rd_itnf ?_) | ((with_reducible apply rd_var); (· exact rfl)) | ((with_reducible apply rd_asgK); (· exact rfl)) | ((with_reducible apply rd_parK); (· exact rfl)) | ((with_reducible apply rd_len); (· (first | assumption | exact seqD_ref (by assumption) | exact seqD_up | exact lstD_ref (by assumption) | exact lstD_up | rfl))) | ((with_reducible apply rd_tuple); (· (first | assumption | exact seqD_ref (by assumption) | exact seqD_up | exact lstD_ref (by assumption) | exact lstD_up | rfl))) | ((with_reducible apply rd_list); (· (first | assumption | exact seqD_ref (by assumption) | exact seqD_up | exact lstD_ref (by assumption) | exact lstD_up | rfl))) | ((with_reducible apply rd_stK); (· (first | assumption | exact seqD_ref (by assumption) | exact seqD_up | exact lstD_ref (by assumption) | exact lstD_up | rfl))) | ((with_reducible apply rd_ix); (· (first | assumption | exact seqD_ref (by assumption) | exact seqD_up | exact lstD_ref (by assumption) | exact lstD_up | rfl)); (· (first | exact atI_c0 _ _ | exact atI_c1 _ _ _ | exact atI_c2 _ _ _ _ | assumption | rfl))) | ((with_reducible apply rd_set30); (· (first | assumption | exact gup_same))) | ((with_reducible apply rd_set32); (· (first | assumption | exact gup_same))) | ((with_reducible apply rd_some); (· (first | assumption | exact seqD_ref (by assumption) | exact seqD_up | exact lstD_ref (by assumption) | exact lstD_up | rfl)))))
  refine rd_loop rfl ?_
  (repeat (first | (with_reducible first | refine rd_seq ?_ | refine rd_seqE ?_ | refine rd_next ?_ | refine rd_rtE ?_ | refine rd_nxE ?_ | refine rd_nx ?_ | refine rd_rt ?_ | refine rd_ct ?_ | refine rd_bk ?_ | refine rd_drop ?_ | refine rd_ret ?_ | refine rd_retN ?_ | refine rd_dif ?_ | refine rd_asg ?_ | refine rd_par ?_ | refine rd_for ?_ | refine rd_break ?_ | refine rd_cont ?_ | refine rd_c ?_ | refine rd_op ?_ | refine rd_un ?_ | refine rd_b ?_ | refine rd_bK ?_ | refine rd_tru ?_ | refine rd_tKb ?_ | refine rd_and ?_ | refine rd_or ?_ | refine rd_not ?_ | refine rd_andV ?_ | refine rd_orV ?_ | refine rd_notV ?_ | refine rd_tvKb ?_ | refine rd_ifE ?_ | refine rd_nil ?_ | refine rd_cons ?_ | refine rd_tup ?_ | refine rd_lst ?_ | refine rd_lstM ?_ | refine rd_cb ?_ | refine rd_call ?_ | refine rd_sp0 ?_ | refine rd_sp1 ?_ | refine rd_sp2 ?_ | refine rd_sp3 ?_ | refine rd_int ?_ | refine rd_intb ?_ | refine rd_abs ?_ | refine rd_ii ?_ | refine rd_add ?_ | refine rd_sub ?_ | refine rd_addI ?_ | refine rd_cmp ?_ | refine rd_setI ?_ | refine rd_mt ?_ | refine rd_lc ?_ | refine rd_lcM ?_ | refine rd_yes ?_ | refine rd_wseq ?_ | refine rd_wsT ?_ | refine rd_wsL ?_ | refine rd_wsS ?_ | refine rd_wzip ?_ | refine rd_zipT ?_ | refine rd_rng1 ?_ | refine rd_rng2 ?_ | refine rd_sl ?_ | refine rd_slT ?_ | refine rd_slL ?_ | refine rd_slS ?_ | refine rd_nopart ?_ | refine rd_part ?_ | refine rd_ptK ?_ | refine rd_star ?_ | refine rd_ss ?_ | refine rd_itet ?_ | refine rd_itef ?_ | refine rd_itnt ?_ | refine rd_itnf ?_) | ((with_reducible apply rd_var); (· exact rfl)) | ((with_reducible apply rd_asgK); (· exact rfl)) | ((with_reducible apply rd_parK); (· exact rfl)) | ((with_reducible apply rd_len); (· (first | assumption | exact seqD_ref (by assumption) | exact seqD_up | exact lstD_ref (by assumption) | exact lstD_up | rfl))) | ((with_reducible apply rd_tuple); (· (first | assumption | exact seqD_ref (by assumption) | exact seqD_up | exact lstD_ref (by assumption) | exact lstD_up | rfl))) | ((with_reducible apply rd_list); (· (first | assumption | exact seqD_ref (by assumption) | exact seqD_up | exact lstD_ref (by assumption) | exact lstD_up | rfl))) | ((with_reducible apply rd_stK); (· (first | assumption | exact seqD_ref (by assumption) | exact seqD_up | exact lstD_ref (by assumption) | exact lstD_up | rfl))) | ((with_reducible apply rd_ix); (· (first | assumption | exact seqD_ref (by assumption) | exact seqD_up | exact lstD_ref (by assumption) | exact lstD_up | rfl)); (· (first | exact atI_c0 _ _ | exact atI_c1 _ _ _ | exact atI_c2 _ _ _ _ | assumption | rfl))) | ((with_reducible apply rd_set30); (· (first | assumption | exact gup_same))) | ((with_reducible apply rd_set32); (· (first | assumption | exact gup_same))) | ((with_reducible apply rd_some); (· (first | assumption | exact seqD_ref (by assumption) | exact seqD_up | exact lstD_ref (by assumption) | exact lstD_up | rfl)))))
  refine ⟨lo A B, B, rfl, rfl, hl.len, hI2.len, ?_⟩
  rw [below_be, lo_be2]
  (repeat (first | (with_reducible first | refine rd_seq ?_ | refine rd_seqE ?_ | refine rd_next ?_ | refine rd_rtE ?_ | refine rd_nxE ?_ | refine rd_nx ?_ | refine rd_rt ?_ | refine rd_ct ?_ | refine rd_bk ?_ | refine rd_drop ?_ | refine rd_ret ?_ | refine rd_retN ?_ | refine rd_dif ?_ | refine rd_asg ?_ | refine rd_par ?_ | refine rd_for ?_ | refine rd_break ?_ | refine rd_cont ?_ | refine rd_c ?_ | refine rd_op ?_ | refine rd_un ?_ | refine rd_b ?_ | refine rd_bK ?_ | refine rd_tru ?_ | refine rd_tKb ?_ | refine rd_and ?_ | refine rd_or ?_ | refine rd_not ?_ | refine rd_andV ?_ | refine rd_orV ?_ | refine rd_notV ?_ | refine rd_tvKb ?_ | refine rd_ifE ?_ | refine rd_nil ?_ | refine rd_cons ?_ | refine rd_tup ?_ | refine rd_lst ?_ | refine rd_lstM ?_ | refine rd_cb ?_ | refine rd_call ?_ | refine rd_sp0 ?_ | refine rd_sp1 ?_ | refine rd_sp2 ?_ | refine rd_sp3 ?_ | refine rd_int ?_ | refine rd_intb ?_ | refine rd_abs ?_ | refine rd_ii ?_ | refine rd_add ?_ | refine rd_sub ?_ | refine rd_addI ?_ | refine rd_cmp ?_ | refine rd_setI ?_ | refine rd_mt ?_ | refine rd_lc ?_ | refine rd_lcM ?_ | refine rd_yes ?_ | refine rd_wseq ?_ | refine rd_wsT ?_ | refine rd_wsL ?_ | refine rd_wsS ?_ | refine rd_wzip ?_ | refine rd_zipT ?_ | refine rd_rng1 ?_ | refine rd_rng2 ?_ | refine rd_sl ?_ | refine rd_slT ?_ | refine rd_slL ?_ | refine rd_slS ?_ | refine rd_nopart ?_ | refine rd_part ?_ | refine rd_ptK ?_ | refine rd_star ?_ | refine rd_ss ?_ | refine rd_itet ?_ | refine rd_itef ?_ | refine rd_itnt ?_ | refine rd_itnf ?_) | ((with_reducible apply rd_var); (· exact rfl)) | ((with_reducible apply rd_asgK); (· exact rfl)) | ((with_reducible apply rd_parK); (· exact rfl)) | ((with_reducible apply rd_len); (· (first | assumption | exact seqD_ref (by assumption) | exact seqD_up | exact lstD_ref (by assumption) | exact lstD_up | rfl))) | ((with_reducible apply rd_tuple); (· (first | assumption | exact seqD_ref (by assumption) | exact seqD_up | exact lstD_ref (by assumption) | exact lstD_up | rfl))) | ((with_reducible apply rd_list); (· (first | assumption | exact seqD_ref (by assumption) | exact seqD_up | exact lstD_ref (by assumption) | exact lstD_up | rfl))) | ((with_reducible apply rd_stK); (· (first | assumption | exact seqD_ref (by assumption) | exact seqD_up | exact lstD_ref (by assumption) | exact lstD_up | rfl))) | ((with_reducible apply rd_ix); (· (first | assumption | exact seqD_ref (by assumption) | exact seqD_up | exact lstD_ref (by assumption) | exact lstD_up | rfl)); (· (first | exact atI_c0 _ _ | exact atI_c1 _ _ _ | exact atI_c2 _ _ _ _ | assumption | rfl))) | ((with_reducible apply rd_set30); (· (first | assumption | exact gup_same))) | ((with_reducible apply rd_set32); (· (first | assumption | exact gup_same))) | ((with_reducible apply rd_some); (· (first | assumption | exact seqD_ref (by assumption) | exact seqD_up | exact lstD_ref (by assumption) | exact lstD_up | rfl)))))
  refine ⟨B, up A B, rfl, rfl, hI2.len, hu.len, ?_⟩
  rw [below_be, be_up3]
  (repeat (first | (with_reducible first | refine rd_seq ?_ | refine rd_seqE ?_ | refine rd_next ?_ | refine rd_rtE ?_ | refine rd_nxE ?_ | refine rd_nx ?_ | refine rd_rt ?_ | refine rd_ct ?_ | refine rd_bk ?_ | refine rd_drop ?_ | refine rd_ret ?_ | refine rd_retN ?_ | refine rd_dif ?_ | refine rd_asg ?_ | refine rd_par ?_ | refine rd_for ?_ | refine rd_break ?_ | refine rd_cont ?_ | refine rd_c ?_ | refine rd_op ?_ | refine rd_un ?_ | refine rd_b ?_ | refine rd_bK ?_ | refine rd_tru ?_ | refine rd_tKb ?_ | refine rd_and ?_ | refine rd_or ?_ | refine rd_not ?_ | refine rd_andV ?_ | refine rd_orV ?_ | refine rd_notV ?_ | refine rd_tvKb ?_ | refine rd_ifE ?_ | refine rd_nil ?_ | refine rd_cons ?_ | refine rd_tup ?_ | refine rd_lst ?_ | refine rd_lstM ?_ | refine rd_cb ?_ | refine rd_call ?_ | refine rd_sp0 ?_ | refine rd_sp1 ?_ | refine rd_sp2 ?_ | refine rd_sp3 ?_ | refine rd_int ?_ | refine rd_intb ?_ | refine rd_abs ?_ | refine rd_ii ?_ | refine rd_add ?_ | refine rd_sub ?_ | refine rd_addI ?_ | refine rd_cmp ?_ | refine rd_setI ?_ | refine rd_mt ?_ | refine rd_lc ?_ | refine rd_lcM ?_ | refine rd_yes ?_ | refine rd_wseq ?_ | refine rd_wsT ?_ | refine rd_wsL ?_ | refine rd_wsS ?_ | refine rd_wzip ?_ | refine rd_zipT ?_ | refine rd_rng1 ?_ | refine rd_rng2 ?_ | refine rd_sl ?_ | refine rd_slT ?_ | refine rd_slL ?_ | refine rd_slS ?_ | refine rd_nopart ?_ | refine rd_part ?_ | refine rd_ptK ?_ | refine rd_star ?_ | refine rd_ss ?_ | refine rd_itet ?_ | refine rd_itef ?_ | refine rd_itnt ?_ | refine rd_itnf ?_) | ((with_reducible apply rd_var); (· exact rfl)) | ((with_reducible apply rd_asgK); (· exact rfl)) | ((with_reducible apply rd_parK); (· exact rfl)) | ((with_reducible apply rd_len); (· (first | assumption | exact seqD_ref (by assumption) | exact seqD_up | exact lstD_ref (by assumption) | exact lstD_up | rfl))) | ((with_reducible apply rd_tuple); (· (first | assumption | exact seqD_ref (by assumption) | exact seqD_up | exact lstD_ref (by assumption) | exact lstD_up | rfl))) | ((with_reducible apply rd_list); (· (first | assumption | exact seqD_ref (by assumption) | exact seqD_up | exact lstD_ref (by assumption) | exact lstD_up | rfl))) | ((with_reducible apply rd_stK); (· (first | assumption | exact seqD_ref (by assumption) | exact seqD_up | exact lstD_ref (by assumption) | exact lstD_up | rfl))) | ((with_reducible apply rd_ix); (· (first | assumption | exact seqD_ref (by assumption) | exact seqD_up | exact lstD_ref (by assumption) | exact lstD_up | rfl)); (· (first | exact atI_c0 _ _ | exact atI_c1 _ _ _ | exact atI_c2 _ _ _ _ | assumption | rfl))) | ((with_reducible apply rd_set30); (· (first | assumption | exact gup_same))) | ((with_reducible apply rd_set32); (· (first | assumption | exact gup_same))) | ((with_reducible apply rd_some); (· (first | assumption | exact seqD_ref (by assumption) | exact seqD_up | exact lstD_ref (by assumption) | exact lstD_up | rfl)))))
  refine ⟨lo A B, B, rfl, hl, rfl, hI2, ?_⟩
  rw [below_be, lo_be2]
  (repeat (first | (with_reducible first | refine rd_seq ?_ | refine rd_seqE ?_ | refine rd_next ?_ | refine rd_rtE ?_ | refine rd_nxE ?_ | refine rd_nx ?_ | refine rd_rt ?_ | refine rd_ct ?_ | refine rd_bk ?_ | refine rd_drop ?_ | refine rd_ret ?_ | refine rd_retN ?_ | refine rd_dif ?_ | refine rd_asg ?_ | refine rd_par ?_ | refine rd_for ?_ | refine rd_break ?_ | refine rd_cont ?_ | refine rd_c ?_ | refine rd_op ?_ | refine rd_un ?_ | refine rd_b ?_ | refine rd_bK ?_ | refine rd_tru ?_ | refine rd_tKb ?_ | refine rd_and ?_ | refine rd_or ?_ | refine rd_not ?_ | refine rd_andV ?_ | refine rd_orV ?_ | refine rd_notV ?_ | refine rd_tvKb ?_ | refine rd_ifE ?_ | refine rd_nil ?_ | refine rd_cons ?_ | refine rd_tup ?_ | refine rd_lst ?_ | refine rd_lstM ?_ | refine rd_cb ?_ | refine rd_call ?_ | refine rd_sp0 ?_ | refine rd_sp1 ?_ | refine rd_sp2 ?_ | refine rd_sp3 ?_ | refine rd_int ?_ | refine rd_intb ?_ | refine rd_abs ?_ | refine rd_ii ?_ | refine rd_add ?_ | refine rd_sub ?_ | refine rd_addI ?_ | refine rd_cmp ?_ | refine rd_setI ?_ | refine rd_mt ?_ | refine rd_lc ?_ | refine rd_lcM ?_ | refine rd_yes ?_ | refine rd_wseq ?_ | refine rd_wsT ?_ | refine rd_wsL ?_ | refine rd_wsS ?_ | refine rd_wzip ?_ | refine rd_zipT ?_ | refine rd_rng1 ?_ | refine rd_rng2 ?_ | refine rd_sl ?_ | refine rd_slT ?_ | refine rd_slL ?_ | refine rd_slS ?_ | refine rd_nopart ?_ | refine rd_part ?_ | refine rd_ptK ?_ | refine rd_star ?_ | refine rd_ss ?_ | refine rd_itet ?_ | refine rd_itef ?_ | refine rd_itnt ?_ | refine rd_itnf ?_) | ((with_reducible apply rd_var); (· exact rfl)) | ((with_reducible apply rd_asgK); (· exact rfl)) | ((with_reducible apply rd_parK); (· exact rfl)) | ((with_reducible apply rd_len); (· (first | assumption | exact seqD_ref (by assumption) | exact seqD_up | exact lstD_ref (by assumption) | exact lstD_up | rfl))) | ((with_reducible apply rd_tuple); (· (first | assumption | exact seqD_ref (by assumption) | exact seqD_up | exact lstD_ref (by assumption) | exact lstD_up | rfl))) | ((with_reducible apply rd_list); (· (first | assumption | exact seqD_ref (by assumption) | exact seqD_up | exact lstD_ref (by assumption) | exact lstD_up | rfl))) | ((with_reducible apply rd_stK); (· (first | assumption | exact seqD_ref (by assumption) | exact seqD_up | exact lstD_ref (by assumption) | exact lstD_up | rfl))) | ((with_reducible apply rd_ix); (· (first | assumption | exact seqD_ref (by assumption) | exact seqD_up | exact lstD_ref (by assumption) | exact lstD_up | rfl)); (· (first | exact atI_c0 _ _ | exact atI_c1 _ _ _ | exact atI_c2 _ _ _ _ | assumption | rfl))) | ((with_reducible apply rd_set30); (· (first | assumption | exact gup_same))) | ((with_reducible apply rd_set32); (· (first | assumption | exact gup_same))) | ((with_reducible apply rd_some); (· (first | assumption | exact seqD_ref (by assumption) | exact seqD_up | exact lstD_ref (by assumption) | exact lstD_up | rfl)))))
  refine ⟨B, up A B, rfl, hI2, rfl, hu, ?_⟩
  rw [below_be, be_up3]
  (repeat (first | (with_reducible first | refine rd_seq ?_ | refine rd_seqE ?_ | refine rd_next ?_ | refine rd_rtE ?_ | refine rd_nxE ?_ | refine rd_nx ?_ | refine rd_rt ?_ | refine rd_ct ?_ | refine rd_bk ?_ | refine rd_drop ?_ | refine rd_ret ?_ | refine rd_retN ?_ | refine rd_dif ?_ | refine rd_asg ?_ | refine rd_par ?_ | refine rd_for ?_ | refine rd_break ?_ | refine rd_cont ?_ | refine rd_c ?_ | refine rd_op ?_ | refine rd_un ?_ | refine rd_b ?_ | refine rd_bK ?_ | refine rd_tru ?_ | refine rd_tKb ?_ | refine rd_and ?_ | refine rd_or ?_ | refine rd_not ?_ | refine rd_andV ?_ | refine rd_orV ?_ | refine rd_notV ?_ | refine rd_tvKb ?_ | refine rd_ifE ?_ | refine rd_nil ?_ | refine rd_cons ?_ | refine rd_tup ?_ | refine rd_lst ?_ | refine rd_lstM ?_ | refine rd_cb ?_ | refine rd_call ?_ | refine rd_sp0 ?_ | refine rd_sp1 ?_ | refine rd_sp2 ?_ | refine rd_sp3 ?_ | refine rd_int ?_ | refine rd_intb ?_ | refine rd_abs ?_ | refine rd_ii ?_ | refine rd_add ?_ | refine rd_sub ?_ | refine rd_addI ?_ | refine rd_cmp ?_ | refine rd_setI ?_ | refine rd_mt ?_ | refine rd_lc ?_ | refine rd_lcM ?_ | refine rd_yes ?_ | refine rd_wseq ?_ | refine rd_wsT ?_ | refine rd_wsL ?_ | refine rd_wsS ?_ | refine rd_wzip ?_ | refine rd_zipT ?_ | refine rd_rng1 ?_ | refine rd_rng2 ?_ | refine rd_sl ?_ | refine rd_slT ?_ | refine rd_slL ?_ | refine rd_slS ?_ | refine rd_nopart ?_ | refine rd_part ?_ | refine rd_ptK ?_ | refine rd_star ?_ | refine rd_ss ?_ | refine rd_itet ?_ | refine rd_itef ?_ | refine rd_itnt ?_ | refine rd_itnf ?_) | ((with_reducible apply rd_var); (· exact rfl)) | ((with_reducible apply rd_asgK); (· exact rfl)) | ((with_reducible apply rd_parK); (· exact rfl)) | ((with_reducible apply rd_len); (· (first | assumption | exact seqD_ref (by assumption) | exact seqD_up | exact lstD_ref (by assumption) | exact lstD_up | rfl))) | ((with_reducible apply rd_tuple); (· (first | assumption | exact seqD_ref (by assumption) | exact seqD_up | exact lstD_ref (by assumption) | exact lstD_up | rfl))) | ((with_reducible apply rd_list); (· (first | assumption | exact seqD_ref (by assumption) | exact seqD_up | exact lstD_ref (by assumption) | exact lstD_up | rfl))) | ((with_reducible apply rd_stK); (· (first | assumption | exact seqD_ref (by assumption) | exact seqD_up | exact lstD_ref (by assumption) | exact lstD_up | rfl))) | ((with_reducible apply rd_ix); (· (first | assumption | exact seqD_ref (by assumption) | exact seqD_up | exact lstD_ref (by assumption) | exact lstD_up | rfl)); (· (first | exact atI_c0 _ _ | exact atI_c1 _ _ _ | exact atI_c2 _ _ _ _ | assumption | rfl))) | ((with_reducible apply rd_set30); (· (first | assumption | exact gup_same))) | ((with_reducible apply rd_set32); (· (first | assumption | exact gup_same))) | ((with_reducible apply rd_some); (· (first | assumption | exact seqD_ref (by assumption) | exact seqD_up | exact lstD_ref (by assumption) | exact lstD_up | rfl)))))
  refine rd_loop0 ?_
  (repeat (first | (with_reducible first | refine rd_seq ?_ | refine rd_seqE ?_ | refine rd_next ?_ | refine rd_rtE ?_ | refine rd_nxE ?_ | refine rd_nx ?_ | refine rd_rt ?_ | refine rd_ct ?_ | refine rd_bk ?_ | refine rd_drop ?_ | refine rd_ret ?_ | refine rd_retN ?_ | refine rd_dif ?_ | refine rd_asg ?_ | refine rd_par ?_ | refine rd_for ?_ | refine rd_break ?_ | refine rd_cont ?_ | refine rd_c ?_ | refine rd_op ?_ | refine rd_un ?_ | refine rd_b ?_ | refine rd_bK ?_ | refine rd_tru ?_ | refine rd_tKb ?_ | refine rd_and ?_ | refine rd_or ?_ | refine rd_not ?_ | refine rd_andV ?_ | refine rd_orV ?_ | refine rd_notV ?_ | refine rd_tvKb ?_ | refine rd_ifE ?_ | refine rd_nil ?_ | refine rd_cons ?_ | refine rd_tup ?_ | refine rd_lst ?_ | refine rd_lstM ?_ | refine rd_cb ?_ | refine rd_call ?_ | refine rd_sp0 ?_ | refine rd_sp1 ?_ | refine rd_sp2 ?_ | refine rd_sp3 ?_ | refine rd_int ?_ | refine rd_intb ?_ | refine rd_abs ?_ | refine rd_ii ?_ | refine rd_add ?_ | refine rd_sub ?_ | refine rd_addI ?_ | refine rd_cmp ?_ | refine rd_setI ?_ | refine rd_mt ?_ | refine rd_lc ?_ | refine rd_lcM ?_ | refine rd_yes ?_ | refine rd_wseq ?_ | refine rd_wsT ?_ | refine rd_wsL ?_ | refine rd_wsS ?_ | refine rd_wzip ?_ | refine rd_zipT ?_ | refine rd_rng1 ?_ | refine rd_rng2 ?_ | refine rd_sl ?_ | refine rd_slT ?_ | refine rd_slL ?_ | refine rd_slS ?_ | refine rd_nopart ?_ | refine rd_part ?_ | refine rd_ptK ?_ | refine rd_star ?_ | refine rd_ss ?_ | refine rd_itet ?_ | refine rd_itef ?_ | refine rd_itnt ?_ | refine rd_itnf ?_) | ((with_reducible apply rd_var); (· exact rfl)) | ((with_reducible apply rd_asgK); (· exact rfl)) | ((with_reducible apply rd_parK); (· exact rfl)) | ((with_reducible apply rd_len); (· (first | assumption | exact seqD_ref (by assumption) | exact seqD_up | exact lstD_ref (by assumption) | exact lstD_up | rfl))) | ((with_reducible apply rd_tuple); (· (first | assumption | exact seqD_ref (by assumption) | exact seqD_up | exact lstD_ref (by assumption) | exact lstD_up | rfl))) | ((with_reducible apply rd_list); (· (first | assumption | exact seqD_ref (by assumption) | exact seqD_up | exact lstD_ref (by assumption) | exact lstD_up | rfl))) | ((with_reducible apply rd_stK); (· (first | assumption | exact seqD_ref (by assumption) | exact seqD_up | exact lstD_ref (by assumption) | exact lstD_up | rfl))) | ((with_reducible apply rd_ix); (· (first | assumption | exact seqD_ref (by assumption) | exact seqD_up | exact lstD_ref (by assumption) | exact lstD_up | rfl)); (· (first | exact atI_c0 _ _ | exact atI_c1 _ _ _ | exact atI_c2 _ _ _ _ | assumption | rfl))) | ((with_reducible apply rd_set30); (· (first | assumption | exact gup_same))) | ((with_reducible apply rd_set32); (· (first | assumption | exact gup_same))) | ((with_reducible apply rd_some); (· (first | assumption | exact seqD_ref (by assumption) | exact seqD_up | exact lstD_ref (by assumption) | exact lstD_up | rfl)))))
  refine ⟨B, A, rfl, rfl, hI2, hA, ?_⟩
  rw [lower_lo]
  (repeat (first | (with_reducible first | refine rd_seq ?_ | refine rd_seqE ?_ | refine rd_next ?_ | refine rd_rtE ?_ | refine rd_nxE ?_ | refine rd_nx ?_ | refine rd_rt ?_ | refine rd_ct ?_ | refine rd_bk ?_ | refine rd_drop ?_ | refine rd_ret ?_ | refine rd_retN ?_ | refine rd_dif ?_ | refine rd_asg ?_ | refine rd_par ?_ | refine rd_for ?_ | refine rd_break ?_ | refine rd_cont ?_ | refine rd_c ?_ | refine rd_op ?_ | refine rd_un ?_ | refine rd_b ?_ | refine rd_bK ?_ | refine rd_tru ?_ | refine rd_tKb ?_ | refine rd_and ?_ | refine rd_or ?_ | refine rd_not ?_ | refine rd_andV ?_ | refine rd_orV ?_ | refine rd_notV ?_ | refine rd_tvKb ?_ | refine rd_ifE ?_ | refine rd_nil ?_ | refine rd_cons ?_ | refine rd_tup ?_ | refine rd_lst ?_ | refine rd_lstM ?_ | refine rd_cb ?_ | refine rd_call ?_ | refine rd_sp0 ?_ | refine rd_sp1 ?_ | refine rd_sp2 ?_ | refine rd_sp3 ?_ | refine rd_int ?_ | refine rd_intb ?_ | refine rd_abs ?_ | refine rd_ii ?_ | refine rd_add ?_ | refine rd_sub ?_ | refine rd_addI ?_ | refine rd_cmp ?_ | refine rd_setI ?_ | refine rd_mt ?_ | refine rd_lc ?_ | refine rd_lcM ?_ | refine rd_yes ?_ | refine rd_wseq ?_ | refine rd_wsT ?_ | refine rd_wsL ?_ | refine rd_wsS ?_ | refine rd_wzip ?_ | refine rd_zipT ?_ | refine rd_rng1 ?_ | refine rd_rng2 ?_ | refine rd_sl ?_ | refine rd_slT ?_ | refine rd_slL ?_ | refine rd_slS ?_ | refine rd_nopart ?_ | refine rd_part ?_ | refine rd_ptK ?_ | refine rd_star ?_ | refine rd_ss ?_ | refine rd_itet ?_ | refine rd_itef ?_ | refine rd_itnt ?_ | refine rd_itnf ?_) | ((with_reducible apply rd_var); (· exact rfl)) | ((with_reducible apply rd_asgK); (· exact rfl)) | ((with_reducible apply rd_parK); (· exact rfl)) | ((with_reducible apply rd_len); (· (first | assumption | exact seqD_ref (by assumption) | exact seqD_up | exact lstD_ref (by assumption) | exact lstD_up | rfl))) | ((with_reducible apply rd_tuple); (· (first | assumption | exact seqD_ref (by assumption) | exact seqD_up | exact lstD_ref (by assumption) | exact lstD_up | rfl))) | ((with_reducible apply rd_list); (· (first | assumption | exact seqD_ref (by assumption) | exact seqD_up | exact lstD_ref (by assumption) | exact lstD_up | rfl))) | ((with_reducible apply rd_stK); (· (first | assumption | exact seqD_ref (by assumption) | exact seqD_up | exact lstD_ref (by assumption) | exact lstD_up | rfl))) | ((with_reducible apply rd_ix); (· (first | assumption | exact seqD_ref (by assumption) | exact seqD_up | exact lstD_ref (by assumption) | exact lstD_up | rfl)); (· (first | exact atI_c0 _ _ | exact atI_c1 _ _ _ | exact atI_c2 _ _ _ _ | assumption | rfl))) | ((with_reducible apply rd_set30); (· (first | assumption | exact gup_same))) | ((with_reducible apply rd_set32); (· (first | assumption | exact gup_same))) | ((with_reducible apply rd_some); (· (first | assumption | exact seqD_ref (by assumption) | exact seqD_up | exact lstD_ref (by assumption) | exact lstD_up | rfl)))))
  refine rd_neT (lo_comm B A) ?_
  (repeat (first | (with_reducible first | refine rd_seq ?_ | refine rd_seqE ?_ | refine rd_next ?_ | refine rd_rtE ?_ | refine rd_nxE ?_ | refine rd_nx ?_ | refine rd_rt ?_ | refine rd_ct ?_ | refine rd_bk ?_ | refine rd_drop ?_ | refine rd_ret ?_ | refine rd_retN ?_ | refine rd_dif ?_ | refine rd_asg ?_ | refine rd_par ?_ | refine rd_for ?_ | refine rd_break ?_ | refine rd_cont ?_ | refine rd_c ?_ | refine rd_op ?_ | refine rd_un ?_ | refine rd_b ?_ | refine rd_bK ?_ | refine rd_tru ?_ | refine rd_tKb ?_ | refine rd_and ?_ | refine rd_or ?_ | refine rd_not ?_ | refine rd_andV ?_ | refine rd_orV ?_ | refine rd_notV ?_ | refine rd_tvKb ?_ | refine rd_ifE ?_ | refine rd_nil ?_ | refine rd_cons ?_ | refine rd_tup ?_ | refine rd_lst ?_ | refine rd_lstM ?_ | refine rd_cb ?_ | refine rd_call ?_ | refine rd_sp0 ?_ | refine rd_sp1 ?_ | refine rd_sp2 ?_ | refine rd_sp3 ?_ | refine rd_int ?_ | refine rd_intb ?_ | refine rd_abs ?_ | refine rd_ii ?_ | refine rd_add ?_ | refine rd_sub ?_ | refine rd_addI ?_ | refine rd_cmp ?_ | refine rd_setI ?_ | refine rd_mt ?_ | refine rd_lc ?_ | refine rd_lcM ?_ | refine rd_yes ?_ | refine rd_wseq ?_ | refine rd_wsT ?_ | refine rd_wsL ?_ | refine rd_wsS ?_ | refine rd_wzip ?_ | refine rd_zipT ?_ | refine rd_rng1 ?_ | refine rd_rng2 ?_ | refine rd_sl ?_ | refine rd_slT ?_ | refine rd_slL ?_ | refine rd_slS ?_ | refine rd_nopart ?_ | refine rd_part ?_ | refine rd_ptK ?_ | refine rd_star ?_ | refine rd_ss ?_ | refine rd_itet ?_ | refine rd_itef ?_ | refine rd_itnt ?_ | refine rd_itnf ?_) | ((with_reducible apply rd_var); (· exact rfl)) | ((with_reducible apply rd_asgK); (· exact rfl)) | ((with_reducible apply rd_parK); (· exact rfl)) | ((with_reducible apply rd_len); (· (first | assumption | exact seqD_ref (by assumption) | exact seqD_up | exact lstD_ref (by assumption) | exact lstD_up | rfl))) | ((with_reducible apply rd_tuple); (· (first | assumption | exact seqD_ref (by assumption) | exact seqD_up | exact lstD_ref (by assumption) | exact lstD_up | rfl))) | ((with_reducible apply rd_list); (· (first | assumption | exact seqD_ref (by assumption) | exact seqD_up | exact lstD_ref (by assumption) | exact lstD_up | rfl))) | ((with_reducible apply rd_stK); (· (first | assumption | exact seqD_ref (by assumption) | exact seqD_up | exact lstD_ref (by assumption) | exact lstD_up | rfl))) | ((with_reducible apply rd_ix); (· (first | assumption | exact seqD_ref (by assumption) | exact seqD_up | exact lstD_ref (by assumption) | exact lstD_up | rfl)); (· (first | exact atI_c0 _ _ | exact atI_c1 _ _ _ | exact atI_c2 _ _ _ _ | assumption | rfl))) | ((with_reducible apply rd_set30); (· (first | assumption | exact gup_same))) | ((with_reducible apply rd_set32); (· (first | assumption | exact gup_same))) | ((with_reducible apply rd_some); (· (first | assumption | exact seqD_ref (by assumption) | exact seqD_up | exact lstD_ref (by assumption) | exact lstD_up | rfl)))))
  refine ⟨B, A, rfl, rfl, hI2, hA, ?_⟩
  rw [upper_up]
  (repeat (first | (with_reducible first | refine rd_seq ?_ | refine rd_seqE ?_ | refine rd_next ?_ | refine rd_rtE ?_ | refine rd_nxE ?_ | refine rd_nx ?_ | refine rd_rt ?_ | refine rd_ct ?_ | refine rd_bk ?_ | refine rd_drop ?_ | refine rd_ret ?_ | refine rd_retN ?_ | refine rd_dif ?_ | refine rd_asg ?_ | refine rd_par ?_ | refine rd_for ?_ | refine rd_break ?_ | refine rd_cont ?_ | refine rd_c ?_ | refine rd_op ?_ | refine rd_un ?_ | refine rd_b ?_ | refine rd_bK ?_ | refine rd_tru ?_ | refine rd_tKb ?_ | refine rd_and ?_ | refine rd_or ?_ | refine rd_not ?_ | refine rd_andV ?_ | refine rd_orV ?_ | refine rd_notV ?_ | refine rd_tvKb ?_ | refine rd_ifE ?_ | refine rd_nil ?_ | refine rd_cons ?_ | refine rd_tup ?_ | refine rd_lst ?_ | refine rd_lstM ?_ | refine rd_cb ?_ | refine rd_call ?_ | refine rd_sp0 ?_ | refine rd_sp1 ?_ | refine rd_sp2 ?_ | refine rd_sp3 ?_ | refine rd_int ?_ | refine rd_intb ?_ | refine rd_abs ?_ | refine rd_ii ?_ | refine rd_add ?_ | refine rd_sub ?_ | refine rd_addI ?_ | refine rd_cmp ?_ | refine rd_setI ?_ | refine rd_mt ?_ | refine rd_lc ?_ | refine rd_lcM ?_ | refine rd_yes ?_ | refine rd_wseq ?_ | refine rd_wsT ?_ | refine rd_wsL ?_ | refine rd_wsS ?_ | refine rd_wzip ?_ | refine rd_zipT ?_ | refine rd_rng1 ?_ | refine rd_rng2 ?_ | refine rd_sl ?_ | refine rd_slT ?_ | refine rd_slL ?_ | refine rd_slS ?_ | refine rd_nopart ?_ | refine rd_part ?_ | refine rd_ptK ?_ | refine rd_star ?_ | refine rd_ss ?_ | refine rd_itet ?_ | refine rd_itef ?_ | refine rd_itnt ?_ | refine rd_itnf ?_) | ((with_reducible apply rd_var); (· exact rfl)) | ((with_reducible apply rd_asgK); (· exact rfl)) | ((with_reducible apply rd_parK); (· exact rfl)) | ((with_reducible apply rd_len); (· (first | assumption | exact seqD_ref (by assumption) | exact seqD_up | exact lstD_ref (by assumption) | exact lstD_up | rfl))) | ((with_reducible apply rd_tuple); (· (first | assumption | exact seqD_ref (by assumption) | exact seqD_up | exact lstD_ref (by assumption) | exact lstD_up | rfl))) | ((with_reducible apply rd_list); (· (first | assumption | exact seqD_ref (by assumption) | exact seqD_up | exact lstD_ref (by assumption) | exact lstD_up | rfl))) | ((with_reducible apply rd_stK); (· (first | assumption | exact seqD_ref (by assumption) | exact seqD_up | exact lstD_ref (by assumption) | exact lstD_up | rfl))) | ((with_reducible apply rd_ix); (· (first | assumption | exact seqD_ref (by assumption) | exact seqD_up | exact lstD_ref (by assumption) | exact lstD_up | rfl)); (· (first | exact atI_c0 _ _ | exact atI_c1 _ _ _ | exact atI_c2 _ _ _ _ | assumption | rfl))) | ((with_reducible apply rd_set30); (· (first | assumption | exact gup_same))) | ((with_reducible apply rd_set32); (· (first | assumption | exact gup_same))) | ((with_reducible apply rd_some); (· (first | assumption | exact seqD_ref (by assumption) | exact seqD_up | exact lstD_ref (by assumption) | exact lstD_up | rfl)))))
  refine rd_neT (up_comm B A) ?_
  (repeat (first | (with_reducible first | refine rd_seq ?_ | refine rd_seqE ?_ | refine rd_next ?_ | refine rd_rtE ?_ | refine rd_nxE ?_ | refine rd_nx ?_ | refine rd_rt ?_ | refine rd_ct ?_ | refine rd_bk ?_ | refine rd_drop ?_ | refine rd_ret ?_ | refine rd_retN ?_ | refine rd_dif ?_ | refine rd_asg ?_ | refine rd_par ?_ | refine rd_for ?_ | refine rd_break ?_ | refine rd_cont ?_ | refine rd_c ?_ | refine rd_op ?_ | refine rd_un ?_ | refine rd_b ?_ | refine rd_bK ?_ | refine rd_tru ?_ | refine rd_tKb ?_ | refine rd_and ?_ | refine rd_or ?_ | refine rd_not ?_ | refine rd_andV ?_ | refine rd_orV ?_ | refine rd_notV ?_ | refine rd_tvKb ?_ | refine rd_ifE ?_ | refine rd_nil ?_ | refine rd_cons ?_ | refine rd_tup ?_ | refine rd_lst ?_ | refine rd_lstM ?_ | refine rd_cb ?_ | refine rd_call ?_ | refine rd_sp0 ?_ | refine rd_sp1 ?_ | refine rd_sp2 ?_ | refine rd_sp3 ?_ | refine rd_int ?_ | refine rd_intb ?_ | refine rd_abs ?_ | refine rd_ii ?_ | refine rd_add ?_ | refine rd_sub ?_ | refine rd_addI ?_ | refine rd_cmp ?_ | refine rd_setI ?_ | refine rd_mt ?_ | refine rd_lc ?_ | refine rd_lcM ?_ | refine rd_yes ?_ | refine rd_wseq ?_ | refine rd_wsT ?_ | refine rd_wsL ?_ | refine rd_wsS ?_ | refine rd_wzip ?_ | refine rd_zipT ?_ | refine rd_rng1 ?_ | refine rd_rng2 ?_ | refine rd_sl ?_ | refine rd_slT ?_ | refine rd_slL ?_ | refine rd_slS ?_ | refine rd_nopart ?_ | refine rd_part ?_ | refine rd_ptK ?_ | refine rd_star ?_ | refine rd_ss ?_ | refine rd_itet ?_ | refine rd_itef ?_ | refine rd_itnt ?_ | refine rd_itnf ?_) | ((with_reducible apply rd_var); (· exact rfl)) | ((with_reducible apply rd_asgK); (· exact rfl)) | ((with_reducible apply rd_parK); (· exact rfl)) | ((with_reducible apply rd_len); (· (first | assumption | exact seqD_ref (by assumption) | exact seqD_up | exact lstD_ref (by assumption) | exact lstD_up | rfl))) | ((with_reducible apply rd_tuple); (· (first | assumption | exact seqD_ref (by assumption) | exact seqD_up | exact lstD_ref (by assumption) | exact lstD_up | rfl))) | ((with_reducible apply rd_list); (· (first | assumption | exact seqD_ref (by assumption) | exact seqD_up | exact lstD_ref (by assumption) | exact lstD_up | rfl))) | ((with_reducible apply rd_stK); (· (first | assumption | exact seqD_ref (by assumption) | exact seqD_up | exact lstD_ref (by assumption) | exact lstD_up | rfl))) | ((with_reducible apply rd_ix); (· (first | assumption | exact seqD_ref (by assumption) | exact seqD_up | exact lstD_ref (by assumption) | exact lstD_up | rfl)); (· (first | exact atI_c0 _ _ | exact atI_c1 _ _ _ | exact atI_c2 _ _ _ _ | assumption | rfl))) | ((with_reducible apply rd_set30); (· (first | assumption | exact gup_same))) | ((with_reducible apply rd_set32); (· (first | assumption | exact gup_same))) | ((with_reducible apply rd_some); (· (first | assumption | exact seqD_ref (by assumption) | exact seqD_up | exact lstD_ref (by assumption) | exact lstD_up | rfl)))))
  refine ⟨A, up A B, rfl, rfl, hA, hu, ?_⟩
  rw [lower_lo]
  (repeat (first | (with_reducible first | refine rd_seq ?_ | refine rd_seqE ?_ | refine rd_next ?_ | refine rd_rtE ?_ | refine rd_nxE ?_ | refine rd_nx ?_ | refine rd_rt ?_ | refine rd_ct ?_ | refine rd_bk ?_ | refine rd_drop ?_ | refine rd_ret ?_ | refine rd_retN ?_ | refine rd_dif ?_ | refine rd_asg ?_ | refine rd_par ?_ | refine rd_for ?_ | refine rd_break ?_ | refine rd_cont ?_ | refine rd_c ?_ | refine rd_op ?_ | refine rd_un ?_ | refine rd_b ?_ | refine rd_bK ?_ | refine rd_tru ?_ | refine rd_tKb ?_ | refine rd_and ?_ | refine rd_or ?_ | refine rd_not ?_ | refine rd_andV ?_ | refine rd_orV ?_ | refine rd_notV ?_ | refine rd_tvKb ?_ | refine rd_ifE ?_ | refine rd_nil ?_ | refine rd_cons ?_ | refine rd_tup ?_ | refine rd_lst ?_ | refine rd_lstM ?_ | refine rd_cb ?_ | refine rd_call ?_ | refine rd_sp0 ?_ | refine rd_sp1 ?_ | refine rd_sp2 ?_ | refine rd_sp3 ?_ | refine rd_int ?_ | refine rd_intb ?_ | refine rd_abs ?_ | refine rd_ii ?_ | refine rd_add ?_ | refine rd_sub ?_ | refine rd_addI ?_ | refine rd_cmp ?_ | refine rd_setI ?_ | refine rd_mt ?_ | refine rd_lc ?_ | refine rd_lcM ?_ | refine rd_yes ?_ | refine rd_wseq ?_ | refine rd_wsT ?_ | refine rd_wsL ?_ | refine rd_wsS ?_ | refine rd_wzip ?_ | refine rd_zipT ?_ | refine rd_rng1 ?_ | refine rd_rng2 ?_ | refine rd_sl ?_ | refine rd_slT ?_ | refine rd_slL ?_ | refine rd_slS ?_ | refine rd_nopart ?_ | refine rd_part ?_ | refine rd_ptK ?_ | refine rd_star ?_ | refine rd_ss ?_ | refine rd_itet ?_ | refine rd_itef ?_ | refine rd_itnt ?_ | refine rd_itnf ?_) | ((with_reducible apply rd_var); (· exact rfl)) | ((with_reducible apply rd_asgK); (· exact rfl)) | ((with_reducible apply rd_parK); (· exact rfl)) | ((with_reducible apply rd_len); (· (first | assumption | exact seqD_ref (by assumption) | exact seqD_up | exact lstD_ref (by assumption) | exact lstD_up | rfl))) | ((with_reducible apply rd_tuple); (· (first | assumption | exact seqD_ref (by assumption) | exact seqD_up | exact lstD_ref (by assumption) | exact lstD_up | rfl))) | ((with_reducible apply rd_list); (· (first | assumption | exact seqD_ref (by assumption) | exact seqD_up | exact lstD_ref (by assumption) | exact lstD_up | rfl))) | ((with_reducible apply rd_stK); (· (first | assumption | exact seqD_ref (by assumption) | exact seqD_up | exact lstD_ref (by assumption) | exact lstD_up | rfl))) | ((with_reducible apply rd_ix); (· (first | assumption | exact seqD_ref (by assumption) | exact seqD_up | exact lstD_ref (by assumption) | exact lstD_up | rfl)); (· (first | exact atI_c0 _ _ | exact atI_c1 _ _ _ | exact atI_c2 _ _ _ _ | assumption | rfl))) | ((with_reducible apply rd_set30); (· (first | assumption | exact gup_same))) | ((with_reducible apply rd_set32); (· (first | assumption | exact gup_same))) | ((with_reducible apply rd_some); (· (first | assumption | exact seqD_ref (by assumption) | exact seqD_up | exact lstD_ref (by assumption) | exact lstD_up | rfl)))))
  refine rd_neT (lo_up A B) ?_
  (repeat (first | (with_reducible first | refine rd_seq ?_ | refine rd_seqE ?_ | refine rd_next ?_ | refine rd_rtE ?_ | refine rd_nxE ?_ | refine rd_nx ?_ | refine rd_rt ?_ | refine rd_ct ?_ | refine rd_bk ?_ | refine rd_drop ?_ | refine rd_ret ?_ | refine rd_retN ?_ | refine rd_dif ?_ | refine rd_asg ?_ | refine rd_par ?_ | refine rd_for ?_ | refine rd_break ?_ | refine rd_cont ?_ | refine rd_c ?_ | refine rd_op ?_ | refine rd_un ?_ | refine rd_b ?_ | refine rd_bK ?_ | refine rd_tru ?_ | refine rd_tKb ?_ | refine rd_and ?_ | refine rd_or ?_ | refine rd_not ?_ | refine rd_andV ?_ | refine rd_orV ?_ | refine rd_notV ?_ | refine rd_tvKb ?_ | refine rd_ifE ?_ | refine rd_nil ?_ | refine rd_cons ?_ | refine rd_tup ?_ | refine rd_lst ?_ | refine rd_lstM ?_ | refine rd_cb ?_ | refine rd_call ?_ | refine rd_sp0 ?_ | refine rd_sp1 ?_ | refine rd_sp2 ?_ | refine rd_sp3 ?_ | refine rd_int ?_ | refine rd_intb ?_ | refine rd_abs ?_ | refine rd_ii ?_ | refine rd_add ?_ | refine rd_sub ?_ | refine rd_addI ?_ | refine rd_cmp ?_ | refine rd_setI ?_ | refine rd_mt ?_ | refine rd_lc ?_ | refine rd_lcM ?_ | refine rd_yes ?_ | refine rd_wseq ?_ | refine rd_wsT ?_ | refine rd_wsL ?_ | refine rd_wsS ?_ | refine rd_wzip ?_ | refine rd_zipT ?_ | refine rd_rng1 ?_ | refine rd_rng2 ?_ | refine rd_sl ?_ | refine rd_slT ?_ | refine rd_slL ?_ | refine rd_slS ?_ | refine rd_nopart ?_ | refine rd_part ?_ | refine rd_ptK ?_ | refine rd_star ?_ | refine rd_ss ?_ | refine rd_itet ?_ | refine rd_itef ?_ | refine rd_itnt ?_ | refine rd_itnf ?_) | ((with_reducible apply rd_var); (· exact rfl)) | ((with_reducible apply rd_asgK); (· exact rfl)) | ((with_reducible apply rd_parK); (· exact rfl)) | ((with_reducible apply rd_len); (· (first | assumption | exact seqD_ref (by assumption) | exact seqD_up | exact lstD_ref (by assumption) | exact lstD_up | rfl))) | ((with_reducible apply rd_tuple); (· (first | assumption | exact seqD_ref (by assumption) | exact seqD_up | exact lstD_ref (by assumption) | exact lstD_up | rfl))) | ((with_reducible apply rd_list); (· (first | assumption | exact seqD_ref (by assumption) | exact seqD_up | exact lstD_ref (by assumption) | exact lstD_up | rfl))) | ((with_reducible apply rd_stK); (· (first | assumption | exact seqD_ref (by assumption) | exact seqD_up | exact lstD_ref (by assumption) | exact lstD_up | rfl))) | ((with_reducible apply rd_ix); (· (first | assumption | exact seqD_ref (by assumption) | exact seqD_up | exact lstD_ref (by assumption) | exact lstD_up | rfl)); (· (first | exact atI_c0 _ _ | exact atI_c1 _ _ _ | exact atI_c2 _ _ _ _ | assumption | rfl))) | ((with_reducible apply rd_set30); (· (first | assumption | exact gup_same))) | ((with_reducible apply rd_set32); (· (first | assumption | exact gup_same))) | ((with_reducible apply rd_some); (· (first | assumption | exact seqD_ref (by assumption) | exact seqD_up | exact lstD_ref (by assumption) | exact lstD_up | rfl)))))
  refine ⟨A, lo A B, rfl, rfl, hA, hl, ?_⟩
  rw [upper_up]
  (repeat (first | (with_reducible first | refine rd_seq ?_ | refine rd_seqE ?_ | refine rd_next ?_ | refine rd_rtE ?_ | refine rd_nxE ?_ | refine rd_nx ?_ | refine rd_rt ?_ | refine rd_ct ?_ | refine rd_bk ?_ | refine rd_drop ?_ | refine rd_ret ?_ | refine rd_retN ?_ | refine rd_dif ?_ | refine rd_asg ?_ | refine rd_par ?_ | refine rd_for ?_ | refine rd_break ?_ | refine rd_cont ?_ | refine rd_c ?_ | refine rd_op ?_ | refine rd_un ?_ | refine rd_b ?_ | refine rd_bK ?_ | refine rd_tru ?_ | refine rd_tKb ?_ | refine rd_and ?_ | refine rd_or ?_ | refine rd_not ?_ | refine rd_andV ?_ | refine rd_orV ?_ | refine rd_notV ?_ | refine rd_tvKb ?_ | refine rd_ifE ?_ | refine rd_nil ?_ | refine rd_cons ?_ | refine rd_tup ?_ | refine rd_lst ?_ | refine rd_lstM ?_ | refine rd_cb ?_ | refine rd_call ?_ | refine rd_sp0 ?_ | refine rd_sp1 ?_ | refine rd_sp2 ?_ | refine rd_sp3 ?_ | refine rd_int ?_ | refine rd_intb ?_ | refine rd_abs ?_ | refine rd_ii ?_ | refine rd_add ?_ | refine rd_sub ?_ | refine rd_addI ?_ | refine rd_cmp ?_ | refine rd_setI ?_ | refine rd_mt ?_ | refine rd_lc ?_ | refine rd_lcM ?_ | refine rd_yes ?_ | refine rd_wseq ?_ | refine rd_wsT ?_ | refine rd_wsL ?_ | refine rd_wsS ?_ | refine rd_wzip ?_ | refine rd_zipT ?_ | refine rd_rng1 ?_ | refine rd_rng2 ?_ | refine rd_sl ?_ | refine rd_slT ?_ | refine rd_slL ?_ | refine rd_slS ?_ | refine rd_nopart ?_ | refine rd_part ?_ | refine rd_ptK ?_ | refine rd_star ?_ | refine rd_ss ?_ | refine rd_itet ?_ | refine rd_itef ?_ | refine rd_itnt ?_ | refine rd_itnf ?_) | ((with_reducible apply rd_var); (· exact rfl)) | ((with_reducible apply rd_asgK); (· exact rfl)) | ((with_reducible apply rd_parK); (· exact rfl)) | ((with_reducible apply rd_len); (· (first | assumption | exact seqD_ref (by assumption) | exact seqD_up | exact lstD_ref (by assumption) | exact lstD_up | rfl))) | ((with_reducible apply rd_tuple); (· (first | assumption | exact seqD_ref (by assumption) | exact seqD_up | exact lstD_ref (by assumption) | exact lstD_up | rfl))) | ((with_reducible apply rd_list); (· (first | assumption | exact seqD_ref (by assumption) | exact seqD_up | exact lstD_ref (by assumption) | exact lstD_up | rfl))) | ((with_reducible apply rd_stK); (· (first | assumption | exact seqD_ref (by assumption) | exact seqD_up | exact lstD_ref (by assumption) | exact lstD_up | rfl))) | ((with_reducible apply rd_ix); (· (first | assumption | exact seqD_ref (by assumption) | exact seqD_up | exact lstD_ref (by assumption) | exact lstD_up | rfl)); (· (first | exact atI_c0 _ _ | exact atI_c1 _ _ _ | exact atI_c2 _ _ _ _ | assumption | rfl))) | ((with_reducible apply rd_set30); (· (first | assumption | exact gup_same))) | ((with_reducible apply rd_set32); (· (first | assumption | exact gup_same))) | ((with_reducible apply rd_some); (· (first | assumption | exact seqD_ref (by assumption) | exact seqD_up | exact lstD_ref (by assumption) | exact lstD_up | rfl)))))
  refine rd_neT (up_lo A B) ?_
  (repeat (first | (with_reducible first | refine rd_seq ?_ | refine rd_seqE ?_ | refine rd_next ?_ | refine rd_rtE ?_ | refine rd_nxE ?_ | refine rd_nx ?_ | refine rd_rt ?_ | refine rd_ct ?_ | refine rd_bk ?_ | refine rd_drop ?_ | refine rd_ret ?_ | refine rd_retN ?_ | refine rd_dif ?_ | refine rd_asg ?_ | refine rd_par ?_ | refine rd_for ?_ | refine rd_break ?_ | refine rd_cont ?_ | refine rd_c ?_ | refine rd_op ?_ | refine rd_un ?_ | refine rd_b ?_ | refine rd_bK ?_ | refine rd_tru ?_ | refine rd_tKb ?_ | refine rd_and ?_ | refine rd_or ?_ | refine rd_not ?_ | refine rd_andV ?_ | refine rd_orV ?_ | refine rd_notV ?_ | refine rd_tvKb ?_ | refine rd_ifE ?_ | refine rd_nil ?_ | refine rd_cons ?_ | refine rd_tup ?_ | refine rd_lst ?_ | refine rd_lstM ?_ | refine rd_cb ?_ | refine rd_call ?_ | refine rd_sp0 ?_ | refine rd_sp1 ?_ | refine rd_sp2 ?_ | refine rd_sp3 ?_ | refine rd_int ?_ | refine rd_intb ?_ | refine rd_abs ?_ | refine rd_ii ?_ | refine rd_add ?_ | refine rd_sub ?_ | refine rd_addI ?_ | refine rd_cmp ?_ | refine rd_setI ?_ | refine rd_mt ?_ | refine rd_lc ?_ | refine rd_lcM ?_ | refine rd_yes ?_ | refine rd_wseq ?_ | refine rd_wsT ?_ | refine rd_wsL ?_ | refine rd_wsS ?_ | refine rd_wzip ?_ | refine rd_zipT ?_ | refine rd_rng1 ?_ | refine rd_rng2 ?_ | refine rd_sl ?_ | refine rd_slT ?_ | refine rd_slL ?_ | refine rd_slS ?_ | refine rd_nopart ?_ | refine rd_part ?_ | refine rd_ptK ?_ | refine rd_star ?_ | refine rd_ss ?_ | refine rd_itet ?_ | refine rd_itef ?_ | refine rd_itnt ?_ | refine rd_itnf ?_) | ((with_reducible apply rd_var); (· exact rfl)) | ((with_reducible apply rd_asgK); (· exact rfl)) | ((with_reducible apply rd_parK); (· exact rfl)) | ((with_reducible apply rd_len); (· (first | assumption | exact seqD_ref (by assumption) | exact seqD_up | exact lstD_ref (by assumption) | exact lstD_up | rfl))) | ((with_reducible apply rd_tuple); (· (first | assumption | exact seqD_ref (by assumption) | exact seqD_up | exact lstD_ref (by assumption) | exact lstD_up | rfl))) | ((with_reducible apply rd_list); (· (first | assumption | exact seqD_ref (by assumption) | exact seqD_up | exact lstD_ref (by assumption) | exact lstD_up | rfl))) | ((with_reducible apply rd_stK); (· (first | assumption | exact seqD_ref (by assumption) | exact seqD_up | exact lstD_ref (by assumption) | exact lstD_up | rfl))) | ((with_reducible apply rd_ix); (· (first | assumption | exact seqD_ref (by assumption) | exact seqD_up | exact lstD_ref (by assumption) | exact lstD_up | rfl)); (· (first | exact atI_c0 _ _ | exact atI_c1 _ _ _ | exact atI_c2 _ _ _ _ | assumption | rfl))) | ((with_reducible apply rd_set30); (· (first | assumption | exact gup_same))) | ((with_reducible apply rd_set32); (· (first | assumption | exact gup_same))) | ((with_reducible apply rd_some); (· (first | assumption | exact seqD_ref (by assumption) | exact seqD_up | exact lstD_ref (by assumption) | exact lstD_up | rfl)))))
  refine ⟨lo A B, C, rfl, rfl, hl, hC, ?_⟩
  rw [lower_lo]
  (repeat (first | (with_reducible first | refine rd_seq ?_ | refine rd_seqE ?_ | refine rd_next ?_ | refine rd_rtE ?_ | refine rd_nxE ?_ | refine rd_nx ?_ | refine rd_rt ?_ | refine rd_ct ?_ | refine rd_bk ?_ | refine rd_drop ?_ | refine rd_ret ?_ | refine rd_retN ?_ | refine rd_dif ?_ | refine rd_asg ?_ | refine rd_par ?_ | refine rd_for ?_ | refine rd_break ?_ | refine rd_cont ?_ | refine rd_c ?_ | refine rd_op ?_ | refine rd_un ?_ | refine rd_b ?_ | refine rd_bK ?_ | refine rd_tru ?_ | refine rd_tKb ?_ | refine rd_and ?_ | refine rd_or ?_ | refine rd_not ?_ | refine rd_andV ?_ | refine rd_orV ?_ | refine rd_notV ?_ | refine rd_tvKb ?_ | refine rd_ifE ?_ | refine rd_nil ?_ | refine rd_cons ?_ | refine rd_tup ?_ | refine rd_lst ?_ | refine rd_lstM ?_ | refine rd_cb ?_ | refine rd_call ?_ | refine rd_sp0 ?_ | refine rd_sp1 ?_ | refine rd_sp2 ?_ | refine rd_sp3 ?_ | refine rd_int ?_ | refine rd_intb ?_ | refine rd_abs ?_ | refine rd_ii ?_ | refine rd_add ?_ | refine rd_sub ?_ | refine rd_addI ?_ | refine rd_cmp ?_ | refine rd_setI ?_ | refine rd_mt ?_ | refine rd_lc ?_ | refine rd_lcM ?_ | refine rd_yes ?_ | refine rd_wseq ?_ | refine rd_wsT ?_ | refine rd_wsL ?_ | refine rd_wsS ?_ | refine rd_wzip ?_ | refine rd_zipT ?_ | refine rd_rng1 ?_ | refine rd_rng2 ?_ | refine rd_sl ?_ | refine rd_slT ?_ | refine rd_slL ?_ | refine rd_slS ?_ | refine rd_nopart ?_ | refine rd_part ?_ | refine rd_ptK ?_ | refine rd_star ?_ | refine rd_ss ?_ | refine rd_itet ?_ | refine rd_itef ?_ | refine rd_itnt ?_ | refine rd_itnf ?_) | ((with_reducible apply rd_var); (· exact rfl)) | ((with_reducible apply rd_asgK); (· exact rfl)) | ((with_reducible apply rd_parK); (· exact rfl)) | ((with_reducible apply rd_len); (· (first | assumption | exact seqD_ref (by assumption) | exact seqD_up | exact lstD_ref (by assumption) | exact lstD_up | rfl))) | ((with_reducible apply rd_tuple); (· (first | assumption | exact seqD_ref (by assumption) | exact seqD_up | exact lstD_ref (by assumption) | exact lstD_up | rfl))) | ((with_reducible apply rd_list); (· (first | assumption | exact seqD_ref (by assumption) | exact seqD_up | exact lstD_ref (by assumption) | exact lstD_up | rfl))) | ((with_reducible apply rd_stK); (· (first | assumption | exact seqD_ref (by assumption) | exact seqD_up | exact lstD_ref (by assumption) | exact lstD_up | rfl))) | ((with_reducible apply rd_ix); (· (first | assumption | exact seqD_ref (by assumption) | exact seqD_up | exact lstD_ref (by assumption) | exact lstD_up | rfl)); (· (first | exact atI_c0 _ _ | exact atI_c1 _ _ _ | exact atI_c2 _ _ _ _ | assumption | rfl))) | ((with_reducible apply rd_set30); (· (first | assumption | exact gup_same))) | ((with_reducible apply rd_set32); (· (first | assumption | exact gup_same))) | ((with_reducible apply rd_some); (· (first | assumption | exact seqD_ref (by assumption) | exact seqD_up | exact lstD_ref (by assumption) | exact lstD_up | rfl)))))
  refine ⟨B, C, rfl, rfl, hI2, hC, ?_⟩
  rw [lower_lo]
  (repeat (first | (with_reducible first | refine rd_seq ?_ | refine rd_seqE ?_ | refine rd_next ?_ | refine rd_rtE ?_ | refine rd_nxE ?_ | refine rd_nx ?_ | refine rd_rt ?_ | refine rd_ct ?_ | refine rd_bk ?_ | refine rd_drop ?_ | refine rd_ret ?_ | refine rd_retN ?_ | refine rd_dif ?_ | refine rd_asg ?_ | refine rd_par ?_ | refine rd_for ?_ | refine rd_break ?_ | refine rd_cont ?_ | refine rd_c ?_ | refine rd_op ?_ | refine rd_un ?_ | refine rd_b ?_ | refine rd_bK ?_ | refine rd_tru ?_ | refine rd_tKb ?_ | refine rd_and ?_ | refine rd_or ?_ | refine rd_not ?_ | refine rd_andV ?_ | refine rd_orV ?_ | refine rd_notV ?_ | refine rd_tvKb ?_ | refine rd_ifE ?_ | refine rd_nil ?_ | refine rd_cons ?_ | refine rd_tup ?_ | refine rd_lst ?_ | refine rd_lstM ?_ | refine rd_cb ?_ | refine rd_call ?_ | refine rd_sp0 ?_ | refine rd_sp1 ?_ | refine rd_sp2 ?_ | refine rd_sp3 ?_ | refine rd_int ?_ | refine rd_intb ?_ | refine rd_abs ?_ | refine rd_ii ?_ | refine rd_add ?_ | refine rd_sub ?_ | refine rd_addI ?_ | refine rd_cmp ?_ | refine rd_setI ?_ | refine rd_mt ?_ | refine rd_lc ?_ | refine rd_lcM ?_ | refine rd_yes ?_ | refine rd_wseq ?_ | refine rd_wsT ?_ | refine rd_wsL ?_ | refine rd_wsS ?_ | refine rd_wzip ?_ | refine rd_zipT ?_ | refine rd_rng1 ?_ | refine rd_rng2 ?_ | refine rd_sl ?_ | refine rd_slT ?_ | refine rd_slL ?_ | refine rd_slS ?_ | refine rd_nopart ?_ | refine rd_part ?_ | refine rd_ptK ?_ | refine rd_star ?_ | refine rd_ss ?_ | refine rd_itet ?_ | refine rd_itef ?_ | refine rd_itnt ?_ | refine rd_itnf ?_) | ((with_reducible apply rd_var); (· exact rfl)) | ((with_reducible apply rd_asgK); (· exact rfl)) | ((with_reducible apply rd_parK); (· exact rfl)) | ((with_reducible apply rd_len); (· (first | assumption | exact seqD_ref (by assumption) | exact seqD_up | exact lstD_ref (by assumption) | exact lstD_up | rfl))) | ((with_reducible apply rd_tuple); (· (first | assumption | exact seqD_ref (by assumption) | exact seqD_up | exact lstD_ref (by assumption) | exact lstD_up | rfl))) | ((with_reducible apply rd_list); (· (first | assumption | exact seqD_ref (by assumption) | exact seqD_up | exact lstD_ref (by assumption) | exact lstD_up | rfl))) | ((with_reducible apply rd_stK); (· (first | assumption | exact seqD_ref (by assumption) | exact seqD_up | exact lstD_ref (by assumption) | exact lstD_up | rfl))) | ((with_reducible apply rd_ix); (· (first | assumption | exact seqD_ref (by assumption) | exact seqD_up | exact lstD_ref (by assumption) | exact lstD_up | rfl)); (· (first | exact atI_c0 _ _ | exact atI_c1 _ _ _ | exact atI_c2 _ _ _ _ | assumption | rfl))) | ((with_reducible apply rd_set30); (· (first | assumption | exact gup_same))) | ((with_reducible apply rd_set32); (· (first | assumption | exact gup_same))) | ((with_reducible apply rd_some); (· (first | assumption | exact seqD_ref (by assumption) | exact seqD_up | exact lstD_ref (by assumption) | exact lstD_up | rfl)))))
  refine ⟨A, lo B C, rfl, rfl, hA, (hI2.lo hC), ?_⟩
  rw [lower_lo]
  (repeat (first | (with_reducible first | refine rd_seq ?_ | refine rd_seqE ?_ | refine rd_next ?_ | refine rd_rtE ?_ | refine rd_nxE ?_ | refine rd_nx ?_ | refine rd_rt ?_ | refine rd_ct ?_ | refine rd_bk ?_ | refine rd_drop ?_ | refine rd_ret ?_ | refine rd_retN ?_ | refine rd_dif ?_ | refine rd_asg ?_ | refine rd_par ?_ | refine rd_for ?_ | refine rd_break ?_ | refine rd_cont ?_ | refine rd_c ?_ | refine rd_op ?_ | refine rd_un ?_ | refine rd_b ?_ | refine rd_bK ?_ | refine rd_tru ?_ | refine rd_tKb ?_ | refine rd_and ?_ | refine rd_or ?_ | refine rd_not ?_ | refine rd_andV ?_ | refine rd_orV ?_ | refine rd_notV ?_ | refine rd_tvKb ?_ | refine rd_ifE ?_ | refine rd_nil ?_ | refine rd_cons ?_ | refine rd_tup ?_ | refine rd_lst ?_ | refine rd_lstM ?_ | refine rd_cb ?_ | refine rd_call ?_ | refine rd_sp0 ?_ | refine rd_sp1 ?_ | refine rd_sp2 ?_ | refine rd_sp3 ?_ | refine rd_int ?_ | refine rd_intb ?_ | refine rd_abs ?_ | refine rd_ii ?_ | refine rd_add ?_ | refine rd_sub ?_ | refine rd_addI ?_ | refine rd_cmp ?_ | refine rd_setI ?_ | refine rd_mt ?_ | refine rd_lc ?_ | refine rd_lcM ?_ | refine rd_yes ?_ | refine rd_wseq ?_ | refine rd_wsT ?_ | refine rd_wsL ?_ | refine rd_wsS ?_ | refine rd_wzip ?_ | refine rd_zipT ?_ | refine rd_rng1 ?_ | refine rd_rng2 ?_ | refine rd_sl ?_ | refine rd_slT ?_ | refine rd_slL ?_ | refine rd_slS ?_ | refine rd_nopart ?_ | refine rd_part ?_ | refine rd_ptK ?_ | refine rd_star ?_ | refine rd_ss ?_ | refine rd_itet ?_ | refine rd_itef ?_ | refine rd_itnt ?_ | refine rd_itnf ?_) | ((with_reducible apply rd_var); (· exact rfl)) | ((with_reducible apply rd_asgK); (· exact rfl)) | ((with_reducible apply rd_parK); (· exact rfl)) | ((with_reducible apply rd_len); (· (first | assumption | exact seqD_ref (by assumption) | exact seqD_up | exact lstD_ref (by assumption) | exact lstD_up | rfl))) | ((with_reducible apply rd_tuple); (· (first | assumption | exact seqD_ref (by assumption) | exact seqD_up | exact lstD_ref (by assumption) | exact lstD_up | rfl))) | ((with_reducible apply rd_list); (· (first | assumption | exact seqD_ref (by assumption) | exact seqD_up | exact lstD_ref (by assumption) | exact lstD_up | rfl))) | ((with_reducible apply rd_stK); (· (first | assumption | exact seqD_ref (by assumption) | exact seqD_up | exact lstD_ref (by assumption) | exact lstD_up | rfl))) | ((with_reducible apply rd_ix); (· (first | assumption | exact seqD_ref (by assumption) | exact seqD_up | exact lstD_ref (by assumption) | exact lstD_up | rfl)); (· (first | exact atI_c0 _ _ | exact atI_c1 _ _ _ | exact atI_c2 _ _ _ _ | assumption | rfl))) | ((with_reducible apply rd_set30); (· (first | assumption | exact gup_same))) | ((with_reducible apply rd_set32); (· (first | assumption | exact gup_same))) | ((with_reducible apply rd_some); (· (first | assumption | exact seqD_ref (by assumption) | exact seqD_up | exact lstD_ref (by assumption) | exact lstD_up | rfl)))))
  refine rd_neT (lo_assoc A B C) ?_
  (repeat (first | (with_reducible first | refine rd_seq ?_ | refine rd_seqE ?_ | refine rd_next ?_ | refine rd_rtE ?_ | refine rd_nxE ?_ | refine rd_nx ?_ | refine rd_rt ?_ | refine rd_ct ?_ | refine rd_bk ?_ | refine rd_drop ?_ | refine rd_ret ?_ | refine rd_retN ?_ | refine rd_dif ?_ | refine rd_asg ?_ | refine rd_par ?_ | refine rd_for ?_ | refine rd_break ?_ | refine rd_cont ?_ | refine rd_c ?_ | refine rd_op ?_ | refine rd_un ?_ | refine rd_b ?_ | refine rd_bK ?_ | refine rd_tru ?_ | refine rd_tKb ?_ | refine rd_and ?_ | refine rd_or ?_ | refine rd_not ?_ | refine rd_andV ?_ | refine rd_orV ?_ | refine rd_notV ?_ | refine rd_tvKb ?_ | refine rd_ifE ?_ | refine rd_nil ?_ | refine rd_cons ?_ | refine rd_tup ?_ | refine rd_lst ?_ | refine rd_lstM ?_ | refine rd_cb ?_ | refine rd_call ?_ | refine rd_sp0 ?_ | refine rd_sp1 ?_ | refine rd_sp2 ?_ | refine rd_sp3 ?_ | refine rd_int ?_ | refine rd_intb ?_ | refine rd_abs ?_ | refine rd_ii ?_ | refine rd_add ?_ | refine rd_sub ?_ | refine rd_addI ?_ | refine rd_cmp ?_ | refine rd_setI ?_ | refine rd_mt ?_ | refine rd_lc ?_ | refine rd_lcM ?_ | refine rd_yes ?_ | refine rd_wseq ?_ | refine rd_wsT ?_ | refine rd_wsL ?_ | refine rd_wsS ?_ | refine rd_wzip ?_ | refine rd_zipT ?_ | refine rd_rng1 ?_ | refine rd_rng2 ?_ | refine rd_sl ?_ | refine rd_slT ?_ | refine rd_slL ?_ | refine rd_slS ?_ | refine rd_nopart ?_ | refine rd_part ?_ | refine rd_ptK ?_ | refine rd_star ?_ | refine rd_ss ?_ | refine rd_itet ?_ | refine rd_itef ?_ | refine rd_itnt ?_ | refine rd_itnf ?_) | ((with_reducible apply rd_var); (· exact rfl)) | ((with_reducible apply rd_asgK); (· exact rfl)) | ((with_reducible apply rd_parK); (· exact rfl)) | ((with_reducible apply rd_len); (· (first | assumption | exact seqD_ref (by assumption) | exact seqD_up | exact lstD_ref (by assumption) | exact lstD_up | rfl))) | ((with_reducible apply rd_tuple); (· (first | assumption | exact seqD_ref (by assumption) | exact seqD_up | exact lstD_ref (by assumption) | exact lstD_up | rfl))) | ((with_reducible apply rd_list); (· (first | assumption | exact seqD_ref (by assumption) | exact seqD_up | exact lstD_ref (by assumption) | exact lstD_up | rfl))) | ((with_reducible apply rd_stK); (· (first | assumption | exact seqD_ref (by assumption) | exact seqD_up | exact lstD_ref (by assumption) | exact lstD_up | rfl))) | ((with_reducible apply rd_ix); (· (first | assumption | exact seqD_ref (by assumption) | exact seqD_up | exact lstD_ref (by assumption) | exact lstD_up | rfl)); (· (first | exact atI_c0 _ _ | exact atI_c1 _ _ _ | exact atI_c2 _ _ _ _ | assumption | rfl))) | ((with_reducible apply rd_set30); (· (first | assumption | exact gup_same))) | ((with_reducible apply rd_set32); (· (first | assumption | exact gup_same))) | ((with_reducible apply rd_some); (· (first | assumption | exact seqD_ref (by assumption) | exact seqD_up | exact lstD_ref (by assumption) | exact lstD_up | rfl)))))
  refine ⟨up A B, C, rfl, rfl, hu, hC, ?_⟩
  rw [upper_up]
  (repeat (first | (with_reducible first | refine rd_seq ?_ | refine rd_seqE ?_ | refine rd_next ?_ | refine rd_rtE ?_ | refine rd_nxE ?_ | refine rd_nx ?_ | refine rd_rt ?_ | refine rd_ct ?_ | refine rd_bk ?_ | refine rd_drop ?_ | refine rd_ret ?_ | refine rd_retN ?_ | refine rd_dif ?_ | refine rd_asg ?_ | refine rd_par ?_ | refine rd_for ?_ | refine rd_break ?_ | refine rd_cont ?_ | refine rd_c ?_ | refine rd_op ?_ | refine rd_un ?_ | refine rd_b ?_ | refine rd_bK ?_ | refine rd_tru ?_ | refine rd_tKb ?_ | refine rd_and ?_ | refine rd_or ?_ | refine rd_not ?_ | refine rd_andV ?_ | refine rd_orV ?_ | refine rd_notV ?_ | refine rd_tvKb ?_ | refine rd_ifE ?_ | refine rd_nil ?_ | refine rd_cons ?_ | refine rd_tup ?_ | refine rd_lst ?_ | refine rd_lstM ?_ | refine rd_cb ?_ | refine rd_call ?_ | refine rd_sp0 ?_ | refine rd_sp1 ?_ | refine rd_sp2 ?_ | refine rd_sp3 ?_ | refine rd_int ?_ | refine rd_intb ?_ | refine rd_abs ?_ | refine rd_ii ?_ | refine rd_add ?_ | refine rd_sub ?_ | refine rd_addI ?_ | refine rd_cmp ?_ | refine rd_setI ?_ | refine rd_mt ?_ | refine rd_lc ?_ | refine rd_lcM ?_ | refine rd_yes ?_ | refine rd_wseq ?_ | refine rd_wsT ?_ | refine rd_wsL ?_ | refine rd_wsS ?_ | refine rd_wzip ?_ | refine rd_zipT ?_ | refine rd_rng1 ?_ | refine rd_rng2 ?_ | refine rd_sl ?_ | refine rd_slT ?_ | refine rd_slL ?_ | refine rd_slS ?_ | refine rd_nopart ?_ | refine rd_part ?_ | refine rd_ptK ?_ | refine rd_star ?_ | refine rd_ss ?_ | refine rd_itet ?_ | refine rd_itef ?_ | refine rd_itnt ?_ | refine rd_itnf ?_) | ((with_reducible apply rd_var); (· exact rfl)) | ((with_reducible apply rd_asgK); (· exact rfl)) | ((with_reducible apply rd_parK); (· exact rfl)) | ((with_reducible apply rd_len); (· (first | assumption | exact seqD_ref (by assumption) | exact seqD_up | exact lstD_ref (by assumption) | exact lstD_up | rfl))) | ((with_reducible apply rd_tuple); (· (first | assumption | exact seqD_ref (by assumption) | exact seqD_up | exact lstD_ref (by assumption) | exact lstD_up | rfl))) | ((with_reducible apply rd_list); (· (first | assumption | exact seqD_ref (by assumption) | exact seqD_up | exact lstD_ref (by assumption) | exact lstD_up | rfl))) | ((with_reducible apply rd_stK); (· (first | assumption | exact seqD_ref (by assumption) | exact seqD_up | exact lstD_ref (by assumption) | exact lstD_up | rfl))) | ((with_reducible apply rd_ix); (· (first | assumption | exact seqD_ref (by assumption) | exact seqD_up | exact lstD_ref (by assumption) | exact lstD_up | rfl)); (· (first | exact atI_c0 _ _ | exact atI_c1 _ _ _ | exact atI_c2 _ _ _ _ | assumption | rfl))) | ((with_reducible apply rd_set30); (· (first | assumption | exact gup_same))) | ((with_reducible apply rd_set32); (· (first | assumption | exact gup_same))) | ((with_reducible apply rd_some); (· (first | assumption | exact seqD_ref (by assumption) | exact seqD_up | exact lstD_ref (by assumption) | exact lstD_up | rfl)))))
  refine ⟨B, C, rfl, rfl, hI2, hC, ?_⟩
  rw [upper_up]
  (repeat (first | (with_reducible first | refine rd_seq ?_ | refine rd_seqE ?_ | refine rd_next ?_ | refine rd_rtE ?_ | refine rd_nxE ?_ | refine rd_nx ?_ | refine rd_rt ?_ | refine rd_ct ?_ | refine rd_bk ?_ | refine rd_drop ?_ | refine rd_ret ?_ | refine rd_retN ?_ | refine rd_dif ?_ | refine rd_asg ?_ | refine rd_par ?_ | refine rd_for ?_ | refine rd_break ?_ | refine rd_cont ?_ | refine rd_c ?_ | refine rd_op ?_ | refine rd_un ?_ | refine rd_b ?_ | refine rd_bK ?_ | refine rd_tru ?_ | refine rd_tKb ?_ | refine rd_and ?_ | refine rd_or ?_ | refine rd_not ?_ | refine rd_andV ?_ | refine rd_orV ?_ | refine rd_notV ?_ | refine rd_tvKb ?_ | refine rd_ifE ?_ | refine rd_nil ?_ | refine rd_cons ?_ | refine rd_tup ?_ | refine rd_lst ?_ | refine rd_lstM ?_ | refine rd_cb ?_ | refine rd_call ?_ | refine rd_sp0 ?_ | refine rd_sp1 ?_ | refine rd_sp2 ?_ | refine rd_sp3 ?_ | refine rd_int ?_ | refine rd_intb ?_ | refine rd_abs ?_ | refine rd_ii ?_ | refine rd_add ?_ | refine rd_sub ?_ | refine rd_addI ?_ | refine rd_cmp ?_ | refine rd_setI ?_ | refine rd_mt ?_ | refine rd_lc ?_ | refine rd_lcM ?_ | refine rd_yes ?_ | refine rd_wseq ?_ | refine rd_wsT ?_ | refine rd_wsL ?_ | refine rd_wsS ?_ | refine rd_wzip ?_ | refine rd_zipT ?_ | refine rd_rng1 ?_ | refine rd_rng2 ?_ | refine rd_sl ?_ | refine rd_slT ?_ | refine rd_slL ?_ | refine rd_slS ?_ | refine rd_nopart ?_ | refine rd_part ?_ | refine rd_ptK ?_ | refine rd_star ?_ | refine rd_ss ?_ | refine rd_itet ?_ | refine rd_itef ?_ | refine rd_itnt ?_ | refine rd_itnf ?_) | ((with_reducible apply rd_var); (· exact rfl)) | ((with_reducible apply rd_asgK); (· exact rfl)) | ((with_reducible apply rd_parK); (· exact rfl)) | ((with_reducible apply rd_len); (· (first | assumption | exact seqD_ref (by assumption) | exact seqD_up | exact lstD_ref (by assumption) | exact lstD_up | rfl))) | ((with_reducible apply rd_tuple); (· (first | assumption | exact seqD_ref (by assumption) | exact seqD_up | exact lstD_ref (by assumption) | exact lstD_up | rfl))) | ((with_reducible apply rd_list); (· (first | assumption | exact seqD_ref (by assumption) | exact seqD_up | exact lstD_ref (by assumption) | exact lstD_up | rfl))) | ((with_reducible apply rd_stK); (· (first | assumption | exact seqD_ref (by assumption) | exact seqD_up | exact lstD_ref (by assumption) | exact lstD_up | rfl))) | ((with_reducible apply rd_ix); (· (first | assumption | exact seqD_ref (by assumption) | exact seqD_up | exact lstD_ref (by assumption) | exact lstD_up | rfl)); (· (first | exact atI_c0 _ _ | exact atI_c1 _ _ _ | exact atI_c2 _ _ _ _ | assumption | rfl))) | ((with_reducible apply rd_set30); (· (first | assumption | exact gup_same))) | ((with_reducible apply rd_set32); (· (first | assumption | exact gup_same))) | ((with_reducible apply rd_some); (· (first | assumption | exact seqD_ref (by assumption) | exact seqD_up | exact lstD_ref (by assumption) | exact lstD_up | rfl)))))
  refine ⟨A, up B C, rfl, rfl, hA, (hI2.up hC), ?_⟩
  rw [upper_up]
  (repeat (first | (with_reducible first | refine rd_seq ?_ | refine rd_seqE ?_ | refine rd_next ?_ | refine rd_rtE ?_ | refine rd_nxE ?_ | refine rd_nx ?_ | refine rd_rt ?_ | refine rd_ct ?_ | refine rd_bk ?_ | refine rd_drop ?_ | refine rd_ret ?_ | refine rd_retN ?_ | refine rd_dif ?_ | refine rd_asg ?_ | refine rd_par ?_ | refine rd_for ?_ | refine rd_break ?_ | refine rd_cont ?_ | refine rd_c ?_ | refine rd_op ?_ | refine rd_un ?_ | refine rd_b ?_ | refine rd_bK ?_ | refine rd_tru ?_ | refine rd_tKb ?_ | refine rd_and ?_ | refine rd_or ?_ | refine rd_not ?_ | refine rd_andV ?_ | refine rd_orV ?_ | refine rd_notV ?_ | refine rd_tvKb ?_ | refine rd_ifE ?_ | refine rd_nil ?_ | refine rd_cons ?_ | refine rd_tup ?_ | refine rd_lst ?_ | refine rd_lstM ?_ | refine rd_cb ?_ | refine rd_call ?_ | refine rd_sp0 ?_ | refine rd_sp1 ?_ | refine rd_sp2 ?_ | refine rd_sp3 ?_ | refine rd_int ?_ | refine rd_intb ?_ | refine rd_abs ?_ | refine rd_ii ?_ | refine rd_add ?_ | refine rd_sub ?_ | refine rd_addI ?_ | refine rd_cmp ?_ | refine rd_setI ?_ | refine rd_mt ?_ | refine rd_lc ?_ | refine rd_lcM ?_ | refine rd_yes ?_ | refine rd_wseq ?_ | refine rd_wsT ?_ | refine rd_wsL ?_ | refine rd_wsS ?_ | refine rd_wzip ?_ | refine rd_zipT ?_ | refine rd_rng1 ?_ | refine rd_rng2 ?_ | refine rd_sl ?_ | refine rd_slT ?_ | refine rd_slL ?_ | refine rd_slS ?_ | refine rd_nopart ?_ | refine rd_part ?_ | refine rd_ptK ?_ | refine rd_star ?_ | refine rd_ss ?_ | refine rd_itet ?_ | refine rd_itef ?_ | refine rd_itnt ?_ | refine rd_itnf ?_) | ((with_reducible apply rd_var); (· exact rfl)) | ((with_reducible apply rd_asgK); (· exact rfl)) | ((with_reducible apply rd_parK); (· exact rfl)) | ((with_reducible apply rd_len); (· (first | assumption | exact seqD_ref (by assumption) | exact seqD_up | exact lstD_ref (by assumption) | exact lstD_up | rfl))) | ((with_reducible apply rd_tuple); (· (first | assumption | exact seqD_ref (by assumption) | exact seqD_up | exact lstD_ref (by assumption) | exact lstD_up | rfl))) | ((with_reducible apply rd_list); (· (first | assumption | exact seqD_ref (by assumption) | exact seqD_up | exact lstD_ref (by assumption) | exact lstD_up | rfl))) | ((with_reducible apply rd_stK); (· (first | assumption | exact seqD_ref (by assumption) | exact seqD_up | exact lstD_ref (by assumption) | exact lstD_up | rfl))) | ((with_reducible apply rd_ix); (· (first | assumption | exact seqD_ref (by assumption) | exact seqD_up | exact lstD_ref (by assumption) | exact lstD_up | rfl)); (· (first | exact atI_c0 _ _ | exact atI_c1 _ _ _ | exact atI_c2 _ _ _ _ | assumption | rfl))) | ((with_reducible apply rd_set30); (· (first | assumption | exact gup_same))) | ((with_reducible apply rd_set32); (· (first | assumption | exact gup_same))) | ((with_reducible apply rd_some); (· (first | assumption | exact seqD_ref (by assumption) | exact seqD_up | exact lstD_ref (by assumption) | exact lstD_up | rfl)))))
  refine rd_neT (up_assoc A B C) ?_
  (repeat (first | (with_reducible first | refine rd_seq ?_ | refine rd_seqE ?_ | refine rd_next ?_ | refine rd_rtE ?_ | refine rd_nxE ?_ | refine rd_nx ?_ | refine rd_rt ?_ | refine rd_ct ?_ | refine rd_bk ?_ | refine rd_drop ?_ | refine rd_ret ?_ | refine rd_retN ?_ | refine rd_dif ?_ | refine rd_asg ?_ | refine rd_par ?_ | refine rd_for ?_ | refine rd_break ?_ | refine rd_cont ?_ | refine rd_c ?_ | refine rd_op ?_ | refine rd_un ?_ | refine rd_b ?_ | refine rd_bK ?_ | refine rd_tru ?_ | refine rd_tKb ?_ | refine rd_and ?_ | refine rd_or ?_ | refine rd_not ?_ | refine rd_andV ?_ | refine rd_orV ?_ | refine rd_notV ?_ | refine rd_tvKb ?_ | refine rd_ifE ?_ | refine rd_nil ?_ | refine rd_cons ?_ | refine rd_tup ?_ | refine rd_lst ?_ | refine rd_lstM ?_ | refine rd_cb ?_ | refine rd_call ?_ | refine rd_sp0 ?_ | refine rd_sp1 ?_ | refine rd_sp2 ?_ | refine rd_sp3 ?_ | refine rd_int ?_ | refine rd_intb ?_ | refine rd_abs ?_ | refine rd_ii ?_ | refine rd_add ?_ | refine rd_sub ?_ | refine rd_addI ?_ | refine rd_cmp ?_ | refine rd_setI ?_ | refine rd_mt ?_ | refine rd_lc ?_ | refine rd_lcM ?_ | refine rd_yes ?_ | refine rd_wseq ?_ | refine rd_wsT ?_ | refine rd_wsL ?_ | refine rd_wsS ?_ | refine rd_wzip ?_ | refine rd_zipT ?_ | refine rd_rng1 ?_ | refine rd_rng2 ?_ | refine rd_sl ?_ | refine rd_slT ?_ | refine rd_slL ?_ | refine rd_slS ?_ | refine rd_nopart ?_ | refine rd_part ?_ | refine rd_ptK ?_ | refine rd_star ?_ | refine rd_ss ?_ | refine rd_itet ?_ | refine rd_itef ?_ | refine rd_itnt ?_ | refine rd_itnf ?_) | ((with_reducible apply rd_var); (· exact rfl)) | ((with_reducible apply rd_asgK); (· exact rfl)) | ((with_reducible apply rd_parK); (· exact rfl)) | ((with_reducible apply rd_len); (· (first | assumption | exact seqD_ref (by assumption) | exact seqD_up | exact lstD_ref (by assumption) | exact lstD_up | rfl))) | ((with_reducible apply rd_tuple); (· (first | assumption | exact seqD_ref (by assumption) | exact seqD_up | exact lstD_ref (by assumption) | exact lstD_up | rfl))) | ((with_reducible apply rd_list); (· (first | assumption | exact seqD_ref (by assumption) | exact seqD_up | exact lstD_ref (by assumption) | exact lstD_up | rfl))) | ((with_reducible apply rd_stK); (· (first | assumption | exact seqD_ref (by assumption) | exact seqD_up | exact lstD_ref (by assumption) | exact lstD_up | rfl))) | ((with_reducible apply rd_ix); (· (first | assumption | exact seqD_ref (by assumption) | exact seqD_up | exact lstD_ref (by assumption) | exact lstD_up | rfl)); (· (first | exact atI_c0 _ _ | exact atI_c1 _ _ _ | exact atI_c2 _ _ _ _ | assumption | rfl))) | ((with_reducible apply rd_set30); (· (first | assumption | exact gup_same))) | ((with_reducible apply rd_set32); (· (first | assumption | exact gup_same))) | ((with_reducible apply rd_some); (· (first | assumption | exact seqD_ref (by assumption) | exact seqD_up | exact lstD_ref (by assumption) | exact lstD_up | rfl)))))
  refine ⟨A, B, rfl, hA, rfl, hI2, ?_⟩
  (repeat (first | (with_reducible first | refine rd_seq ?_ | refine rd_seqE ?_ | refine rd_next ?_ | refine rd_rtE ?_ | refine rd_nxE ?_ | refine rd_nx ?_ | refine rd_rt ?_ | refine rd_ct ?_ | refine rd_bk ?_ | refine rd_drop ?_ | refine rd_ret ?_ | refine rd_retN ?_ | refine rd_dif ?_ | refine rd_asg ?_ | refine rd_par ?_ | refine rd_for ?_ | refine rd_break ?_ | refine rd_cont ?_ | refine rd_c ?_ | refine rd_op ?_ | refine rd_un ?_ | refine rd_b ?_ | refine rd_bK ?_ | refine rd_tru ?_ | refine rd_tKb ?_ | refine rd_and ?_ | refine rd_or ?_ | refine rd_not ?_ | refine rd_andV ?_ | refine rd_orV ?_ | refine rd_notV ?_ | refine rd_tvKb ?_ | refine rd_ifE ?_ | refine rd_nil ?_ | refine rd_cons ?_ | refine rd_tup ?_ | refine rd_lst ?_ | refine rd_lstM ?_ | refine rd_cb ?_ | refine rd_call ?_ | refine rd_sp0 ?_ | refine rd_sp1 ?_ | refine rd_sp2 ?_ | refine rd_sp3 ?_ | refine rd_int ?_ | refine rd_intb ?_ | refine rd_abs ?_ | refine rd_ii ?_ | refine rd_add ?_ | refine rd_sub ?_ | refine rd_addI ?_ | refine rd_cmp ?_ | refine rd_setI ?_ | refine rd_mt ?_ | refine rd_lc ?_ | refine rd_lcM ?_ | refine rd_yes ?_ | refine rd_wseq ?_ | refine rd_wsT ?_ | refine rd_wsL ?_ | refine rd_wsS ?_ | refine rd_wzip ?_ | refine rd_zipT ?_ | refine rd_rng1 ?_ | refine rd_rng2 ?_ | refine rd_sl ?_ | refine rd_slT ?_ | refine rd_slL ?_ | refine rd_slS ?_ | refine rd_nopart ?_ | refine rd_part ?_ | refine rd_ptK ?_ | refine rd_star ?_ | refine rd_ss ?_ | refine rd_itet ?_ | refine rd_itef ?_ | refine rd_itnt ?_ | refine rd_itnf ?_) | ((with_reducible apply rd_var); (· exact rfl)) | ((with_reducible apply rd_asgK); (· exact rfl)) | ((with_reducible apply rd_parK); (· exact rfl)) | ((with_reducible apply rd_len); (· (first | assumption | exact seqD_ref (by assumption) | exact seqD_up | exact lstD_ref (by assumption) | exact lstD_up | rfl))) | ((with_reducible apply rd_tuple); (· (first | assumption | exact seqD_ref (by assumption) | exact seqD_up | exact lstD_ref (by assumption) | exact lstD_up | rfl))) | ((with_reducible apply rd_list); (· (first | assumption | exact seqD_ref (by assumption) | exact seqD_up | exact lstD_ref (by assumption) | exact lstD_up | rfl))) | ((with_reducible apply rd_stK); (· (first | assumption | exact seqD_ref (by assumption) | exact seqD_up | exact lstD_ref (by assumption) | exact lstD_up | rfl))) | ((with_reducible apply rd_ix); (· (first | assumption | exact seqD_ref (by assumption) | exact seqD_up | exact lstD_ref (by assumption) | exact lstD_up | rfl)); (· (first | exact atI_c0 _ _ | exact atI_c1 _ _ _ | exact atI_c2 _ _ _ _ | assumption | rfl))) | ((with_reducible apply rd_set30); (· (first | assumption | exact gup_same))) | ((with_reducible apply rd_set32); (· (first | assumption | exact gup_same))) | ((with_reducible apply rd_some); (· (first | assumption | exact seqD_ref (by assumption) | exact seqD_up | exact lstD_ref (by assumption) | exact lstD_up | rfl)))))
  refine ⟨A, B, rfl, rfl, hA.len, hI2.len, ?_⟩
  (repeat (first | (with_reducible first | refine rd_seq ?_ | refine rd_seqE ?_ | refine rd_next ?_ | refine rd_rtE ?_ | refine rd_nxE ?_ | refine rd_nx ?_ | refine rd_rt ?_ | refine rd_ct ?_ | refine rd_bk ?_ | refine rd_drop ?_ | refine rd_ret ?_ | refine rd_retN ?_ | refine rd_dif ?_ | refine rd_asg ?_ | refine rd_par ?_ | refine rd_for ?_ | refine rd_break ?_ | refine rd_cont ?_ | refine rd_c ?_ | refine rd_op ?_ | refine rd_un ?_ | refine rd_b ?_ | refine rd_bK ?_ | refine rd_tru ?_ | refine rd_tKb ?_ | refine rd_and ?_ | refine rd_or ?_ | refine rd_not ?_ | refine rd_andV ?_ | refine rd_orV ?_ | refine rd_notV ?_ | refine rd_tvKb ?_ | refine rd_ifE ?_ | refine rd_nil ?_ | refine rd_cons ?_ | refine rd_tup ?_ | refine rd_lst ?_ | refine rd_lstM ?_ | refine rd_cb ?_ | refine rd_call ?_ | refine rd_sp0 ?_ | refine rd_sp1 ?_ | refine rd_sp2 ?_ | refine rd_sp3 ?_ | refine rd_int ?_ | refine rd_intb ?_ | refine rd_abs ?_ | refine rd_ii ?_ | refine rd_add ?_ | refine rd_sub ?_ | refine rd_addI ?_ | refine rd_cmp ?_ | refine rd_setI ?_ | refine rd_mt ?_ | refine rd_lc ?_ | refine rd_lcM ?_ | refine rd_yes ?_ | refine rd_wseq ?_ | refine rd_wsT ?_ | refine rd_wsL ?_ | refine rd_wsS ?_ | refine rd_wzip ?_ | refine rd_zipT ?_ | refine rd_rng1 ?_ | refine rd_rng2 ?_ | refine rd_sl ?_ | refine rd_slT ?_ | refine rd_slL ?_ | refine rd_slS ?_ | refine rd_nopart ?_ | refine rd_part ?_ | refine rd_ptK ?_ | refine rd_star ?_ | refine rd_ss ?_ | refine rd_itet ?_ | refine rd_itef ?_ | refine rd_itnt ?_ | refine rd_itnf ?_) | ((with_reducible apply rd_var); (· exact rfl)) | ((with_reducible apply rd_asgK); (· exact rfl)) | ((with_reducible apply rd_parK); (· exact rfl)) | ((with_reducible apply rd_len); (· (first | assumption | exact seqD_ref (by assumption) | exact seqD_up | exact lstD_ref (by assumption) | exact lstD_up | rfl))) | ((with_reducible apply rd_tuple); (· (first | assumption | exact seqD_ref (by assumption) | exact seqD_up | exact lstD_ref (by assumption) | exact lstD_up | rfl))) | ((with_reducible apply rd_list); (· (first | assumption | exact seqD_ref (by assumption) | exact seqD_up | exact lstD_ref (by assumption) | exact lstD_up | rfl))) | ((with_reducible apply rd_stK); (· (first | assumption | exact seqD_ref (by assumption) | exact seqD_up | exact lstD_ref (by assumption) | exact lstD_up | rfl))) | ((with_reducible apply rd_ix); (· (first | assumption | exact seqD_ref (by assumption) | exact seqD_up | exact lstD_ref (by assumption) | exact lstD_up | rfl)); (· (first | exact atI_c0 _ _ | exact atI_c1 _ _ _ | exact atI_c2 _ _ _ _ | assumption | rfl))) | ((with_reducible apply rd_set30); (· (first | assumption | exact gup_same))) | ((with_reducible apply rd_set32); (· (first | assumption | exact gup_same))) | ((with_reducible apply rd_some); (· (first | assumption | exact seqD_ref (by assumption) | exact seqD_up | exact lstD_ref (by assumption) | exact lstD_up | rfl)))))
  refine rd_neB rfl ?_
  (repeat (first | (with_reducible first | refine rd_seq ?_ | refine rd_seqE ?_ | refine rd_next ?_ | refine rd_rtE ?_ | refine rd_nxE ?_ | refine rd_nx ?_ | refine rd_rt ?_ | refine rd_ct ?_ | refine rd_bk ?_ | refine rd_drop ?_ | refine rd_ret ?_ | refine rd_retN ?_ | refine rd_dif ?_ | refine rd_asg ?_ | refine rd_par ?_ | refine rd_for ?_ | refine rd_break ?_ | refine rd_cont ?_ | refine rd_c ?_ | refine rd_op ?_ | refine rd_un ?_ | refine rd_b ?_ | refine rd_bK ?_ | refine rd_tru ?_ | refine rd_tKb ?_ | refine rd_and ?_ | refine rd_or ?_ | refine rd_not ?_ | refine rd_andV ?_ | refine rd_orV ?_ | refine rd_notV ?_ | refine rd_tvKb ?_ | refine rd_ifE ?_ | refine rd_nil ?_ | refine rd_cons ?_ | refine rd_tup ?_ | refine rd_lst ?_ | refine rd_lstM ?_ | refine rd_cb ?_ | refine rd_call ?_ | refine rd_sp0 ?_ | refine rd_sp1 ?_ | refine rd_sp2 ?_ | refine rd_sp3 ?_ | refine rd_int ?_ | refine rd_intb ?_ | refine rd_abs ?_ | refine rd_ii ?_ | refine rd_add ?_ | refine rd_sub ?_ | refine rd_addI ?_ | refine rd_cmp ?_ | refine rd_setI ?_ | refine rd_mt ?_ | refine rd_lc ?_ | refine rd_lcM ?_ | refine rd_yes ?_ | refine rd_wseq ?_ | refine rd_wsT ?_ | refine rd_wsL ?_ | refine rd_wsS ?_ | refine rd_wzip ?_ | refine rd_zipT ?_ | refine rd_rng1 ?_ | refine rd_rng2 ?_ | refine rd_sl ?_ | refine rd_slT ?_ | refine rd_slL ?_ | refine rd_slS ?_ | refine rd_nopart ?_ | refine rd_part ?_ | refine rd_ptK ?_ | refine rd_star ?_ | refine rd_ss ?_ | refine rd_itet ?_ | refine rd_itef ?_ | refine rd_itnt ?_ | refine rd_itnf ?_) | ((with_reducible apply rd_var); (· exact rfl)) | ((with_reducible apply rd_asgK); (· exact rfl)) | ((with_reducible apply rd_parK); (· exact rfl)) | ((with_reducible apply rd_len); (· (first | assumption | exact seqD_ref (by assumption) | exact seqD_up | exact lstD_ref (by assumption) | exact lstD_up | rfl))) | ((with_reducible apply rd_tuple); (· (first | assumption | exact seqD_ref (by assumption) | exact seqD_up | exact lstD_ref (by assumption) | exact lstD_up | rfl))) | ((with_reducible apply rd_list); (· (first | assumption | exact seqD_ref (by assumption) | exact seqD_up | exact lstD_ref (by assumption) | exact lstD_up | rfl))) | ((with_reducible apply rd_stK); (· (first | assumption | exact seqD_ref (by assumption) | exact seqD_up | exact lstD_ref (by assumption) | exact lstD_up | rfl))) | ((with_reducible apply rd_ix); (· (first | assumption | exact seqD_ref (by assumption) | exact seqD_up | exact lstD_ref (by assumption) | exact lstD_up | rfl)); (· (first | exact atI_c0 _ _ | exact atI_c1 _ _ _ | exact atI_c2 _ _ _ _ | assumption | rfl))) | ((with_reducible apply rd_set30); (· (first | assumption | exact gup_same))) | ((with_reducible apply rd_set32); (· (first | assumption | exact gup_same))) | ((with_reducible apply rd_some); (· (first | assumption | exact seqD_ref (by assumption) | exact seqD_up | exact lstD_ref (by assumption) | exact lstD_up | rfl)))))
  refine ⟨A, B, rfl, rfl, hA.len, hI2.len, ?_⟩
  (repeat (first | (with_reducible first | refine rd_seq ?_ | refine rd_seqE ?_ | refine rd_next ?_ | refine rd_rtE ?_ | refine rd_nxE ?_ | refine rd_nx ?_ | refine rd_rt ?_ | refine rd_ct ?_ | refine rd_bk ?_ | refine rd_drop ?_ | refine rd_ret ?_ | refine rd_retN ?_ | refine rd_dif ?_ | refine rd_asg ?_ | refine rd_par ?_ | refine rd_for ?_ | refine rd_break ?_ | refine rd_cont ?_ | refine rd_c ?_ | refine rd_op ?_ | refine rd_un ?_ | refine rd_b ?_ | refine rd_bK ?_ | refine rd_tru ?_ | refine rd_tKb ?_ | refine rd_and ?_ | refine rd_or ?_ | refine rd_not ?_ | refine rd_andV ?_ | refine rd_orV ?_ | refine rd_notV ?_ | refine rd_tvKb ?_ | refine rd_ifE ?_ | refine rd_nil ?_ | refine rd_cons ?_ | refine rd_tup ?_ | refine rd_lst ?_ | refine rd_lstM ?_ | refine rd_cb ?_ | refine rd_call ?_ | refine rd_sp0 ?_ | refine rd_sp1 ?_ | refine rd_sp2 ?_ | refine rd_sp3 ?_ | refine rd_int ?_ | refine rd_intb ?_ | refine rd_abs ?_ | refine rd_ii ?_ | refine rd_add ?_ | refine rd_sub ?_ | refine rd_addI ?_ | refine rd_cmp ?_ | refine rd_setI ?_ | refine rd_mt ?_ | refine rd_lc ?_ | refine rd_lcM ?_ | refine rd_yes ?_ | refine rd_wseq ?_ | refine rd_wsT ?_ | refine rd_wsL ?_ | refine rd_wsS ?_ | refine rd_wzip ?_ | refine rd_zipT ?_ | refine rd_rng1 ?_ | refine rd_rng2 ?_ | refine rd_sl ?_ | refine rd_slT ?_ | refine rd_slL ?_ | refine rd_slS ?_ | refine rd_nopart ?_ | refine rd_part ?_ | refine rd_ptK ?_ | refine rd_star ?_ | refine rd_ss ?_ | refine rd_itet ?_ | refine rd_itef ?_ | refine rd_itnt ?_ | refine rd_itnf ?_) | ((with_reducible apply rd_var); (· exact rfl)) | ((with_reducible apply rd_asgK); (· exact rfl)) | ((with_reducible apply rd_parK); (· exact rfl)) | ((with_reducible apply rd_len); (· (first | assumption | exact seqD_ref (by assumption) | exact seqD_up | exact lstD_ref (by assumption) | exact lstD_up | rfl))) | ((with_reducible apply rd_tuple); (· (first | assumption | exact seqD_ref (by assumption) | exact seqD_up | exact lstD_ref (by assumption) | exact lstD_up | rfl))) | ((with_reducible apply rd_list); (· (first | assumption | exact seqD_ref (by assumption) | exact seqD_up | exact lstD_ref (by assumption) | exact lstD_up | rfl))) | ((with_reducible apply rd_stK); (· (first | assumption | exact seqD_ref (by assumption) | exact seqD_up | exact lstD_ref (by assumption) | exact lstD_up | rfl))) | ((with_reducible apply rd_ix); (· (first | assumption | exact seqD_ref (by assumption) | exact seqD_up | exact lstD_ref (by assumption) | exact lstD_up | rfl)); (· (first | exact atI_c0 _ _ | exact atI_c1 _ _ _ | exact atI_c2 _ _ _ _ | assumption | rfl))) | ((with_reducible apply rd_set30); (· (first | assumption | exact gup_same))) | ((with_reducible apply rd_set32); (· (first | assumption | exact gup_same))) | ((with_reducible apply rd_some); (· (first | assumption | exact seqD_ref (by assumption) | exact seqD_up | exact lstD_ref (by assumption) | exact lstD_up | rfl)))))
  refine rd_eqT ?_
  (repeat (first | (with_reducible first | refine rd_seq ?_ | refine rd_seqE ?_ | refine rd_next ?_ | refine rd_rtE ?_ | refine rd_nxE ?_ | refine rd_nx ?_ | refine rd_rt ?_ | refine rd_ct ?_ | refine rd_bk ?_ | refine rd_drop ?_ | refine rd_ret ?_ | refine rd_retN ?_ | refine rd_dif ?_ | refine rd_asg ?_ | refine rd_par ?_ | refine rd_for ?_ | refine rd_break ?_ | refine rd_cont ?_ | refine rd_c ?_ | refine rd_op ?_ | refine rd_un ?_ | refine rd_b ?_ | refine rd_bK ?_ | refine rd_tru ?_ | refine rd_tKb ?_ | refine rd_and ?_ | refine rd_or ?_ | refine rd_not ?_ | refine rd_andV ?_ | refine rd_orV ?_ | refine rd_notV ?_ | refine rd_tvKb ?_ | refine rd_ifE ?_ | refine rd_nil ?_ | refine rd_cons ?_ | refine rd_tup ?_ | refine rd_lst ?_ | refine rd_lstM ?_ | refine rd_cb ?_ | refine rd_call ?_ | refine rd_sp0 ?_ | refine rd_sp1 ?_ | refine rd_sp2 ?_ | refine rd_sp3 ?_ | refine rd_int ?_ | refine rd_intb ?_ | refine rd_abs ?_ | refine rd_ii ?_ | refine rd_add ?_ | refine rd_sub ?_ | refine rd_addI ?_ | refine rd_cmp ?_ | refine rd_setI ?_ | refine rd_mt ?_ | refine rd_lc ?_ | refine rd_lcM ?_ | refine rd_yes ?_ | refine rd_wseq ?_ | refine rd_wsT ?_ | refine rd_wsL ?_ | refine rd_wsS ?_ | refine rd_wzip ?_ | refine rd_zipT ?_ | refine rd_rng1 ?_ | refine rd_rng2 ?_ | refine rd_sl ?_ | refine rd_slT ?_ | refine rd_slL ?_ | refine rd_slS ?_ | refine rd_nopart ?_ | refine rd_part ?_ | refine rd_ptK ?_ | refine rd_star ?_ | refine rd_ss ?_ | refine rd_itet ?_ | refine rd_itef ?_ | refine rd_itnt ?_ | refine rd_itnf ?_) | ((with_reducible apply rd_var); (· exact rfl)) | ((with_reducible apply rd_asgK); (· exact rfl)) | ((with_reducible apply rd_parK); (· exact rfl)) | ((with_reducible apply rd_len); (· (first | assumption | exact seqD_ref (by assumption) | exact seqD_up | exact lstD_ref (by assumption) | exact lstD_up | rfl))) | ((with_reducible apply rd_tuple); (· (first | assumption | exact seqD_ref (by assumption) | exact seqD_up | exact lstD_ref (by assumption) | exact lstD_up | rfl))) | ((with_reducible apply rd_list); (· (first | assumption | exact seqD_ref (by assumption) | exact seqD_up | exact lstD_ref (by assumption) | exact lstD_up | rfl))) | ((with_reducible apply rd_stK); (· (first | assumption | exact seqD_ref (by assumption) | exact seqD_up | exact lstD_ref (by assumption) | exact lstD_up | rfl))) | ((with_reducible apply rd_ix); (· (first | assumption | exact seqD_ref (by assumption) | exact seqD_up | exact lstD_ref (by assumption) | exact lstD_up | rfl)); (· (first | exact atI_c0 _ _ | exact atI_c1 _ _ _ | exact atI_c2 _ _ _ _ | assumption | rfl))) | ((with_reducible apply rd_set30); (· (first | assumption | exact gup_same))) | ((with_reducible apply rd_set32); (· (first | assumption | exact gup_same))) | ((with_reducible apply rd_some); (· (first | assumption | exact seqD_ref (by assumption) | exact seqD_up | exact lstD_ref (by assumption) | exact lstD_up | rfl)))))
  refine rd_neB (by rw [below_be, be_lo]) ?_
  (repeat (first | (with_reducible first | refine rd_seq ?_ | refine rd_seqE ?_ | refine rd_next ?_ | refine rd_rtE ?_ | refine rd_nxE ?_ | refine rd_nx ?_ | refine rd_rt ?_ | refine rd_ct ?_ | refine rd_bk ?_ | refine rd_drop ?_ | refine rd_ret ?_ | refine rd_retN ?_ | refine rd_dif ?_ | refine rd_asg ?_ | refine rd_par ?_ | refine rd_for ?_ | refine rd_break ?_ | refine rd_cont ?_ | refine rd_c ?_ | refine rd_op ?_ | refine rd_un ?_ | refine rd_b ?_ | refine rd_bK ?_ | refine rd_tru ?_ | refine rd_tKb ?_ | refine rd_and ?_ | refine rd_or ?_ | refine rd_not ?_ | refine rd_andV ?_ | refine rd_orV ?_ | refine rd_notV ?_ | refine rd_tvKb ?_ | refine rd_ifE ?_ | refine rd_nil ?_ | refine rd_cons ?_ | refine rd_tup ?_ | refine rd_lst ?_ | refine rd_lstM ?_ | refine rd_cb ?_ | refine rd_call ?_ | refine rd_sp0 ?_ | refine rd_sp1 ?_ | refine rd_sp2 ?_ | refine rd_sp3 ?_ | refine rd_int ?_ | refine rd_intb ?_ | refine rd_abs ?_ | refine rd_ii ?_ | refine rd_add ?_ | refine rd_sub ?_ | refine rd_addI ?_ | refine rd_cmp ?_ | refine rd_setI ?_ | refine rd_mt ?_ | refine rd_lc ?_ | refine rd_lcM ?_ | refine rd_yes ?_ | refine rd_wseq ?_ | refine rd_wsT ?_ | refine rd_wsL ?_ | refine rd_wsS ?_ | refine rd_wzip ?_ | refine rd_zipT ?_ | refine rd_rng1 ?_ | refine rd_rng2 ?_ | refine rd_sl ?_ | refine rd_slT ?_ | refine rd_slL ?_ | refine rd_slS ?_ | refine rd_nopart ?_ | refine rd_part ?_ | refine rd_ptK ?_ | refine rd_star ?_ | refine rd_ss ?_ | refine rd_itet ?_ | refine rd_itef ?_ | refine rd_itnt ?_ | refine rd_itnf ?_) | ((with_reducible apply rd_var); (· exact rfl)) | ((with_reducible apply rd_asgK); (· exact rfl)) | ((with_reducible apply rd_parK); (· exact rfl)) | ((with_reducible apply rd_len); (· (first | assumption | exact seqD_ref (by assumption) | exact seqD_up | exact lstD_ref (by assumption) | exact lstD_up | rfl))) | ((with_reducible apply rd_tuple); (· (first | assumption | exact seqD_ref (by assumption) | exact seqD_up | exact lstD_ref (by assumption) | exact lstD_up | rfl))) | ((with_reducible apply rd_list); (· (first | assumption | exact seqD_ref (by assumption) | exact seqD_up | exact lstD_ref (by assumption) | exact lstD_up | rfl))) | ((with_reducible apply rd_stK); (· (first | assumption | exact seqD_ref (by assumption) | exact seqD_up | exact lstD_ref (by assumption) | exact lstD_up | rfl))) | ((with_reducible apply rd_ix); (· (first | assumption | exact seqD_ref (by assumption) | exact seqD_up | exact lstD_ref (by assumption) | exact lstD_up | rfl)); (· (first | exact atI_c0 _ _ | exact atI_c1 _ _ _ | exact atI_c2 _ _ _ _ | assumption | rfl))) | ((with_reducible apply rd_set30); (· (first | assumption | exact gup_same))) | ((with_reducible apply rd_set32); (· (first | assumption | exact gup_same))) | ((with_reducible apply rd_some); (· (first | assumption | exact seqD_ref (by assumption) | exact seqD_up | exact lstD_ref (by assumption) | exact lstD_up | rfl)))))
  refine rd_eqT ?_
  (repeat (first | (with_reducible first | refine rd_seq ?_ | refine rd_seqE ?_ | refine rd_next ?_ | refine rd_rtE ?_ | refine rd_nxE ?_ | refine rd_nx ?_ | refine rd_rt ?_ | refine rd_ct ?_ | refine rd_bk ?_ | refine rd_drop ?_ | refine rd_ret ?_ | refine rd_retN ?_ | refine rd_dif ?_ | refine rd_asg ?_ | refine rd_par ?_ | refine rd_for ?_ | refine rd_break ?_ | refine rd_cont ?_ | refine rd_c ?_ | refine rd_op ?_ | refine rd_un ?_ | refine rd_b ?_ | refine rd_bK ?_ | refine rd_tru ?_ | refine rd_tKb ?_ | refine rd_and ?_ | refine rd_or ?_ | refine rd_not ?_ | refine rd_andV ?_ | refine rd_orV ?_ | refine rd_notV ?_ | refine rd_tvKb ?_ | refine rd_ifE ?_ | refine rd_nil ?_ | refine rd_cons ?_ | refine rd_tup ?_ | refine rd_lst ?_ | refine rd_lstM ?_ | refine rd_cb ?_ | refine rd_call ?_ | refine rd_sp0 ?_ | refine rd_sp1 ?_ | refine rd_sp2 ?_ | refine rd_sp3 ?_ | refine rd_int ?_ | refine rd_intb ?_ | refine rd_abs ?_ | refine rd_ii ?_ | refine rd_add ?_ | refine rd_sub ?_ | refine rd_addI ?_ | refine rd_cmp ?_ | refine rd_setI ?_ | refine rd_mt ?_ | refine rd_lc ?_ | refine rd_lcM ?_ | refine rd_yes ?_ | refine rd_wseq ?_ | refine rd_wsT ?_ | refine rd_wsL ?_ | refine rd_wsS ?_ | refine rd_wzip ?_ | refine rd_zipT ?_ | refine rd_rng1 ?_ | refine rd_rng2 ?_ | refine rd_sl ?_ | refine rd_slT ?_ | refine rd_slL ?_ | refine rd_slS ?_ | refine rd_nopart ?_ | refine rd_part ?_ | refine rd_ptK ?_ | refine rd_star ?_ | refine rd_ss ?_ | refine rd_itet ?_ | refine rd_itef ?_ | refine rd_itnt ?_ | refine rd_itnf ?_) | ((with_reducible apply rd_var); (· exact rfl)) | ((with_reducible apply rd_asgK); (· exact rfl)) | ((with_reducible apply rd_parK); (· exact rfl)) | ((with_reducible apply rd_len); (· (first | assumption | exact seqD_ref (by assumption) | exact seqD_up | exact lstD_ref (by assumption) | exact lstD_up | rfl))) | ((with_reducible apply rd_tuple); (· (first | assumption | exact seqD_ref (by assumption) | exact seqD_up | exact lstD_ref (by assumption) | exact lstD_up | rfl))) | ((with_reducible apply rd_list); (· (first | assumption | exact seqD_ref (by assumption) | exact seqD_up | exact lstD_ref (by assumption) | exact lstD_up | rfl))) | ((with_reducible apply rd_stK); (· (first | assumption | exact seqD_ref (by assumption) | exact seqD_up | exact lstD_ref (by assumption) | exact lstD_up | rfl))) | ((with_reducible apply rd_ix); (· (first | assumption | exact seqD_ref (by assumption) | exact seqD_up | exact lstD_ref (by assumption) | exact lstD_up | rfl)); (· (first | exact atI_c0 _ _ | exact atI_c1 _ _ _ | exact atI_c2 _ _ _ _ | assumption | rfl))) | ((with_reducible apply rd_set30); (· (first | assumption | exact gup_same))) | ((with_reducible apply rd_set32); (· (first | assumption | exact gup_same))) | ((with_reducible apply rd_some); (· (first | assumption | exact seqD_ref (by assumption) | exact seqD_up | exact lstD_ref (by assumption) | exact lstD_up | rfl)))))
  refine rd_eqT ?_
  (repeat (first | (with_reducible first | refine rd_seq ?_ | refine rd_seqE ?_ | refine rd_next ?_ | refine rd_rtE ?_ | refine rd_nxE ?_ | refine rd_nx ?_ | refine rd_rt ?_ | refine rd_ct ?_ | refine rd_bk ?_ | refine rd_drop ?_ | refine rd_ret ?_ | refine rd_retN ?_ | refine rd_dif ?_ | refine rd_asg ?_ | refine rd_par ?_ | refine rd_for ?_ | refine rd_break ?_ | refine rd_cont ?_ | refine rd_c ?_ | refine rd_op ?_ | refine rd_un ?_ | refine rd_b ?_ | refine rd_bK ?_ | refine rd_tru ?_ | refine rd_tKb ?_ | refine rd_and ?_ | refine rd_or ?_ | refine rd_not ?_ | refine rd_andV ?_ | refine rd_orV ?_ | refine rd_notV ?_ | refine rd_tvKb ?_ | refine rd_ifE ?_ | refine rd_nil ?_ | refine rd_cons ?_ | refine rd_tup ?_ | refine rd_lst ?_ | refine rd_lstM ?_ | refine rd_cb ?_ | refine rd_call ?_ | refine rd_sp0 ?_ | refine rd_sp1 ?_ | refine rd_sp2 ?_ | refine rd_sp3 ?_ | refine rd_int ?_ | refine rd_intb ?_ | refine rd_abs ?_ | refine rd_ii ?_ | refine rd_add ?_ | refine rd_sub ?_ | refine rd_addI ?_ | refine rd_cmp ?_ | refine rd_setI ?_ | refine rd_mt ?_ | refine rd_lc ?_ | refine rd_lcM ?_ | refine rd_yes ?_ | refine rd_wseq ?_ | refine rd_wsT ?_ | refine rd_wsL ?_ | refine rd_wsS ?_ | refine rd_wzip ?_ | refine rd_zipT ?_ | refine rd_rng1 ?_ | refine rd_rng2 ?_ | refine rd_sl ?_ | refine rd_slT ?_ | refine rd_slL ?_ | refine rd_slS ?_ | refine rd_nopart ?_ | refine rd_part ?_ | refine rd_ptK ?_ | refine rd_star ?_ | refine rd_ss ?_ | refine rd_itet ?_ | refine rd_itef ?_ | refine rd_itnt ?_ | refine rd_itnf ?_) | ((with_reducible apply rd_var); (· exact rfl)) | ((with_reducible apply rd_asgK); (· exact rfl)) | ((with_reducible apply rd_parK); (· exact rfl)) | ((with_reducible apply rd_len); (· (first | assumption | exact seqD_ref (by assumption) | exact seqD_up | exact lstD_ref (by assumption) | exact lstD_up | rfl))) | ((with_reducible apply rd_tuple); (· (first | assumption | exact seqD_ref (by assumption) | exact seqD_up | exact lstD_ref (by assumption) | exact lstD_up | rfl))) | ((with_reducible apply rd_list); (· (first | assumption | exact seqD_ref (by assumption) | exact seqD_up | exact lstD_ref (by assumption) | exact lstD_up | rfl))) | ((with_reducible apply rd_stK); (· (first | assumption | exact seqD_ref (by assumption) | exact seqD_up | exact lstD_ref (by assumption) | exact lstD_up | rfl))) | ((with_reducible apply rd_ix); (· (first | assumption | exact seqD_ref (by assumption) | exact seqD_up | exact lstD_ref (by assumption) | exact lstD_up | rfl)); (· (first | exact atI_c0 _ _ | exact atI_c1 _ _ _ | exact atI_c2 _ _ _ _ | assumption | rfl))) | ((with_reducible apply rd_set30); (· (first | assumption | exact gup_same))) | ((with_reducible apply rd_set32); (· (first | assumption | exact gup_same))) | ((with_reducible apply rd_some); (· (first | assumption | exact seqD_ref (by assumption) | exact seqD_up | exact lstD_ref (by assumption) | exact lstD_up | rfl)))))
  refine rd_neB (by rw [← be_up2, ← be_lo]) ?_
  (repeat (first | (with_reducible first | refine rd_seq ?_ | refine rd_seqE ?_ | refine rd_next ?_ | refine rd_rtE ?_ | refine rd_nxE ?_ | refine rd_nx ?_ | refine rd_rt ?_ | refine rd_ct ?_ | refine rd_bk ?_ | refine rd_drop ?_ | refine rd_ret ?_ | refine rd_retN ?_ | refine rd_dif ?_ | refine rd_asg ?_ | refine rd_par ?_ | refine rd_for ?_ | refine rd_break ?_ | refine rd_cont ?_ | refine rd_c ?_ | refine rd_op ?_ | refine rd_un ?_ | refine rd_b ?_ | refine rd_bK ?_ | refine rd_tru ?_ | refine rd_tKb ?_ | refine rd_and ?_ | refine rd_or ?_ | refine rd_not ?_ | refine rd_andV ?_ | refine rd_orV ?_ | refine rd_notV ?_ | refine rd_tvKb ?_ | refine rd_ifE ?_ | refine rd_nil ?_ | refine rd_cons ?_ | refine rd_tup ?_ | refine rd_lst ?_ | refine rd_lstM ?_ | refine rd_cb ?_ | refine rd_call ?_ | refine rd_sp0 ?_ | refine rd_sp1 ?_ | refine rd_sp2 ?_ | refine rd_sp3 ?_ | refine rd_int ?_ | refine rd_intb ?_ | refine rd_abs ?_ | refine rd_ii ?_ | refine rd_add ?_ | refine rd_sub ?_ | refine rd_addI ?_ | refine rd_cmp ?_ | refine rd_setI ?_ | refine rd_mt ?_ | refine rd_lc ?_ | refine rd_lcM ?_ | refine rd_yes ?_ | refine rd_wseq ?_ | refine rd_wsT ?_ | refine rd_wsL ?_ | refine rd_wsS ?_ | refine rd_wzip ?_ | refine rd_zipT ?_ | refine rd_rng1 ?_ | refine rd_rng2 ?_ | refine rd_sl ?_ | refine rd_slT ?_ | refine rd_slL ?_ | refine rd_slS ?_ | refine rd_nopart ?_ | refine rd_part ?_ | refine rd_ptK ?_ | refine rd_star ?_ | refine rd_ss ?_ | refine rd_itet ?_ | refine rd_itef ?_ | refine rd_itnt ?_ | refine rd_itnf ?_) | ((with_reducible apply rd_var); (· exact rfl)) | ((with_reducible apply rd_asgK); (· exact rfl)) | ((with_reducible apply rd_parK); (· exact rfl)) | ((with_reducible apply rd_len); (· (first | assumption | exact seqD_ref (by assumption) | exact seqD_up | exact lstD_ref (by assumption) | exact lstD_up | rfl))) | ((with_reducible apply rd_tuple); (· (first | assumption | exact seqD_ref (by assumption) | exact seqD_up | exact lstD_ref (by assumption) | exact lstD_up | rfl))) | ((with_reducible apply rd_list); (· (first | assumption | exact seqD_ref (by assumption) | exact seqD_up | exact lstD_ref (by assumption) | exact lstD_up | rfl))) | ((with_reducible apply rd_stK); (· (first | assumption | exact seqD_ref (by assumption) | exact seqD_up | exact lstD_ref (by assumption) | exact lstD_up | rfl))) | ((with_reducible apply rd_ix); (· (first | assumption | exact seqD_ref (by assumption) | exact seqD_up | exact lstD_ref (by assumption) | exact lstD_up | rfl)); (· (first | exact atI_c0 _ _ | exact atI_c1 _ _ _ | exact atI_c2 _ _ _ _ | assumption | rfl))) | ((with_reducible apply rd_set30); (· (first | assumption | exact gup_same))) | ((with_reducible apply rd_set32); (· (first | assumption | exact gup_same))) | ((with_reducible apply rd_some); (· (first | assumption | exact seqD_ref (by assumption) | exact seqD_up | exact lstD_ref (by assumption) | exact lstD_up | rfl)))))
  refine ⟨rfl, rfl, fun ds hds hlen => ?_⟩
  (repeat (first | (with_reducible first | refine rd_seq ?_ | refine rd_seqE ?_ | refine rd_next ?_ | refine rd_rtE ?_ | refine rd_nxE ?_ | refine rd_nx ?_ | refine rd_rt ?_ | refine rd_ct ?_ | refine rd_bk ?_ | refine rd_drop ?_ | refine rd_ret ?_ | refine rd_retN ?_ | refine rd_dif ?_ | refine rd_asg ?_ | refine rd_par ?_ | refine rd_for ?_ | refine rd_break ?_ | refine rd_cont ?_ | refine rd_c ?_ | refine rd_op ?_ | refine rd_un ?_ | refine rd_b ?_ | refine rd_bK ?_ | refine rd_tru ?_ | refine rd_tKb ?_ | refine rd_and ?_ | refine rd_or ?_ | refine rd_not ?_ | refine rd_andV ?_ | refine rd_orV ?_ | refine rd_notV ?_ | refine rd_tvKb ?_ | refine rd_ifE ?_ | refine rd_nil ?_ | refine rd_cons ?_ | refine rd_tup ?_ | refine rd_lst ?_ | refine rd_lstM ?_ | refine rd_cb ?_ | refine rd_call ?_ | refine rd_sp0 ?_ | refine rd_sp1 ?_ | refine rd_sp2 ?_ | refine rd_sp3 ?_ | refine rd_int ?_ | refine rd_intb ?_ | refine rd_abs ?_ | refine rd_ii ?_ | refine rd_add ?_ | refine rd_sub ?_ | refine rd_addI ?_ | refine rd_cmp ?_ | refine rd_setI ?_ | refine rd_mt ?_ | refine rd_lc ?_ | refine rd_lcM ?_ | refine rd_yes ?_ | refine rd_wseq ?_ | refine rd_wsT ?_ | refine rd_wsL ?_ | refine rd_wsS ?_ | refine rd_wzip ?_ | refine rd_zipT ?_ | refine rd_rng1 ?_ | refine rd_rng2 ?_ | refine rd_sl ?_ | refine rd_slT ?_ | refine rd_slL ?_ | refine rd_slS ?_ | refine rd_nopart ?_ | refine rd_part ?_ | refine rd_ptK ?_ | refine rd_star ?_ | refine rd_ss ?_ | refine rd_itet ?_ | refine rd_itef ?_ | refine rd_itnt ?_ | refine rd_itnf ?_) | ((with_reducible apply rd_var); (· exact rfl)) | ((with_reducible apply rd_asgK); (· exact rfl)) | ((with_reducible apply rd_parK); (· exact rfl)) | ((with_reducible apply rd_len); (· (first | assumption | exact seqD_ref (by assumption) | exact seqD_up | exact lstD_ref (by assumption) | exact lstD_up | rfl))) | ((with_reducible apply rd_tuple); (· (first | assumption | exact seqD_ref (by assumption) | exact seqD_up | exact lstD_ref (by assumption) | exact lstD_up | rfl))) | ((with_reducible apply rd_list); (· (first | assumption | exact seqD_ref (by assumption) | exact seqD_up | exact lstD_ref (by assumption) | exact lstD_up | rfl))) | ((with_reducible apply rd_stK); (· (first | assumption | exact seqD_ref (by assumption) | exact seqD_up | exact lstD_ref (by assumption) | exact lstD_up | rfl))) | ((with_reducible apply rd_ix); (· (first | assumption | exact seqD_ref (by assumption) | exact seqD_up | exact lstD_ref (by assumption) | exact lstD_up | rfl)); (· (first | exact atI_c0 _ _ | exact atI_c1 _ _ _ | exact atI_c2 _ _ _ _ | assumption | rfl))) | ((with_reducible apply rd_set30); (· (first | assumption | exact gup_same))) | ((with_reducible apply rd_set32); (· (first | assumption | exact gup_same))) | ((with_reducible apply rd_some); (· (first | assumption | exact seqD_ref (by assumption) | exact seqD_up | exact lstD_ref (by assumption) | exact lstD_up | rfl)))))
  refine rd_loopI (I := fun _ δ g' => g' = gup g p (.lst L4) ∧ ∃ v, δ = [some (.ref p), some (.int m), v, some (tI A), some (tI B), some (tI C), some (tI (lo A B)), some (tI (up A B))]) ⟨rfl, _, rfl⟩ ?_ ?_
  · intro d hd j δ g' f hf hI
    obtain ⟨e1, v, e2⟩ := hI
    obtain ⟨S, e3, hS⟩ := hds d hd
    subst e1 e2 e3
    have b1 := be_both S A B
    have b2 := both_be S A B
    have l1 := hA.len
    have l2 := hI2.len
    have l3 := hl.len
    have l4 := hu.len
    refine ⟨_, rfl, ?_⟩
    (repeat (first | (with_reducible first | refine rd_seq ?_ | refine rd_seqE ?_ | refine rd_next ?_ | refine rd_rtE ?_ | refine rd_nxE ?_ | refine rd_nx ?_ | refine rd_rt ?_ | refine rd_ct ?_ | refine rd_bk ?_ | refine rd_drop ?_ | refine rd_ret ?_ | refine rd_retN ?_ | refine rd_dif ?_ | refine rd_asg ?_ | refine rd_par ?_ | refine rd_for ?_ | refine rd_break ?_ | refine rd_cont ?_ | refine rd_c ?_ | refine rd_op ?_ | refine rd_un ?_ | refine rd_b ?_ | refine rd_bK ?_ | refine rd_tru ?_ | refine rd_tKb ?_ | refine rd_and ?_ | refine rd_or ?_ | refine rd_not ?_ | refine rd_andV ?_ | refine rd_orV ?_ | refine rd_notV ?_ | refine rd_tvKb ?_ | refine rd_ifE ?_ | refine rd_nil ?_ | refine rd_cons ?_ | refine rd_tup ?_ | refine rd_lst ?_ | refine rd_lstM ?_ | refine rd_cb ?_ | refine rd_call ?_ | refine rd_sp0 ?_ | refine rd_sp1 ?_ | refine rd_sp2 ?_ | refine rd_sp3 ?_ | refine rd_int ?_ | refine rd_intb ?_ | refine rd_abs ?_ | refine rd_ii ?_ | refine rd_add ?_ | refine rd_sub ?_ | refine rd_addI ?_ | refine rd_cmp ?_ | refine rd_setI ?_ | refine rd_mt ?_ | refine rd_lc ?_ | refine rd_lcM ?_ | refine rd_yes ?_ | refine rd_wseq ?_ | refine rd_wsT ?_ | refine rd_wsL ?_ | refine rd_wsS ?_ | refine rd_wzip ?_ | refine rd_zipT ?_ | refine rd_rng1 ?_ | refine rd_rng2 ?_ | refine rd_sl ?_ | refine rd_slT ?_ | refine rd_slL ?_ | refine rd_slS ?_ | refine rd_nopart ?_ | refine rd_part ?_ | refine rd_ptK ?_ | refine rd_star ?_ | refine rd_ss ?_ | refine rd_itet ?_ | refine rd_itef ?_ | refine rd_itnt ?_ | refine rd_itnf ?_) | ((with_reducible apply rd_var); (· exact rfl)) | ((with_reducible apply rd_asgK); (· exact rfl)) | ((with_reducible apply rd_parK); (· exact rfl)) | ((with_reducible apply rd_len); (· (first | assumption | exact seqD_ref (by assumption) | exact seqD_up | exact lstD_ref (by assumption) | exact lstD_up | rfl))) | ((with_reducible apply rd_tuple); (· (first | assumption | exact seqD_ref (by assumption) | exact seqD_up | exact lstD_ref (by assumption) | exact lstD_up | rfl))) | ((with_reducible apply rd_list); (· (first | assumption | exact seqD_ref (by assumption) | exact seqD_up | exact lstD_ref (by assumption) | exact lstD_up | rfl))) | ((with_reducible apply rd_stK); (· (first | assumption | exact seqD_ref (by assumption) | exact seqD_up | exact lstD_ref (by assumption) | exact lstD_up | rfl))) | ((with_reducible apply rd_ix); (· (first | assumption | exact seqD_ref (by assumption) | exact seqD_up | exact lstD_ref (by assumption) | exact lstD_up | rfl)); (· (first | exact atI_c0 _ _ | exact atI_c1 _ _ _ | exact atI_c2 _ _ _ _ | assumption | rfl))) | ((with_reducible apply rd_set30); (· (first | assumption | exact gup_same))) | ((with_reducible apply rd_set32); (· (first | assumption | exact gup_same))) | ((with_reducible apply rd_some); (· (first | assumption | exact seqD_ref (by assumption) | exact seqD_up | exact lstD_ref (by assumption) | exact lstD_up | rfl)))))
    refine ⟨S, A, rfl, rfl, by omega, by omega, ?_⟩
    rw [below_be]
    (repeat (first | (with_reducible first | refine rd_seq ?_ | refine rd_seqE ?_ | refine rd_next ?_ | refine rd_rtE ?_ | refine rd_nxE ?_ | refine rd_nx ?_ | refine rd_rt ?_ | refine rd_ct ?_ | refine rd_bk ?_ | refine rd_drop ?_ | refine rd_ret ?_ | refine rd_retN ?_ | refine rd_dif ?_ | refine rd_asg ?_ | refine rd_par ?_ | refine rd_for ?_ | refine rd_break ?_ | refine rd_cont ?_ | refine rd_c ?_ | refine rd_op ?_ | refine rd_un ?_ | refine rd_b ?_ | refine rd_bK ?_ | refine rd_tru ?_ | refine rd_tKb ?_ | refine rd_and ?_ | refine rd_or ?_ | refine rd_not ?_ | refine rd_andV ?_ | refine rd_orV ?_ | refine rd_notV ?_ | refine rd_tvKb ?_ | refine rd_ifE ?_ | refine rd_nil ?_ | refine rd_cons ?_ | refine rd_tup ?_ | refine rd_lst ?_ | refine rd_lstM ?_ | refine rd_cb ?_ | refine rd_call ?_ | refine rd_sp0 ?_ | refine rd_sp1 ?_ | refine rd_sp2 ?_ | refine rd_sp3 ?_ | refine rd_int ?_ | refine rd_intb ?_ | refine rd_abs ?_ | refine rd_ii ?_ | refine rd_add ?_ | refine rd_sub ?_ | refine rd_addI ?_ | refine rd_cmp ?_ | refine rd_setI ?_ | refine rd_mt ?_ | refine rd_lc ?_ | refine rd_lcM ?_ | refine rd_yes ?_ | refine rd_wseq ?_ | refine rd_wsT ?_ | refine rd_wsL ?_ | refine rd_wsS ?_ | refine rd_wzip ?_ | refine rd_zipT ?_ | refine rd_rng1 ?_ | refine rd_rng2 ?_ | refine rd_sl ?_ | refine rd_slT ?_ | refine rd_slL ?_ | refine rd_slS ?_ | refine rd_nopart ?_ | refine rd_part ?_ | refine rd_ptK ?_ | refine rd_star ?_ | refine rd_ss ?_ | refine rd_itet ?_ | refine rd_itef ?_ | refine rd_itnt ?_ | refine rd_itnf ?_) | ((with_reducible apply rd_var); (· exact rfl)) | ((with_reducible apply rd_asgK); (· exact rfl)) | ((with_reducible apply rd_parK); (· exact rfl)) | ((with_reducible apply rd_len); (· (first | assumption | exact seqD_ref (by assumption) | exact seqD_up | exact lstD_ref (by assumption) | exact lstD_up | rfl))) | ((with_reducible apply rd_tuple); (· (first | assumption | exact seqD_ref (by assumption) | exact seqD_up | exact lstD_ref (by assumption) | exact lstD_up | rfl))) | ((with_reducible apply rd_list); (· (first | assumption | exact seqD_ref (by assumption) | exact seqD_up | exact lstD_ref (by assumption) | exact lstD_up | rfl))) | ((with_reducible apply rd_stK); (· (first | assumption | exact seqD_ref (by assumption) | exact seqD_up | exact lstD_ref (by assumption) | exact lstD_up | rfl))) | ((with_reducible apply rd_ix); (· (first | assumption | exact seqD_ref (by assumption) | exact seqD_up | exact lstD_ref (by assumption) | exact lstD_up | rfl)); (· (first | exact atI_c0 _ _ | exact atI_c1 _ _ _ | exact atI_c2 _ _ _ _ | assumption | rfl))) | ((with_reducible apply rd_set30); (· (first | assumption | exact gup_same))) | ((with_reducible apply rd_set32); (· (first | assumption | exact gup_same))) | ((with_reducible apply rd_some); (· (first | assumption | exact seqD_ref (by assumption) | exact seqD_up | exact lstD_ref (by assumption) | exact lstD_up | rfl)))))
    refine rd_iteb (fun c => ?_) (fun c => ?_)
    · rw [c, Bool.true_and] at b1
      (repeat (first | (with_reducible first | refine rd_seq ?_ | refine rd_seqE ?_ | refine rd_next ?_ | refine rd_rtE ?_ | refine rd_nxE ?_ | refine rd_nx ?_ | refine rd_rt ?_ | refine rd_ct ?_ | refine rd_bk ?_ | refine rd_drop ?_ | refine rd_ret ?_ | refine rd_retN ?_ | refine rd_dif ?_ | refine rd_asg ?_ | refine rd_par ?_ | refine rd_for ?_ | refine rd_break ?_ | refine rd_cont ?_ | refine rd_c ?_ | refine rd_op ?_ | refine rd_un ?_ | refine rd_b ?_ | refine rd_bK ?_ | refine rd_tru ?_ | refine rd_tKb ?_ | refine rd_and ?_ | refine rd_or ?_ | refine rd_not ?_ | refine rd_andV ?_ | refine rd_orV ?_ | refine rd_notV ?_ | refine rd_tvKb ?_ | refine rd_ifE ?_ | refine rd_nil ?_ | refine rd_cons ?_ | refine rd_tup ?_ | refine rd_lst ?_ | refine rd_lstM ?_ | refine rd_cb ?_ | refine rd_call ?_ | refine rd_sp0 ?_ | refine rd_sp1 ?_ | refine rd_sp2 ?_ | refine rd_sp3 ?_ | refine rd_int ?_ | refine rd_intb ?_ | refine rd_abs ?_ | refine rd_ii ?_ | refine rd_add ?_ | refine rd_sub ?_ | refine rd_addI ?_ | refine rd_cmp ?_ | refine rd_setI ?_ | refine rd_mt ?_ | refine rd_lc ?_ | refine rd_lcM ?_ | refine rd_yes ?_ | refine rd_wseq ?_ | refine rd_wsT ?_ | refine rd_wsL ?_ | refine rd_wsS ?_ | refine rd_wzip ?_ | refine rd_zipT ?_ | refine rd_rng1 ?_ | refine rd_rng2 ?_ | refine rd_sl ?_ | refine rd_slT ?_ | refine rd_slL ?_ | refine rd_slS ?_ | refine rd_nopart ?_ | refine rd_part ?_ | refine rd_ptK ?_ | refine rd_star ?_ | refine rd_ss ?_ | refine rd_itet ?_ | refine rd_itef ?_ | refine rd_itnt ?_ | refine rd_itnf ?_) | ((with_reducible apply rd_var); (· exact rfl)) | ((with_reducible apply rd_asgK); (· exact rfl)) | ((with_reducible apply rd_parK); (· exact rfl)) | ((with_reducible apply rd_len); (· (first | assumption | exact seqD_ref (by assumption) | exact seqD_up | exact lstD_ref (by assumption) | exact lstD_up | rfl))) | ((with_reducible apply rd_tuple); (· (first | assumption | exact seqD_ref (by assumption) | exact seqD_up | exact lstD_ref (by assumption) | exact lstD_up | rfl))) | ((with_reducible apply rd_list); (· (first | assumption | exact seqD_ref (by assumption) | exact seqD_up | exact lstD_ref (by assumption) | exact lstD_up | rfl))) | ((with_reducible apply rd_stK); (· (first | assumption | exact seqD_ref (by assumption) | exact seqD_up | exact lstD_ref (by assumption) | exact lstD_up | rfl))) | ((with_reducible apply rd_ix); (· (first | assumption | exact seqD_ref (by assumption) | exact seqD_up | exact lstD_ref (by assumption) | exact lstD_up | rfl)); (· (first | exact atI_c0 _ _ | exact atI_c1 _ _ _ | exact atI_c2 _ _ _ _ | assumption | rfl))) | ((with_reducible apply rd_set30); (· (first | assumption | exact gup_same))) | ((with_reducible apply rd_set32); (· (first | assumption | exact gup_same))) | ((with_reducible apply rd_some); (· (first | assumption | exact seqD_ref (by assumption) | exact seqD_up | exact lstD_ref (by assumption) | exact lstD_up | rfl)))))
      refine ⟨S, B, rfl, rfl, by omega, by omega, ?_⟩
      (repeat (first | (with_reducible first | refine rd_seq ?_ | refine rd_seqE ?_ | refine rd_next ?_ | refine rd_rtE ?_ | refine rd_nxE ?_ | refine rd_nx ?_ | refine rd_rt ?_ | refine rd_ct ?_ | refine rd_bk ?_ | refine rd_drop ?_ | refine rd_ret ?_ | refine rd_retN ?_ | refine rd_dif ?_ | refine rd_asg ?_ | refine rd_par ?_ | refine rd_for ?_ | refine rd_break ?_ | refine rd_cont ?_ | refine rd_c ?_ | refine rd_op ?_ | refine rd_un ?_ | refine rd_b ?_ | refine rd_bK ?_ | refine rd_tru ?_ | refine rd_tKb ?_ | refine rd_and ?_ | refine rd_or ?_ | refine rd_not ?_ | refine rd_andV ?_ | refine rd_orV ?_ | refine rd_notV ?_ | refine rd_tvKb ?_ | refine rd_ifE ?_ | refine rd_nil ?_ | refine rd_cons ?_ | refine rd_tup ?_ | refine rd_lst ?_ | refine rd_lstM ?_ | refine rd_cb ?_ | refine rd_call ?_ | refine rd_sp0 ?_ | refine rd_sp1 ?_ | refine rd_sp2 ?_ | refine rd_sp3 ?_ | refine rd_int ?_ | refine rd_intb ?_ | refine rd_abs ?_ | refine rd_ii ?_ | refine rd_add ?_ | refine rd_sub ?_ | refine rd_addI ?_ | refine rd_cmp ?_ | refine rd_setI ?_ | refine rd_mt ?_ | refine rd_lc ?_ | refine rd_lcM ?_ | refine rd_yes ?_ | refine rd_wseq ?_ | refine rd_wsT ?_ | refine rd_wsL ?_ | refine rd_wsS ?_ | refine rd_wzip ?_ | refine rd_zipT ?_ | refine rd_rng1 ?_ | refine rd_rng2 ?_ | refine rd_sl ?_ | refine rd_slT ?_ | refine rd_slL ?_ | refine rd_slS ?_ | refine rd_nopart ?_ | refine rd_part ?_ | refine rd_ptK ?_ | refine rd_star ?_ | refine rd_ss ?_ | refine rd_itet ?_ | refine rd_itef ?_ | refine rd_itnt ?_ | refine rd_itnf ?_) | ((with_reducible apply rd_var); (· exact rfl)) | ((with_reducible apply rd_asgK); (· exact rfl)) | ((with_reducible apply rd_parK); (· exact rfl)) | ((with_reducible apply rd_len); (· (first | assumption | exact seqD_ref (by assumption) | exact seqD_up | exact lstD_ref (by assumption) | exact lstD_up | rfl))) | ((with_reducible apply rd_tuple); (· (first | assumption | exact seqD_ref (by assumption) | exact seqD_up | exact lstD_ref (by assumption) | exact lstD_up | rfl))) | ((with_reducible apply rd_list); (· (first | assumption | exact seqD_ref (by assumption) | exact seqD_up | exact lstD_ref (by assumption) | exact lstD_up | rfl))) | ((with_reducible apply rd_stK); (· (first | assumption | exact seqD_ref (by assumption) | exact seqD_up | exact lstD_ref (by assumption) | exact lstD_up | rfl))) | ((with_reducible apply rd_ix); (· (first | assumption | exact seqD_ref (by assumption) | exact seqD_up | exact lstD_ref (by assumption) | exact lstD_up | rfl)); (· (first | exact atI_c0 _ _ | exact atI_c1 _ _ _ | exact atI_c2 _ _ _ _ | assumption | rfl))) | ((with_reducible apply rd_set30); (· (first | assumption | exact gup_same))) | ((with_reducible apply rd_set32); (· (first | assumption | exact gup_same))) | ((with_reducible apply rd_some); (· (first | assumption | exact seqD_ref (by assumption) | exact seqD_up | exact lstD_ref (by assumption) | exact lstD_up | rfl)))))
      refine ⟨S, lo A B, rfl, rfl, by omega, by omega, ?_⟩
      (repeat (first | (with_reducible first | refine rd_seq ?_ | refine rd_seqE ?_ | refine rd_next ?_ | refine rd_rtE ?_ | refine rd_nxE ?_ | refine rd_nx ?_ | refine rd_rt ?_ | refine rd_ct ?_ | refine rd_bk ?_ | refine rd_drop ?_ | refine rd_ret ?_ | refine rd_retN ?_ | refine rd_dif ?_ | refine rd_asg ?_ | refine rd_par ?_ | refine rd_for ?_ | refine rd_break ?_ | refine rd_cont ?_ | refine rd_c ?_ | refine rd_op ?_ | refine rd_un ?_ | refine rd_b ?_ | refine rd_bK ?_ | refine rd_tru ?_ | refine rd_tKb ?_ | refine rd_and ?_ | refine rd_or ?_ | refine rd_not ?_ | refine rd_andV ?_ | refine rd_orV ?_ | refine rd_notV ?_ | refine rd_tvKb ?_ | refine rd_ifE ?_ | refine rd_nil ?_ | refine rd_cons ?_ | refine rd_tup ?_ | refine rd_lst ?_ | refine rd_lstM ?_ | refine rd_cb ?_ | refine rd_call ?_ | refine rd_sp0 ?_ | refine rd_sp1 ?_ | refine rd_sp2 ?_ | refine rd_sp3 ?_ | refine rd_int ?_ | refine rd_intb ?_ | refine rd_abs ?_ | refine rd_ii ?_ | refine rd_add ?_ | refine rd_sub ?_ | refine rd_addI ?_ | refine rd_cmp ?_ | refine rd_setI ?_ | refine rd_mt ?_ | refine rd_lc ?_ | refine rd_lcM ?_ | refine rd_yes ?_ | refine rd_wseq ?_ | refine rd_wsT ?_ | refine rd_wsL ?_ | refine rd_wsS ?_ | refine rd_wzip ?_ | refine rd_zipT ?_ | refine rd_rng1 ?_ | refine rd_rng2 ?_ | refine rd_sl ?_ | refine rd_slT ?_ | refine rd_slL ?_ | refine rd_slS ?_ | refine rd_nopart ?_ | refine rd_part ?_ | refine rd_ptK ?_ | refine rd_star ?_ | refine rd_ss ?_ | refine rd_itet ?_ | refine rd_itef ?_ | refine rd_itnt ?_ | refine rd_itnf ?_) | ((with_reducible apply rd_var); (· exact rfl)) | ((with_reducible apply rd_asgK); (· exact rfl)) | ((with_reducible apply rd_parK); (· exact rfl)) | ((with_reducible apply rd_len); (· (first | assumption | exact seqD_ref (by assumption) | exact seqD_up | exact lstD_ref (by assumption) | exact lstD_up | rfl))) | ((with_reducible apply rd_tuple); (· (first | assumption | exact seqD_ref (by assumption) | exact seqD_up | exact lstD_ref (by assumption) | exact lstD_up | rfl))) | ((with_reducible apply rd_list); (· (first | assumption | exact seqD_ref (by assumption) | exact seqD_up | exact lstD_ref (by assumption) | exact lstD_up | rfl))) | ((with_reducible apply rd_stK); (· (first | assumption | exact seqD_ref (by assumption) | exact seqD_up | exact lstD_ref (by assumption) | exact lstD_up | rfl))) | ((with_reducible apply rd_ix); (· (first | assumption | exact seqD_ref (by assumption) | exact seqD_up | exact lstD_ref (by assumption) | exact lstD_up | rfl)); (· (first | exact atI_c0 _ _ | exact atI_c1 _ _ _ | exact atI_c2 _ _ _ _ | assumption | rfl))) | ((with_reducible apply rd_set30); (· (first | assumption | exact gup_same))) | ((with_reducible apply rd_set32); (· (first | assumption | exact gup_same))) | ((with_reducible apply rd_some); (· (first | assumption | exact seqD_ref (by assumption) | exact seqD_up | exact lstD_ref (by assumption) | exact lstD_up | rfl)))))
      refine rd_neB (by rw [below_be, below_be]; exact b1) ?_
      (repeat (first | (with_reducible first | refine rd_seq ?_ | refine rd_seqE ?_ | refine rd_next ?_ | refine rd_rtE ?_ | refine rd_nxE ?_ | refine rd_nx ?_ | refine rd_rt ?_ | refine rd_ct ?_ | refine rd_bk ?_ | refine rd_drop ?_ | refine rd_ret ?_ | refine rd_retN ?_ | refine rd_dif ?_ | refine rd_asg ?_ | refine rd_par ?_ | refine rd_for ?_ | refine rd_break ?_ | refine rd_cont ?_ | refine rd_c ?_ | refine rd_op ?_ | refine rd_un ?_ | refine rd_b ?_ | refine rd_bK ?_ | refine rd_tru ?_ | refine rd_tKb ?_ | refine rd_and ?_ | refine rd_or ?_ | refine rd_not ?_ | refine rd_andV ?_ | refine rd_orV ?_ | refine rd_notV ?_ | refine rd_tvKb ?_ | refine rd_ifE ?_ | refine rd_nil ?_ | refine rd_cons ?_ | refine rd_tup ?_ | refine rd_lst ?_ | refine rd_lstM ?_ | refine rd_cb ?_ | refine rd_call ?_ | refine rd_sp0 ?_ | refine rd_sp1 ?_ | refine rd_sp2 ?_ | refine rd_sp3 ?_ | refine rd_int ?_ | refine rd_intb ?_ | refine rd_abs ?_ | refine rd_ii ?_ | refine rd_add ?_ | refine rd_sub ?_ | refine rd_addI ?_ | refine rd_cmp ?_ | refine rd_setI ?_ | refine rd_mt ?_ | refine rd_lc ?_ | refine rd_lcM ?_ | refine rd_yes ?_ | refine rd_wseq ?_ | refine rd_wsT ?_ | refine rd_wsL ?_ | refine rd_wsS ?_ | refine rd_wzip ?_ | refine rd_zipT ?_ | refine rd_rng1 ?_ | refine rd_rng2 ?_ | refine rd_sl ?_ | refine rd_slT ?_ | refine rd_slL ?_ | refine rd_slS ?_ | refine rd_nopart ?_ | refine rd_part ?_ | refine rd_ptK ?_ | refine rd_star ?_ | refine rd_ss ?_ | refine rd_itet ?_ | refine rd_itef ?_ | refine rd_itnt ?_ | refine rd_itnf ?_) | ((with_reducible apply rd_var); (· exact rfl)) | ((with_reducible apply rd_asgK); (· exact rfl)) | ((with_reducible apply rd_parK); (· exact rfl)) | ((with_reducible apply rd_len); (· (first | assumption | exact seqD_ref (by assumption) | exact seqD_up | exact lstD_ref (by assumption) | exact lstD_up | rfl))) | ((with_reducible apply rd_tuple); (· (first | assumption | exact seqD_ref (by assumption) | exact seqD_up | exact lstD_ref (by assumption) | exact lstD_up | rfl))) | ((with_reducible apply rd_list); (· (first | assumption | exact seqD_ref (by assumption) | exact seqD_up | exact lstD_ref (by assumption) | exact lstD_up | rfl))) | ((with_reducible apply rd_stK); (· (first | assumption | exact seqD_ref (by assumption) | exact seqD_up | exact lstD_ref (by assumption) | exact lstD_up | rfl))) | ((with_reducible apply rd_ix); (· (first | assumption | exact seqD_ref (by assumption) | exact seqD_up | exact lstD_ref (by assumption) | exact lstD_up | rfl)); (· (first | exact atI_c0 _ _ | exact atI_c1 _ _ _ | exact atI_c2 _ _ _ _ | assumption | rfl))) | ((with_reducible apply rd_set30); (· (first | assumption | exact gup_same))) | ((with_reducible apply rd_set32); (· (first | assumption | exact gup_same))) | ((with_reducible apply rd_some); (· (first | assumption | exact seqD_ref (by assumption) | exact seqD_up | exact lstD_ref (by assumption) | exact lstD_up | rfl)))))
      refine ⟨A, S, rfl, rfl, by omega, by omega, ?_⟩
      rw [below_be]
      (repeat (first | (with_reducible first | refine rd_seq ?_ | refine rd_seqE ?_ | refine rd_next ?_ | refine rd_rtE ?_ | refine rd_nxE ?_ | refine rd_nx ?_ | refine rd_rt ?_ | refine rd_ct ?_ | refine rd_bk ?_ | refine rd_drop ?_ | refine rd_ret ?_ | refine rd_retN ?_ | refine rd_dif ?_ | refine rd_asg ?_ | refine rd_par ?_ | refine rd_for ?_ | refine rd_break ?_ | refine rd_cont ?_ | refine rd_c ?_ | refine rd_op ?_ | refine rd_un ?_ | refine rd_b ?_ | refine rd_bK ?_ | refine rd_tru ?_ | refine rd_tKb ?_ | refine rd_and ?_ | refine rd_or ?_ | refine rd_not ?_ | refine rd_andV ?_ | refine rd_orV ?_ | refine rd_notV ?_ | refine rd_tvKb ?_ | refine rd_ifE ?_ | refine rd_nil ?_ | refine rd_cons ?_ | refine rd_tup ?_ | refine rd_lst ?_ | refine rd_lstM ?_ | refine rd_cb ?_ | refine rd_call ?_ | refine rd_sp0 ?_ | refine rd_sp1 ?_ | refine rd_sp2 ?_ | refine rd_sp3 ?_ | refine rd_int ?_ | refine rd_intb ?_ | refine rd_abs ?_ | refine rd_ii ?_ | refine rd_add ?_ | refine rd_sub ?_ | refine rd_addI ?_ | refine rd_cmp ?_ | refine rd_setI ?_ | refine rd_mt ?_ | refine rd_lc ?_ | refine rd_lcM ?_ | refine rd_yes ?_ | refine rd_wseq ?_ | refine rd_wsT ?_ | refine rd_wsL ?_ | refine rd_wsS ?_ | refine rd_wzip ?_ | refine rd_zipT ?_ | refine rd_rng1 ?_ | refine rd_rng2 ?_ | refine rd_sl ?_ | refine rd_slT ?_ | refine rd_slL ?_ | refine rd_slS ?_ | refine rd_nopart ?_ | refine rd_part ?_ | refine rd_ptK ?_ | refine rd_star ?_ | refine rd_ss ?_ | refine rd_itet ?_ | refine rd_itef ?_ | refine rd_itnt ?_ | refine rd_itnf ?_) | ((with_reducible apply rd_var); (· exact rfl)) | ((with_reducible apply rd_asgK); (· exact rfl)) | ((with_reducible apply rd_parK); (· exact rfl)) | ((with_reducible apply rd_len); (· (first | assumption | exact seqD_ref (by assumption) | exact seqD_up | exact lstD_ref (by assumption) | exact lstD_up | rfl))) | ((with_reducible apply rd_tuple); (· (first | assumption | exact seqD_ref (by assumption) | exact seqD_up | exact lstD_ref (by assumption) | exact lstD_up | rfl))) | ((with_reducible apply rd_list); (· (first | assumption | exact seqD_ref (by assumption) | exact seqD_up | exact lstD_ref (by assumption) | exact lstD_up | rfl))) | ((with_reducible apply rd_stK); (· (first | assumption | exact seqD_ref (by assumption) | exact seqD_up | exact lstD_ref (by assumption) | exact lstD_up | rfl))) | ((with_reducible apply rd_ix); (· (first | assumption | exact seqD_ref (by assumption) | exact seqD_up | exact lstD_ref (by assumption) | exact lstD_up | rfl)); (· (first | exact atI_c0 _ _ | exact atI_c1 _ _ _ | exact atI_c2 _ _ _ _ | assumption | rfl))) | ((with_reducible apply rd_set30); (· (first | assumption | exact gup_same))) | ((with_reducible apply rd_set32); (· (first | assumption | exact gup_same))) | ((with_reducible apply rd_some); (· (first | assumption | exact seqD_ref (by assumption) | exact seqD_up | exact lstD_ref (by assumption) | exact lstD_up | rfl)))))
      refine rd_iteb (fun c2 => ?_) (fun c2 => ?_)
      · rw [c2, Bool.true_and] at b2
        (repeat (first | (with_reducible first | refine rd_seq ?_ | refine rd_seqE ?_ | refine rd_next ?_ | refine rd_rtE ?_ | refine rd_nxE ?_ | refine rd_nx ?_ | refine rd_rt ?_ | refine rd_ct ?_ | refine rd_bk ?_ | refine rd_drop ?_ | refine rd_ret ?_ | refine rd_retN ?_ | refine rd_dif ?_ | refine rd_asg ?_ | refine rd_par ?_ | refine rd_for ?_ | refine rd_break ?_ | refine rd_cont ?_ | refine rd_c ?_ | refine rd_op ?_ | refine rd_un ?_ | refine rd_b ?_ | refine rd_bK ?_ | refine rd_tru ?_ | refine rd_tKb ?_ | refine rd_and ?_ | refine rd_or ?_ | refine rd_not ?_ | refine rd_andV ?_ | refine rd_orV ?_ | refine rd_notV ?_ | refine rd_tvKb ?_ | refine rd_ifE ?_ | refine rd_nil ?_ | refine rd_cons ?_ | refine rd_tup ?_ | refine rd_lst ?_ | refine rd_lstM ?_ | refine rd_cb ?_ | refine rd_call ?_ | refine rd_sp0 ?_ | refine rd_sp1 ?_ | refine rd_sp2 ?_ | refine rd_sp3 ?_ | refine rd_int ?_ | refine rd_intb ?_ | refine rd_abs ?_ | refine rd_ii ?_ | refine rd_add ?_ | refine rd_sub ?_ | refine rd_addI ?_ | refine rd_cmp ?_ | refine rd_setI ?_ | refine rd_mt ?_ | refine rd_lc ?_ | refine rd_lcM ?_ | refine rd_yes ?_ | refine rd_wseq ?_ | refine rd_wsT ?_ | refine rd_wsL ?_ | refine rd_wsS ?_ | refine rd_wzip ?_ | refine rd_zipT ?_ | refine rd_rng1 ?_ | refine rd_rng2 ?_ | refine rd_sl ?_ | refine rd_slT ?_ | refine rd_slL ?_ | refine rd_slS ?_ | refine rd_nopart ?_ | refine rd_part ?_ | refine rd_ptK ?_ | refine rd_star ?_ | refine rd_ss ?_ | refine rd_itet ?_ | refine rd_itef ?_ | refine rd_itnt ?_ | refine rd_itnf ?_) | ((with_reducible apply rd_var); (· exact rfl)) | ((with_reducible apply rd_asgK); (· exact rfl)) | ((with_reducible apply rd_parK); (· exact rfl)) | ((with_reducible apply rd_len); (· (first | assumption | exact seqD_ref (by assumption) | exact seqD_up | exact lstD_ref (by assumption) | exact lstD_up | rfl))) | ((with_reducible apply rd_tuple); (· (first | assumption | exact seqD_ref (by assumption) | exact seqD_up | exact lstD_ref (by assumption) | exact lstD_up | rfl))) | ((with_reducible apply rd_list); (· (first | assumption | exact seqD_ref (by assumption) | exact seqD_up | exact lstD_ref (by assumption) | exact lstD_up | rfl))) | ((with_reducible apply rd_stK); (· (first | assumption | exact seqD_ref (by assumption) | exact seqD_up | exact lstD_ref (by assumption) | exact lstD_up | rfl))) | ((with_reducible apply rd_ix); (· (first | assumption | exact seqD_ref (by assumption) | exact seqD_up | exact lstD_ref (by assumption) | exact lstD_up | rfl)); (· (first | exact atI_c0 _ _ | exact atI_c1 _ _ _ | exact atI_c2 _ _ _ _ | assumption | rfl))) | ((with_reducible apply rd_set30); (· (first | assumption | exact gup_same))) | ((with_reducible apply rd_set32); (· (first | assumption | exact gup_same))) | ((with_reducible apply rd_some); (· (first | assumption | exact seqD_ref (by assumption) | exact seqD_up | exact lstD_ref (by assumption) | exact lstD_up | rfl)))))
        refine ⟨B, S, rfl, rfl, by omega, by omega, ?_⟩
        (repeat (first | (with_reducible first | refine rd_seq ?_ | refine rd_seqE ?_ | refine rd_next ?_ | refine rd_rtE ?_ | refine rd_nxE ?_ | refine rd_nx ?_ | refine rd_rt ?_ | refine rd_ct ?_ | refine rd_bk ?_ | refine rd_drop ?_ | refine rd_ret ?_ | refine rd_retN ?_ | refine rd_dif ?_ | refine rd_asg ?_ | refine rd_par ?_ | refine rd_for ?_ | refine rd_break ?_ | refine rd_cont ?_ | refine rd_c ?_ | refine rd_op ?_ | refine rd_un ?_ | refine rd_b ?_ | refine rd_bK ?_ | refine rd_tru ?_ | refine rd_tKb ?_ | refine rd_and ?_ | refine rd_or ?_ | refine rd_not ?_ | refine rd_andV ?_ | refine rd_orV ?_ | refine rd_notV ?_ | refine rd_tvKb ?_ | refine rd_ifE ?_ | refine rd_nil ?_ | refine rd_cons ?_ | refine rd_tup ?_ | refine rd_lst ?_ | refine rd_lstM ?_ | refine rd_cb ?_ | refine rd_call ?_ | refine rd_sp0 ?_ | refine rd_sp1 ?_ | refine rd_sp2 ?_ | refine rd_sp3 ?_ | refine rd_int ?_ | refine rd_intb ?_ | refine rd_abs ?_ | refine rd_ii ?_ | refine rd_add ?_ | refine rd_sub ?_ | refine rd_addI ?_ | refine rd_cmp ?_ | refine rd_setI ?_ | refine rd_mt ?_ | refine rd_lc ?_ | refine rd_lcM ?_ | refine rd_yes ?_ | refine rd_wseq ?_ | refine rd_wsT ?_ | refine rd_wsL ?_ | refine rd_wsS ?_ | refine rd_wzip ?_ | refine rd_zipT ?_ | refine rd_rng1 ?_ | refine rd_rng2 ?_ | refine rd_sl ?_ | refine rd_slT ?_ | refine rd_slL ?_ | refine rd_slS ?_ | refine rd_nopart ?_ | refine rd_part ?_ | refine rd_ptK ?_ | refine rd_star ?_ | refine rd_ss ?_ | refine rd_itet ?_ | refine rd_itef ?_ | refine rd_itnt ?_ | refine rd_itnf ?_) | ((with_reducible apply rd_var); (· exact rfl)) | ((with_reducible apply rd_asgK); (· exact rfl)) | ((with_reducible apply rd_parK); (· exact rfl)) | ((with_reducible apply rd_len); (· (first | assumption | exact seqD_ref (by assumption) | exact seqD_up | exact lstD_ref (by assumption) | exact lstD_up | rfl))) | ((with_reducible apply rd_tuple); (· (first | assumption | exact seqD_ref (by assumption) | exact seqD_up | exact lstD_ref (by assumption) | exact lstD_up | rfl))) | ((with_reducible apply rd_list); (· (first | assumption | exact seqD_ref (by assumption) | exact seqD_up | exact lstD_ref (by assumption) | exact lstD_up | rfl))) | ((with_reducible apply rd_stK); (· (first | assumption | exact seqD_ref (by assumption) | exact seqD_up | exact lstD_ref (by assumption) | exact lstD_up | rfl))) | ((with_reducible apply rd_ix); (· (first | assumption | exact seqD_ref (by assumption) | exact seqD_up | exact lstD_ref (by assumption) | exact lstD_up | rfl)); (· (first | exact atI_c0 _ _ | exact atI_c1 _ _ _ | exact atI_c2 _ _ _ _ | assumption | rfl))) | ((with_reducible apply rd_set30); (· (first | assumption | exact gup_same))) | ((with_reducible apply rd_set32); (· (first | assumption | exact gup_same))) | ((with_reducible apply rd_some); (· (first | assumption | exact seqD_ref (by assumption) | exact seqD_up | exact lstD_ref (by assumption) | exact lstD_up | rfl)))))
        refine ⟨up A B, S, rfl, rfl, by omega, by omega, ?_⟩
        (repeat (first | (with_reducible first | refine rd_seq ?_ | refine rd_seqE ?_ | refine rd_next ?_ | refine rd_rtE ?_ | refine rd_nxE ?_ | refine rd_nx ?_ | refine rd_rt ?_ | refine rd_ct ?_ | refine rd_bk ?_ | refine rd_drop ?_ | refine rd_ret ?_ | refine rd_retN ?_ | refine rd_dif ?_ | refine rd_asg ?_ | refine rd_par ?_ | refine rd_for ?_ | refine rd_break ?_ | refine rd_cont ?_ | refine rd_c ?_ | refine rd_op ?_ | refine rd_un ?_ | refine rd_b ?_ | refine rd_bK ?_ | refine rd_tru ?_ | refine rd_tKb ?_ | refine rd_and ?_ | refine rd_or ?_ | refine rd_not ?_ | refine rd_andV ?_ | refine rd_orV ?_ | refine rd_notV ?_ | refine rd_tvKb ?_ | refine rd_ifE ?_ | refine rd_nil ?_ | refine rd_cons ?_ | refine rd_tup ?_ | refine rd_lst ?_ | refine rd_lstM ?_ | refine rd_cb ?_ | refine rd_call ?_ | refine rd_sp0 ?_ | refine rd_sp1 ?_ | refine rd_sp2 ?_ | refine rd_sp3 ?_ | refine rd_int ?_ | refine rd_intb ?_ | refine rd_abs ?_ | refine rd_ii ?_ | refine rd_add ?_ | refine rd_sub ?_ | refine rd_addI ?_ | refine rd_cmp ?_ | refine rd_setI ?_ | refine rd_mt ?_ | refine rd_lc ?_ | refine rd_lcM ?_ | refine rd_yes ?_ | refine rd_wseq ?_ | refine rd_wsT ?_ | refine rd_wsL ?_ | refine rd_wsS ?_ | refine rd_wzip ?_ | refine rd_zipT ?_ | refine rd_rng1 ?_ | refine rd_rng2 ?_ | refine rd_sl ?_ | refine rd_slT ?_ | refine rd_slL ?_ | refine rd_slS ?_ | refine rd_nopart ?_ | refine rd_part ?_ | refine rd_ptK ?_ | refine rd_star ?_ | refine rd_ss ?_ | refine rd_itet ?_ | refine rd_itef ?_ | refine rd_itnt ?_ | refine rd_itnf ?_) | ((with_reducible apply rd_var); (· exact rfl)) | ((with_reducible apply rd_asgK); (· exact rfl)) | ((with_reducible apply rd_parK); (· exact rfl)) | ((with_reducible apply rd_len); (· (first | assumption | exact seqD_ref (by assumption) | exact seqD_up | exact lstD_ref (by assumption) | exact lstD_up | rfl))) | ((with_reducible apply rd_tuple); (· (first | assumption | exact seqD_ref (by assumption) | exact seqD_up | exact lstD_ref (by assumption) | exact lstD_up | rfl))) | ((with_reducible apply rd_list); (· (first | assumption | exact seqD_ref (by assumption) | exact seqD_up | exact lstD_ref (by assumption) | exact lstD_up | rfl))) | ((with_reducible apply rd_stK); (· (first | assumption | exact seqD_ref (by assumption) | exact seqD_up | exact lstD_ref (by assumption) | exact lstD_up | rfl))) | ((with_reducible apply rd_ix); (· (first | assumption | exact seqD_ref (by assumption) | exact seqD_up | exact lstD_ref (by assumption) | exact lstD_up | rfl)); (· (first | exact atI_c0 _ _ | exact atI_c1 _ _ _ | exact atI_c2 _ _ _ _ | assumption | rfl))) | ((with_reducible apply rd_set30); (· (first | assumption | exact gup_same))) | ((with_reducible apply rd_set32); (· (first | assumption | exact gup_same))) | ((with_reducible apply rd_some); (· (first | assumption | exact seqD_ref (by assumption) | exact seqD_up | exact lstD_ref (by assumption) | exact lstD_up | rfl)))))
        refine rd_neB (by rw [below_be, below_be]; exact b2) ?_
        (repeat (first | (with_reducible first | refine rd_seq ?_ | refine rd_seqE ?_ | refine rd_next ?_ | refine rd_rtE ?_ | refine rd_nxE ?_ | refine rd_nx ?_ | refine rd_rt ?_ | refine rd_ct ?_ | refine rd_bk ?_ | refine rd_drop ?_ | refine rd_ret ?_ | refine rd_retN ?_ | refine rd_dif ?_ | refine rd_asg ?_ | refine rd_par ?_ | refine rd_for ?_ | refine rd_break ?_ | refine rd_cont ?_ | refine rd_c ?_ | refine rd_op ?_ | refine rd_un ?_ | refine rd_b ?_ | refine rd_bK ?_ | refine rd_tru ?_ | refine rd_tKb ?_ | refine rd_and ?_ | refine rd_or ?_ | refine rd_not ?_ | refine rd_andV ?_ | refine rd_orV ?_ | refine rd_notV ?_ | refine rd_tvKb ?_ | refine rd_ifE ?_ | refine rd_nil ?_ | refine rd_cons ?_ | refine rd_tup ?_ | refine rd_lst ?_ | refine rd_lstM ?_ | refine rd_cb ?_ | refine rd_call ?_ | refine rd_sp0 ?_ | refine rd_sp1 ?_ | refine rd_sp2 ?_ | refine rd_sp3 ?_ | refine rd_int ?_ | refine rd_intb ?_ | refine rd_abs ?_ | refine rd_ii ?_ | refine rd_add ?_ | refine rd_sub ?_ | refine rd_addI ?_ | refine rd_cmp ?_ | refine rd_setI ?_ | refine rd_mt ?_ | refine rd_lc ?_ | refine rd_lcM ?_ | refine rd_yes ?_ | refine rd_wseq ?_ | refine rd_wsT ?_ | refine rd_wsL ?_ | refine rd_wsS ?_ | refine rd_wzip ?_ | refine rd_zipT ?_ | refine rd_rng1 ?_ | refine rd_rng2 ?_ | refine rd_sl ?_ | refine rd_slT ?_ | refine rd_slL ?_ | refine rd_slS ?_ | refine rd_nopart ?_ | refine rd_part ?_ | refine rd_ptK ?_ | refine rd_star ?_ | refine rd_ss ?_ | refine rd_itet ?_ | refine rd_itef ?_ | refine rd_itnt ?_ | refine rd_itnf ?_) | ((with_reducible apply rd_var); (· exact rfl)) | ((with_reducible apply rd_asgK); (· exact rfl)) | ((with_reducible apply rd_parK); (· exact rfl)) | ((with_reducible apply rd_len); (· (first | assumption | exact seqD_ref (by assumption) | exact seqD_up | exact lstD_ref (by assumption) | exact lstD_up | rfl))) | ((with_reducible apply rd_tuple); (· (first | assumption | exact seqD_ref (by assumption) | exact seqD_up | exact lstD_ref (by assumption) | exact lstD_up | rfl))) | ((with_reducible apply rd_list); (· (first | assumption | exact seqD_ref (by assumption) | exact seqD_up | exact lstD_ref (by assumption) | exact lstD_up | rfl))) | ((with_reducible apply rd_stK); (· (first | assumption | exact seqD_ref (by assumption) | exact seqD_up | exact lstD_ref (by assumption) | exact lstD_up | rfl))) | ((with_reducible apply rd_ix); (· (first | assumption | exact seqD_ref (by assumption) | exact seqD_up | exact lstD_ref (by assumption) | exact lstD_up | rfl)); (· (first | exact atI_c0 _ _ | exact atI_c1 _ _ _ | exact atI_c2 _ _ _ _ | assumption | rfl))) | ((with_reducible apply rd_set30); (· (first | assumption | exact gup_same))) | ((with_reducible apply rd_set32); (· (first | assumption | exact gup_same))) | ((with_reducible apply rd_some); (· (first | assumption | exact seqD_ref (by assumption) | exact seqD_up | exact lstD_ref (by assumption) | exact lstD_up | rfl)))))
        exact hf _ _ ⟨rfl, _, rfl⟩
      · rw [c2, Bool.false_and] at b2
        (repeat (first | (with_reducible first | refine rd_seq ?_ | refine rd_seqE ?_ | refine rd_next ?_ | refine rd_rtE ?_ | refine rd_nxE ?_ | refine rd_nx ?_ | refine rd_rt ?_ | refine rd_ct ?_ | refine rd_bk ?_ | refine rd_drop ?_ | refine rd_ret ?_ | refine rd_retN ?_ | refine rd_dif ?_ | refine rd_asg ?_ | refine rd_par ?_ | refine rd_for ?_ | refine rd_break ?_ | refine rd_cont ?_ | refine rd_c ?_ | refine rd_op ?_ | refine rd_un ?_ | refine rd_b ?_ | refine rd_bK ?_ | refine rd_tru ?_ | refine rd_tKb ?_ | refine rd_and ?_ | refine rd_or ?_ | refine rd_not ?_ | refine rd_andV ?_ | refine rd_orV ?_ | refine rd_notV ?_ | refine rd_tvKb ?_ | refine rd_ifE ?_ | refine rd_nil ?_ | refine rd_cons ?_ | refine rd_tup ?_ | refine rd_lst ?_ | refine rd_lstM ?_ | refine rd_cb ?_ | refine rd_call ?_ | refine rd_sp0 ?_ | refine rd_sp1 ?_ | refine rd_sp2 ?_ | refine rd_sp3 ?_ | refine rd_int ?_ | refine rd_intb ?_ | refine rd_abs ?_ | refine rd_ii ?_ | refine rd_add ?_ | refine rd_sub ?_ | refine rd_addI ?_ | refine rd_cmp ?_ | refine rd_setI ?_ | refine rd_mt ?_ | refine rd_lc ?_ | refine rd_lcM ?_ | refine rd_yes ?_ | refine rd_wseq ?_ | refine rd_wsT ?_ | refine rd_wsL ?_ | refine rd_wsS ?_ | refine rd_wzip ?_ | refine rd_zipT ?_ | refine rd_rng1 ?_ | refine rd_rng2 ?_ | refine rd_sl ?_ | refine rd_slT ?_ | refine rd_slL ?_ | refine rd_slS ?_ | refine rd_nopart ?_ | refine rd_part ?_ | refine rd_ptK ?_ | refine rd_star ?_ | refine rd_ss ?_ | refine rd_itet ?_ | refine rd_itef ?_ | refine rd_itnt ?_ | refine rd_itnf ?_) | ((with_reducible apply rd_var); (· exact rfl)) | ((with_reducible apply rd_asgK); (· exact rfl)) | ((with_reducible apply rd_parK); (· exact rfl)) | ((with_reducible apply rd_len); (· (first | assumption | exact seqD_ref (by assumption) | exact seqD_up | exact lstD_ref (by assumption) | exact lstD_up | rfl))) | ((with_reducible apply rd_tuple); (· (first | assumption | exact seqD_ref (by assumption) | exact seqD_up | exact lstD_ref (by assumption) | exact lstD_up | rfl))) | ((with_reducible apply rd_list); (· (first | assumption | exact seqD_ref (by assumption) | exact seqD_up | exact lstD_ref (by assumption) | exact lstD_up | rfl))) | ((with_reducible apply rd_stK); (· (first | assumption | exact seqD_ref (by assumption) | exact seqD_up | exact lstD_ref (by assumption) | exact lstD_up | rfl))) | ((with_reducible apply rd_ix); (· (first | assumption | exact seqD_ref (by assumption) | exact seqD_up | exact lstD_ref (by assumption) | exact lstD_up | rfl)); (· (first | exact atI_c0 _ _ | exact atI_c1 _ _ _ | exact atI_c2 _ _ _ _ | assumption | rfl))) | ((with_reducible apply rd_set30); (· (first | assumption | exact gup_same))) | ((with_reducible apply rd_set32); (· (first | assumption | exact gup_same))) | ((with_reducible apply rd_some); (· (first | assumption | exact seqD_ref (by assumption) | exact seqD_up | exact lstD_ref (by assumption) | exact lstD_up | rfl)))))
        refine ⟨up A B, S, rfl, rfl, by omega, by omega, ?_⟩
        (repeat (first | (with_reducible first | refine rd_seq ?_ | refine rd_seqE ?_ | refine rd_next ?_ | refine rd_rtE ?_ | refine rd_nxE ?_ | refine rd_nx ?_ | refine rd_rt ?_ | refine rd_ct ?_ | refine rd_bk ?_ | refine rd_drop ?_ | refine rd_ret ?_ | refine rd_retN ?_ | refine rd_dif ?_ | refine rd_asg ?_ | refine rd_par ?_ | refine rd_for ?_ | refine rd_break ?_ | refine rd_cont ?_ | refine rd_c ?_ | refine rd_op ?_ | refine rd_un ?_ | refine rd_b ?_ | refine rd_bK ?_ | refine rd_tru ?_ | refine rd_tKb ?_ | refine rd_and ?_ | refine rd_or ?_ | refine rd_not ?_ | refine rd_andV ?_ | refine rd_orV ?_ | refine rd_notV ?_ | refine rd_tvKb ?_ | refine rd_ifE ?_ | refine rd_nil ?_ | refine rd_cons ?_ | refine rd_tup ?_ | refine rd_lst ?_ | refine rd_lstM ?_ | refine rd_cb ?_ | refine rd_call ?_ | refine rd_sp0 ?_ | refine rd_sp1 ?_ | refine rd_sp2 ?_ | refine rd_sp3 ?_ | refine rd_int ?_ | refine rd_intb ?_ | refine rd_abs ?_ | refine rd_ii ?_ | refine rd_add ?_ | refine rd_sub ?_ | refine rd_addI ?_ | refine rd_cmp ?_ | refine rd_setI ?_ | refine rd_mt ?_ | refine rd_lc ?_ | refine rd_lcM ?_ | refine rd_yes ?_ | refine rd_wseq ?_ | refine rd_wsT ?_ | refine rd_wsL ?_ | refine rd_wsS ?_ | refine rd_wzip ?_ | refine rd_zipT ?_ | refine rd_rng1 ?_ | refine rd_rng2 ?_ | refine rd_sl ?_ | refine rd_slT ?_ | refine rd_slL ?_ | refine rd_slS ?_ | refine rd_nopart ?_ | refine rd_part ?_ | refine rd_ptK ?_ | refine rd_star ?_ | refine rd_ss ?_ | refine rd_itet ?_ | refine rd_itef ?_ | refine rd_itnt ?_ | refine rd_itnf ?_) | ((with_reducible apply rd_var); (· exact rfl)) | ((with_reducible apply rd_asgK); (· exact rfl)) | ((with_reducible apply rd_parK); (· exact rfl)) | ((with_reducible apply rd_len); (· (first | assumption | exact seqD_ref (by assumption) | exact seqD_up | exact lstD_ref (by assumption) | exact lstD_up | rfl))) | ((with_reducible apply rd_tuple); (· (first | assumption | exact seqD_ref (by assumption) | exact seqD_up | exact lstD_ref (by assumption) | exact lstD_up | rfl))) | ((with_reducible apply rd_list); (· (first | assumption | exact seqD_ref (by assumption) | exact seqD_up | exact lstD_ref (by assumption) | exact lstD_up | rfl))) | ((with_reducible apply rd_stK); (· (first | assumption | exact seqD_ref (by assumption) | exact seqD_up | exact lstD_ref (by assumption) | exact lstD_up | rfl))) | ((with_reducible apply rd_ix); (· (first | assumption | exact seqD_ref (by assumption) | exact seqD_up | exact lstD_ref (by assumption) | exact lstD_up | rfl)); (· (first | exact atI_c0 _ _ | exact atI_c1 _ _ _ | exact atI_c2 _ _ _ _ | assumption | rfl))) | ((with_reducible apply rd_set30); (· (first | assumption | exact gup_same))) | ((with_reducible apply rd_set32); (· (first | assumption | exact gup_same))) | ((with_reducible apply rd_some); (· (first | assumption | exact seqD_ref (by assumption) | exact seqD_up | exact lstD_ref (by assumption) | exact lstD_up | rfl)))))
        refine rd_neB (by rw [below_be, c2]; exact b2) ?_
        (repeat (first | (with_reducible first | refine rd_seq ?_ | refine rd_seqE ?_ | refine rd_next ?_ | refine rd_rtE ?_ | refine rd_nxE ?_ | refine rd_nx ?_ | refine rd_rt ?_ | refine rd_ct ?_ | refine rd_bk ?_ | refine rd_drop ?_ | refine rd_ret ?_ | refine rd_retN ?_ | refine rd_dif ?_ | refine rd_asg ?_ | refine rd_par ?_ | refine rd_for ?_ | refine rd_break ?_ | refine rd_cont ?_ | refine rd_c ?_ | refine rd_op ?_ | refine rd_un ?_ | refine rd_b ?_ | refine rd_bK ?_ | refine rd_tru ?_ | refine rd_tKb ?_ | refine rd_and ?_ | refine rd_or ?_ | refine rd_not ?_ | refine rd_andV ?_ | refine rd_orV ?_ | refine rd_notV ?_ | refine rd_tvKb ?_ | refine rd_ifE ?_ | refine rd_nil ?_ | refine rd_cons ?_ | refine rd_tup ?_ | refine rd_lst ?_ | refine rd_lstM ?_ | refine rd_cb ?_ | refine rd_call ?_ | refine rd_sp0 ?_ | refine rd_sp1 ?_ | refine rd_sp2 ?_ | refine rd_sp3 ?_ | refine rd_int ?_ | refine rd_intb ?_ | refine rd_abs ?_ | refine rd_ii ?_ | refine rd_add ?_ | refine rd_sub ?_ | refine rd_addI ?_ | refine rd_cmp ?_ | refine rd_setI ?_ | refine rd_mt ?_ | refine rd_lc ?_ | refine rd_lcM ?_ | refine rd_yes ?_ | refine rd_wseq ?_ | refine rd_wsT ?_ | refine rd_wsL ?_ | refine rd_wsS ?_ | refine rd_wzip ?_ | refine rd_zipT ?_ | refine rd_rng1 ?_ | refine rd_rng2 ?_ | refine rd_sl ?_ | refine rd_slT ?_ | refine rd_slL ?_ | refine rd_slS ?_ | refine rd_nopart ?_ | refine rd_part ?_ | refine rd_ptK ?_ | refine rd_star ?_ | refine rd_ss ?_ | refine rd_itet ?_ | refine rd_itef ?_ | refine rd_itnt ?_ | refine rd_itnf ?_) | ((with_reducible apply rd_var); (· exact rfl)) | ((with_reducible apply rd_asgK); (· exact rfl)) | ((with_reducible apply rd_parK); (· exact rfl)) | ((with_reducible apply rd_len); (· (first | assumption | exact seqD_ref (by assumption) | exact seqD_up | exact lstD_ref (by assumption) | exact lstD_up | rfl))) | ((with_reducible apply rd_tuple); (· (first | assumption | exact seqD_ref (by assumption) | exact seqD_up | exact lstD_ref (by assumption) | exact lstD_up | rfl))) | ((with_reducible apply rd_list); (· (first | assumption | exact seqD_ref (by assumption) | exact seqD_up | exact lstD_ref (by assumption) | exact lstD_up | rfl))) | ((with_reducible apply rd_stK); (· (first | assumption | exact seqD_ref (by assumption) | exact seqD_up | exact lstD_ref (by assumption) | exact lstD_up | rfl))) | ((with_reducible apply rd_ix); (· (first | assumption | exact seqD_ref (by assumption) | exact seqD_up | exact lstD_ref (by assumption) | exact lstD_up | rfl)); (· (first | exact atI_c0 _ _ | exact atI_c1 _ _ _ | exact atI_c2 _ _ _ _ | assumption | rfl))) | ((with_reducible apply rd_set30); (· (first | assumption | exact gup_same))) | ((with_reducible apply rd_set32); (· (first | assumption | exact gup_same))) | ((with_reducible apply rd_some); (· (first | assumption | exact seqD_ref (by assumption) | exact seqD_up | exact lstD_ref (by assumption) | exact lstD_up | rfl)))))
        exact hf _ _ ⟨rfl, _, rfl⟩
    · rw [c, Bool.false_and] at b1
      (repeat (first | (with_reducible first | refine rd_seq ?_ | refine rd_seqE ?_ | refine rd_next ?_ | refine rd_rtE ?_ | refine rd_nxE ?_ | refine rd_nx ?_ | refine rd_rt ?_ | refine rd_ct ?_ | refine rd_bk ?_ | refine rd_drop ?_ | refine rd_ret ?_ | refine rd_retN ?_ | refine rd_dif ?_ | refine rd_asg ?_ | refine rd_par ?_ | refine rd_for ?_ | refine rd_break ?_ | refine rd_cont ?_ | refine rd_c ?_ | refine rd_op ?_ | refine rd_un ?_ | refine rd_b ?_ | refine rd_bK ?_ | refine rd_tru ?_ | refine rd_tKb ?_ | refine rd_and ?_ | refine rd_or ?_ | refine rd_not ?_ | refine rd_andV ?_ | refine rd_orV ?_ | refine rd_notV ?_ | refine rd_tvKb ?_ | refine rd_ifE ?_ | refine rd_nil ?_ | refine rd_cons ?_ | refine rd_tup ?_ | refine rd_lst ?_ | refine rd_lstM ?_ | refine rd_cb ?_ | refine rd_call ?_ | refine rd_sp0 ?_ | refine rd_sp1 ?_ | refine rd_sp2 ?_ | refine rd_sp3 ?_ | refine rd_int ?_ | refine rd_intb ?_ | refine rd_abs ?_ | refine rd_ii ?_ | refine rd_add ?_ | refine rd_sub ?_ | refine rd_addI ?_ | refine rd_cmp ?_ | refine rd_setI ?_ | refine rd_mt ?_ | refine rd_lc ?_ | refine rd_lcM ?_ | refine rd_yes ?_ | refine rd_wseq ?_ | refine rd_wsT ?_ | refine rd_wsL ?_ | refine rd_wsS ?_ | refine rd_wzip ?_ | refine rd_zipT ?_ | refine rd_rng1 ?_ | refine rd_rng2 ?_ | refine rd_sl ?_ | refine rd_slT ?_ | refine rd_slL ?_ | refine rd_slS ?_ | refine rd_nopart ?_ | refine rd_part ?_ | refine rd_ptK ?_ | refine rd_star ?_ | refine rd_ss ?_ | refine rd_itet ?_ | refine rd_itef ?_ | refine rd_itnt ?_ | refine rd_itnf ?_) | ((with_reducible apply rd_var); (· exact rfl)) | ((with_reducible apply rd_asgK); (· exact rfl)) | ((with_reducible apply rd_parK); (· exact rfl)) | ((with_reducible apply rd_len); (· (first | assumption | exact seqD_ref (by assumption) | exact seqD_up | exact lstD_ref (by assumption) | exact lstD_up | rfl))) | ((with_reducible apply rd_tuple); (· (first | assumption | exact seqD_ref (by assumption) | exact seqD_up | exact lstD_ref (by assumption) | exact lstD_up | rfl))) | ((with_reducible apply rd_list); (· (first | assumption | exact seqD_ref (by assumption) | exact seqD_up | exact lstD_ref (by assumption) | exact lstD_up | rfl))) | ((with_reducible apply rd_stK); (· (first | assumption | exact seqD_ref (by assumption) | exact seqD_up | exact lstD_ref (by assumption) | exact lstD_up | rfl))) | ((with_reducible apply rd_ix); (· (first | assumption | exact seqD_ref (by assumption) | exact seqD_up | exact lstD_ref (by assumption) | exact lstD_up | rfl)); (· (first | exact atI_c0 _ _ | exact atI_c1 _ _ _ | exact atI_c2 _ _ _ _ | assumption | rfl))) | ((with_reducible apply rd_set30); (· (first | assumption | exact gup_same))) | ((with_reducible apply rd_set32); (· (first | assumption | exact gup_same))) | ((with_reducible apply rd_some); (· (first | assumption | exact seqD_ref (by assumption) | exact seqD_up | exact lstD_ref (by assumption) | exact lstD_up | rfl)))))
      refine ⟨S, lo A B, rfl, rfl, by omega, by omega, ?_⟩
      (repeat (first | (with_reducible first | refine rd_seq ?_ | refine rd_seqE ?_ | refine rd_next ?_ | refine rd_rtE ?_ | refine rd_nxE ?_ | refine rd_nx ?_ | refine rd_rt ?_ | refine rd_ct ?_ | refine rd_bk ?_ | refine rd_drop ?_ | refine rd_ret ?_ | refine rd_retN ?_ | refine rd_dif ?_ | refine rd_asg ?_ | refine rd_par ?_ | refine rd_for ?_ | refine rd_break ?_ | refine rd_cont ?_ | refine rd_c ?_ | refine rd_op ?_ | refine rd_un ?_ | refine rd_b ?_ | refine rd_bK ?_ | refine rd_tru ?_ | refine rd_tKb ?_ | refine rd_and ?_ | refine rd_or ?_ | refine rd_not ?_ | refine rd_andV ?_ | refine rd_orV ?_ | refine rd_notV ?_ | refine rd_tvKb ?_ | refine rd_ifE ?_ | refine rd_nil ?_ | refine rd_cons ?_ | refine rd_tup ?_ | refine rd_lst ?_ | refine rd_lstM ?_ | refine rd_cb ?_ | refine rd_call ?_ | refine rd_sp0 ?_ | refine rd_sp1 ?_ | refine rd_sp2 ?_ | refine rd_sp3 ?_ | refine rd_int ?_ | refine rd_intb ?_ | refine rd_abs ?_ | refine rd_ii ?_ | refine rd_add ?_ | refine rd_sub ?_ | refine rd_addI ?_ | refine rd_cmp ?_ | refine rd_setI ?_ | refine rd_mt ?_ | refine rd_lc ?_ | refine rd_lcM ?_ | refine rd_yes ?_ | refine rd_wseq ?_ | refine rd_wsT ?_ | refine rd_wsL ?_ | refine rd_wsS ?_ | refine rd_wzip ?_ | refine rd_zipT ?_ | refine rd_rng1 ?_ | refine rd_rng2 ?_ | refine rd_sl ?_ | refine rd_slT ?_ | refine rd_slL ?_ | refine rd_slS ?_ | refine rd_nopart ?_ | refine rd_part ?_ | refine rd_ptK ?_ | refine rd_star ?_ | refine rd_ss ?_ | refine rd_itet ?_ | refine rd_itef ?_ | refine rd_itnt ?_ | refine rd_itnf ?_) | ((with_reducible apply rd_var); (· exact rfl)) | ((with_reducible apply rd_asgK); (· exact rfl)) | ((with_reducible apply rd_parK); (· exact rfl)) | ((with_reducible apply rd_len); (· (first | assumption | exact seqD_ref (by assumption) | exact seqD_up | exact lstD_ref (by assumption) | exact lstD_up | rfl))) | ((with_reducible apply rd_tuple); (· (first | assumption | exact seqD_ref (by assumption) | exact seqD_up | exact lstD_ref (by assumption) | exact lstD_up | rfl))) | ((with_reducible apply rd_list); (· (first | assumption | exact seqD_ref (by assumption) | exact seqD_up | exact lstD_ref (by assumption) | exact lstD_up | rfl))) | ((with_reducible apply rd_stK); (· (first | assumption | exact seqD_ref (by assumption) | exact seqD_up | exact lstD_ref (by assumption) | exact lstD_up | rfl))) | ((with_reducible apply rd_ix); (· (first | assumption | exact seqD_ref (by assumption) | exact seqD_up | exact lstD_ref (by assumption) | exact lstD_up | rfl)); (· (first | exact atI_c0 _ _ | exact atI_c1 _ _ _ | exact atI_c2 _ _ _ _ | assumption | rfl))) | ((with_reducible apply rd_set30); (· (first | assumption | exact gup_same))) | ((with_reducible apply rd_set32); (· (first | assumption | exact gup_same))) | ((with_reducible apply rd_some); (· (first | assumption | exact seqD_ref (by assumption) | exact seqD_up | exact lstD_ref (by assumption) | exact lstD_up | rfl)))))
      refine rd_neB (by rw [below_be, c]; exact b1) ?_
      (repeat (first | (with_reducible first | refine rd_seq ?_ | refine rd_seqE ?_ | refine rd_next ?_ | refine rd_rtE ?_ | refine rd_nxE ?_ | refine rd_nx ?_ | refine rd_rt ?_ | refine rd_ct ?_ | refine rd_bk ?_ | refine rd_drop ?_ | refine rd_ret ?_ | refine rd_retN ?_ | refine rd_dif ?_ | refine rd_asg ?_ | refine rd_par ?_ | refine rd_for ?_ | refine rd_break ?_ | refine rd_cont ?_ | refine rd_c ?_ | refine rd_op ?_ | refine rd_un ?_ | refine rd_b ?_ | refine rd_bK ?_ | refine rd_tru ?_ | refine rd_tKb ?_ | refine rd_and ?_ | refine rd_or ?_ | refine rd_not ?_ | refine rd_andV ?_ | refine rd_orV ?_ | refine rd_notV ?_ | refine rd_tvKb ?_ | refine rd_ifE ?_ | refine rd_nil ?_ | refine rd_cons ?_ | refine rd_tup ?_ | refine rd_lst ?_ | refine rd_lstM ?_ | refine rd_cb ?_ | refine rd_call ?_ | refine rd_sp0 ?_ | refine rd_sp1 ?_ | refine rd_sp2 ?_ | refine rd_sp3 ?_ | refine rd_int ?_ | refine rd_intb ?_ | refine rd_abs ?_ | refine rd_ii ?_ | refine rd_add ?_ | refine rd_sub ?_ | refine rd_addI ?_ | refine rd_cmp ?_ | refine rd_setI ?_ | refine rd_mt ?_ | refine rd_lc ?_ | refine rd_lcM ?_ | refine rd_yes ?_ | refine rd_wseq ?_ | refine rd_wsT ?_ | refine rd_wsL ?_ | refine rd_wsS ?_ | refine rd_wzip ?_ | refine rd_zipT ?_ | refine rd_rng1 ?_ | refine rd_rng2 ?_ | refine rd_sl ?_ | refine rd_slT ?_ | refine rd_slL ?_ | refine rd_slS ?_ | refine rd_nopart ?_ | refine rd_part ?_ | refine rd_ptK ?_ | refine rd_star ?_ | refine rd_ss ?_ | refine rd_itet ?_ | refine rd_itef ?_ | refine rd_itnt ?_ | refine rd_itnf ?_) | ((with_reducible apply rd_var); (· exact rfl)) | ((with_reducible apply rd_asgK); (· exact rfl)) | ((with_reducible apply rd_parK); (· exact rfl)) | ((with_reducible apply rd_len); (· (first | assumption | exact seqD_ref (by assumption) | exact seqD_up | exact lstD_ref (by assumption) | exact lstD_up | rfl))) | ((with_reducible apply rd_tuple); (· (first | assumption | exact seqD_ref (by assumption) | exact seqD_up | exact lstD_ref (by assumption) | exact lstD_up | rfl))) | ((with_reducible apply rd_list); (· (first | assumption | exact seqD_ref (by assumption) | exact seqD_up | exact lstD_ref (by assumption) | exact lstD_up | rfl))) | ((with_reducible apply rd_stK); (· (first | assumption | exact seqD_ref (by assumption) | exact seqD_up | exact lstD_ref (by assumption) | exact lstD_up | rfl))) | ((with_reducible apply rd_ix); (· (first | assumption | exact seqD_ref (by assumption) | exact seqD_up | exact lstD_ref (by assumption) | exact lstD_up | rfl)); (· (first | exact atI_c0 _ _ | exact atI_c1 _ _ _ | exact atI_c2 _ _ _ _ | assumption | rfl))) | ((with_reducible apply rd_set30); (· (first | assumption | exact gup_same))) | ((with_reducible apply rd_set32); (· (first | assumption | exact gup_same))) | ((with_reducible apply rd_some); (· (first | assumption | exact seqD_ref (by assumption) | exact seqD_up | exact lstD_ref (by assumption) | exact lstD_up | rfl)))))
      refine ⟨A, S, rfl, rfl, by omega, by omega, ?_⟩
      rw [below_be]
      (repeat (first | (with_reducible first | refine rd_seq ?_ | refine rd_seqE ?_ | refine rd_next ?_ | refine rd_rtE ?_ | refine rd_nxE ?_ | refine rd_nx ?_ | refine rd_rt ?_ | refine rd_ct ?_ | refine rd_bk ?_ | refine rd_drop ?_ | refine rd_ret ?_ | refine rd_retN ?_ | refine rd_dif ?_ | refine rd_asg ?_ | refine rd_par ?_ | refine rd_for ?_ | refine rd_break ?_ | refine rd_cont ?_ | refine rd_c ?_ | refine rd_op ?_ | refine rd_un ?_ | refine rd_b ?_ | refine rd_bK ?_ | refine rd_tru ?_ | refine rd_tKb ?_ | refine rd_and ?_ | refine rd_or ?_ | refine rd_not ?_ | refine rd_andV ?_ | refine rd_orV ?_ | refine rd_notV ?_ | refine rd_tvKb ?_ | refine rd_ifE ?_ | refine rd_nil ?_ | refine rd_cons ?_ | refine rd_tup ?_ | refine rd_lst ?_ | refine rd_lstM ?_ | refine rd_cb ?_ | refine rd_call ?_ | refine rd_sp0 ?_ | refine rd_sp1 ?_ | refine rd_sp2 ?_ | refine rd_sp3 ?_ | refine rd_int ?_ | refine rd_intb ?_ | refine rd_abs ?_ | refine rd_ii ?_ | refine rd_add ?_ | refine rd_sub ?_ | refine rd_addI ?_ | refine rd_cmp ?_ | refine rd_setI ?_ | refine rd_mt ?_ | refine rd_lc ?_ | refine rd_lcM ?_ | refine rd_yes ?_ | refine rd_wseq ?_ | refine rd_wsT ?_ | refine rd_wsL ?_ | refine rd_wsS ?_ | refine rd_wzip ?_ | refine rd_zipT ?_ | refine rd_rng1 ?_ | refine rd_rng2 ?_ | refine rd_sl ?_ | refine rd_slT ?_ | refine rd_slL ?_ | refine rd_slS ?_ | refine rd_nopart ?_ | refine rd_part ?_ | refine rd_ptK ?_ | refine rd_star ?_ | refine rd_ss ?_ | refine rd_itet ?_ | refine rd_itef ?_ | refine rd_itnt ?_ | refine rd_itnf ?_) | ((with_reducible apply rd_var); (· exact rfl)) | ((with_reducible apply rd_asgK); (· exact rfl)) | ((with_reducible apply rd_parK); (· exact rfl)) | ((with_reducible apply rd_len); (· (first | assumption | exact seqD_ref (by assumption) | exact seqD_up | exact lstD_ref (by assumption) | exact lstD_up | rfl))) | ((with_reducible apply rd_tuple); (· (first | assumption | exact seqD_ref (by assumption) | exact seqD_up | exact lstD_ref (by assumption) | exact lstD_up | rfl))) | ((with_reducible apply rd_list); (· (first | assumption | exact seqD_ref (by assumption) | exact seqD_up | exact lstD_ref (by assumption) | exact lstD_up | rfl))) | ((with_reducible apply rd_stK); (· (first | assumption | exact seqD_ref (by assumption) | exact seqD_up | exact lstD_ref (by assumption) | exact lstD_up | rfl))) | ((with_reducible apply rd_ix); (· (first | assumption | exact seqD_ref (by assumption) | exact seqD_up | exact lstD_ref (by assumption) | exact lstD_up | rfl)); (· (first | exact atI_c0 _ _ | exact atI_c1 _ _ _ | exact atI_c2 _ _ _ _ | assumption | rfl))) | ((with_reducible apply rd_set30); (· (first | assumption | exact gup_same))) | ((with_reducible apply rd_set32); (· (first | assumption | exact gup_same))) | ((with_reducible apply rd_some); (· (first | assumption | exact seqD_ref (by assumption) | exact seqD_up | exact lstD_ref (by assumption) | exact lstD_up | rfl)))))
      refine rd_iteb (fun c2 => ?_) (fun c2 => ?_)
      · rw [c2, Bool.true_and] at b2
        (repeat (first | (with_reducible first | refine rd_seq ?_ | refine rd_seqE ?_ | refine rd_next ?_ | refine rd_rtE ?_ | refine rd_nxE ?_ | refine rd_nx ?_ | refine rd_rt ?_ | refine rd_ct ?_ | refine rd_bk ?_ | refine rd_drop ?_ | refine rd_ret ?_ | refine rd_retN ?_ | refine rd_dif ?_ | refine rd_asg ?_ | refine rd_par ?_ | refine rd_for ?_ | refine rd_break ?_ | refine rd_cont ?_ | refine rd_c ?_ | refine rd_op ?_ | refine rd_un ?_ | refine rd_b ?_ | refine rd_bK ?_ | refine rd_tru ?_ | refine rd_tKb ?_ | refine rd_and ?_ | refine rd_or ?_ | refine rd_not ?_ | refine rd_andV ?_ | refine rd_orV ?_ | refine rd_notV ?_ | refine rd_tvKb ?_ | refine rd_ifE ?_ | refine rd_nil ?_ | refine rd_cons ?_ | refine rd_tup ?_ | refine rd_lst ?_ | refine rd_lstM ?_ | refine rd_cb ?_ | refine rd_call ?_ | refine rd_sp0 ?_ | refine rd_sp1 ?_ | refine rd_sp2 ?_ | refine rd_sp3 ?_ | refine rd_int ?_ | refine rd_intb ?_ | refine rd_abs ?_ | refine rd_ii ?_ | refine rd_add ?_ | refine rd_sub ?_ | refine rd_addI ?_ | refine rd_cmp ?_ | refine rd_setI ?_ | refine rd_mt ?_ | refine rd_lc ?_ | refine rd_lcM ?_ | refine rd_yes ?_ | refine rd_wseq ?_ | refine rd_wsT ?_ | refine rd_wsL ?_ | refine rd_wsS ?_ | refine rd_wzip ?_ | refine rd_zipT ?_ | refine rd_rng1 ?_ | refine rd_rng2 ?_ | refine rd_sl ?_ | refine rd_slT ?_ | refine rd_slL ?_ | refine rd_slS ?_ | refine rd_nopart ?_ | refine rd_part ?_ | refine rd_ptK ?_ | refine rd_star ?_ | refine rd_ss ?_ | refine rd_itet ?_ | refine rd_itef ?_ | refine rd_itnt ?_ | refine rd_itnf ?_) | ((with_reducible apply rd_var); (· exact rfl)) | ((with_reducible apply rd_asgK); (· exact rfl)) | ((with_reducible apply rd_parK); (· exact rfl)) | ((with_reducible apply rd_len); (· (first | assumption | exact seqD_ref (by assumption) | exact seqD_up | exact lstD_ref (by assumption) | exact lstD_up | rfl))) | ((with_reducible apply rd_tuple); (· (first | assumption | exact seqD_ref (by assumption) | exact seqD_up | exact lstD_ref (by assumption) | exact lstD_up | rfl))) | ((with_reducible apply rd_list); (· (first | assumption | exact seqD_ref (by assumption) | exact seqD_up | exact lstD_ref (by assumption) | exact lstD_up | rfl))) | ((with_reducible apply rd_stK); (· (first | assumption | exact seqD_ref (by assumption) | exact seqD_up | exact lstD_ref (by assumption) | exact lstD_up | rfl))) | ((with_reducible apply rd_ix); (· (first | assumption | exact seqD_ref (by assumption) | exact seqD_up | exact lstD_ref (by assumption) | exact lstD_up | rfl)); (· (first | exact atI_c0 _ _ | exact atI_c1 _ _ _ | exact atI_c2 _ _ _ _ | assumption | rfl))) | ((with_reducible apply rd_set30); (· (first | assumption | exact gup_same))) | ((with_reducible apply rd_set32); (· (first | assumption | exact gup_same))) | ((with_reducible apply rd_some); (· (first | assumption | exact seqD_ref (by assumption) | exact seqD_up | exact lstD_ref (by assumption) | exact lstD_up | rfl)))))
        refine ⟨B, S, rfl, rfl, by omega, by omega, ?_⟩
        (repeat (first | (with_reducible first | refine rd_seq ?_ | refine rd_seqE ?_ | refine rd_next ?_ | refine rd_rtE ?_ | refine rd_nxE ?_ | refine rd_nx ?_ | refine rd_rt ?_ | refine rd_ct ?_ | refine rd_bk ?_ | refine rd_drop ?_ | refine rd_ret ?_ | refine rd_retN ?_ | refine rd_dif ?_ | refine rd_asg ?_ | refine rd_par ?_ | refine rd_for ?_ | refine rd_break ?_ | refine rd_cont ?_ | refine rd_c ?_ | refine rd_op ?_ | refine rd_un ?_ | refine rd_b ?_ | refine rd_bK ?_ | refine rd_tru ?_ | refine rd_tKb ?_ | refine rd_and ?_ | refine rd_or ?_ | refine rd_not ?_ | refine rd_andV ?_ | refine rd_orV ?_ | refine rd_notV ?_ | refine rd_tvKb ?_ | refine rd_ifE ?_ | refine rd_nil ?_ | refine rd_cons ?_ | refine rd_tup ?_ | refine rd_lst ?_ | refine rd_lstM ?_ | refine rd_cb ?_ | refine rd_call ?_ | refine rd_sp0 ?_ | refine rd_sp1 ?_ | refine rd_sp2 ?_ | refine rd_sp3 ?_ | refine rd_int ?_ | refine rd_intb ?_ | refine rd_abs ?_ | refine rd_ii ?_ | refine rd_add ?_ | refine rd_sub ?_ | refine rd_addI ?_ | refine rd_cmp ?_ | refine rd_setI ?_ | refine rd_mt ?_ | refine rd_lc ?_ | refine rd_lcM ?_ | refine rd_yes ?_ | refine rd_wseq ?_ | refine rd_wsT ?_ | refine rd_wsL ?_ | refine rd_wsS ?_ | refine rd_wzip ?_ | refine rd_zipT ?_ | refine rd_rng1 ?_ | refine rd_rng2 ?_ | refine rd_sl ?_ | refine rd_slT ?_ | refine rd_slL ?_ | refine rd_slS ?_ | refine rd_nopart ?_ | refine rd_part ?_ | refine rd_ptK ?_ | refine rd_star ?_ | refine rd_ss ?_ | refine rd_itet ?_ | refine rd_itef ?_ | refine rd_itnt ?_ | refine rd_itnf ?_) | ((with_reducible apply rd_var); (· exact rfl)) | ((with_reducible apply rd_asgK); (· exact rfl)) | ((with_reducible apply rd_parK); (· exact rfl)) | ((with_reducible apply rd_len); (· (first | assumption | exact seqD_ref (by assumption) | exact seqD_up | exact lstD_ref (by assumption) | exact lstD_up | rfl))) | ((with_reducible apply rd_tuple); (· (first | assumption | exact seqD_ref (by assumption) | exact seqD_up | exact lstD_ref (by assumption) | exact lstD_up | rfl))) | ((with_reducible apply rd_list); (· (first | assumption | exact seqD_ref (by assumption) | exact seqD_up | exact lstD_ref (by assumption) | exact lstD_up | rfl))) | ((with_reducible apply rd_stK); (· (first | assumption | exact seqD_ref (by assumption) | exact seqD_up | exact lstD_ref (by assumption) | exact lstD_up | rfl))) | ((with_reducible apply rd_ix); (· (first | assumption | exact seqD_ref (by assumption) | exact seqD_up | exact lstD_ref (by assumption) | exact lstD_up | rfl)); (· (first | exact atI_c0 _ _ | exact atI_c1 _ _ _ | exact atI_c2 _ _ _ _ | assumption | rfl))) | ((with_reducible apply rd_set30); (· (first | assumption | exact gup_same))) | ((with_reducible apply rd_set32); (· (first | assumption | exact gup_same))) | ((with_reducible apply rd_some); (· (first | assumption | exact seqD_ref (by assumption) | exact seqD_up | exact lstD_ref (by assumption) | exact lstD_up | rfl)))))
        refine ⟨up A B, S, rfl, rfl, by omega, by omega, ?_⟩
        (repeat (first | (with_reducible first | refine rd_seq ?_ | refine rd_seqE ?_ | refine rd_next ?_ | refine rd_rtE ?_ | refine rd_nxE ?_ | refine rd_nx ?_ | refine rd_rt ?_ | refine rd_ct ?_ | refine rd_bk ?_ | refine rd_drop ?_ | refine rd_ret ?_ | refine rd_retN ?_ | refine rd_dif ?_ | refine rd_asg ?_ | refine rd_par ?_ | refine rd_for ?_ | refine rd_break ?_ | refine rd_cont ?_ | refine rd_c ?_ | refine rd_op ?_ | refine rd_un ?_ | refine rd_b ?_ | refine rd_bK ?_ | refine rd_tru ?_ | refine rd_tKb ?_ | refine rd_and ?_ | refine rd_or ?_ | refine rd_not ?_ | refine rd_andV ?_ | refine rd_orV ?_ | refine rd_notV ?_ | refine rd_tvKb ?_ | refine rd_ifE ?_ | refine rd_nil ?_ | refine rd_cons ?_ | refine rd_tup ?_ | refine rd_lst ?_ | refine rd_lstM ?_ | refine rd_cb ?_ | refine rd_call ?_ | refine rd_sp0 ?_ | refine rd_sp1 ?_ | refine rd_sp2 ?_ | refine rd_sp3 ?_ | refine rd_int ?_ | refine rd_intb ?_ | refine rd_abs ?_ | refine rd_ii ?_ | refine rd_add ?_ | refine rd_sub ?_ | refine rd_addI ?_ | refine rd_cmp ?_ | refine rd_setI ?_ | refine rd_mt ?_ | refine rd_lc ?_ | refine rd_lcM ?_ | refine rd_yes ?_ | refine rd_wseq ?_ | refine rd_wsT ?_ | refine rd_wsL ?_ | refine rd_wsS ?_ | refine rd_wzip ?_ | refine rd_zipT ?_ | refine rd_rng1 ?_ | refine rd_rng2 ?_ | refine rd_sl ?_ | refine rd_slT ?_ | refine rd_slL ?_ | refine rd_slS ?_ | refine rd_nopart ?_ | refine rd_part ?_ | refine rd_ptK ?_ | refine rd_star ?_ | refine rd_ss ?_ | refine rd_itet ?_ | refine rd_itef ?_ | refine rd_itnt ?_ | refine rd_itnf ?_) | ((with_reducible apply rd_var); (· exact rfl)) | ((with_reducible apply rd_asgK); (· exact rfl)) | ((with_reducible apply rd_parK); (· exact rfl)) | ((with_reducible apply rd_len); (· (first | assumption | exact seqD_ref (by assumption) | exact seqD_up | exact lstD_ref (by assumption) | exact lstD_up | rfl))) | ((with_reducible apply rd_tuple); (· (first | assumption | exact seqD_ref (by assumption) | exact seqD_up | exact lstD_ref (by assumption) | exact lstD_up | rfl))) | ((with_reducible apply rd_list); (· (first | assumption | exact seqD_ref (by assumption) | exact seqD_up | exact lstD_ref (by assumption) | exact lstD_up | rfl))) | ((with_reducible apply rd_stK); (· (first | assumption | exact seqD_ref (by assumption) | exact seqD_up | exact lstD_ref (by assumption) | exact lstD_up | rfl))) | ((with_reducible apply rd_ix); (· (first | assumption | exact seqD_ref (by assumption) | exact seqD_up | exact lstD_ref (by assumption) | exact lstD_up | rfl)); (· (first | exact atI_c0 _ _ | exact atI_c1 _ _ _ | exact atI_c2 _ _ _ _ | assumption | rfl))) | ((with_reducible apply rd_set30); (· (first | assumption | exact gup_same))) | ((with_reducible apply rd_set32); (· (first | assumption | exact gup_same))) | ((with_reducible apply rd_some); (· (first | assumption | exact seqD_ref (by assumption) | exact seqD_up | exact lstD_ref (by assumption) | exact lstD_up | rfl)))))
        refine rd_neB (by rw [below_be, below_be]; exact b2) ?_
        (repeat (first | (with_reducible first | refine rd_seq ?_ | refine rd_seqE ?_ | refine rd_next ?_ | refine rd_rtE ?_ | refine rd_nxE ?_ | refine rd_nx ?_ | refine rd_rt ?_ | refine rd_ct ?_ | refine rd_bk ?_ | refine rd_drop ?_ | refine rd_ret ?_ | refine rd_retN ?_ | refine rd_dif ?_ | refine rd_asg ?_ | refine rd_par ?_ | refine rd_for ?_ | refine rd_break ?_ | refine rd_cont ?_ | refine rd_c ?_ | refine rd_op ?_ | refine rd_un ?_ | refine rd_b ?_ | refine rd_bK ?_ | refine rd_tru ?_ | refine rd_tKb ?_ | refine rd_and ?_ | refine rd_or ?_ | refine rd_not ?_ | refine rd_andV ?_ | refine rd_orV ?_ | refine rd_notV ?_ | refine rd_tvKb ?_ | refine rd_ifE ?_ | refine rd_nil ?_ | refine rd_cons ?_ | refine rd_tup ?_ | refine rd_lst ?_ | refine rd_lstM ?_ | refine rd_cb ?_ | refine rd_call ?_ | refine rd_sp0 ?_ | refine rd_sp1 ?_ | refine rd_sp2 ?_ | refine rd_sp3 ?_ | refine rd_int ?_ | refine rd_intb ?_ | refine rd_abs ?_ | refine rd_ii ?_ | refine rd_add ?_ | refine rd_sub ?_ | refine rd_addI ?_ | refine rd_cmp ?_ | refine rd_setI ?_ | refine rd_mt ?_ | refine rd_lc ?_ | refine rd_lcM ?_ | refine rd_yes ?_ | refine rd_wseq ?_ | refine rd_wsT ?_ | refine rd_wsL ?_ | refine rd_wsS ?_ | refine rd_wzip ?_ | refine rd_zipT ?_ | refine rd_rng1 ?_ | refine rd_rng2 ?_ | refine rd_sl ?_ | refine rd_slT ?_ | refine rd_slL ?_ | refine rd_slS ?_ | refine rd_nopart ?_ | refine rd_part ?_ | refine rd_ptK ?_ | refine rd_star ?_ | refine rd_ss ?_ | refine rd_itet ?_ | refine rd_itef ?_ | refine rd_itnt ?_ | refine rd_itnf ?_) | ((with_reducible apply rd_var); (· exact rfl)) | ((with_reducible apply rd_asgK); (· exact rfl)) | ((with_reducible apply rd_parK); (· exact rfl)) | ((with_reducible apply rd_len); (· (first | assumption | exact seqD_ref (by assumption) | exact seqD_up | exact lstD_ref (by assumption) | exact lstD_up | rfl))) | ((with_reducible apply rd_tuple); (· (first | assumption | exact seqD_ref (by assumption) | exact seqD_up | exact lstD_ref (by assumption) | exact lstD_up | rfl))) | ((with_reducible apply rd_list); (· (first | assumption | exact seqD_ref (by assumption) | exact seqD_up | exact lstD_ref (by assumption) | exact lstD_up | rfl))) | ((with_reducible apply rd_stK); (· (first | assumption | exact seqD_ref (by assumption) | exact seqD_up | exact lstD_ref (by assumption) | exact lstD_up | rfl))) | ((with_reducible apply rd_ix); (· (first | assumption | exact seqD_ref (by assumption) | exact seqD_up | exact lstD_ref (by assumption) | exact lstD_up | rfl)); (· (first | exact atI_c0 _ _ | exact atI_c1 _ _ _ | exact atI_c2 _ _ _ _ | assumption | rfl))) | ((with_reducible apply rd_set30); (· (first | assumption | exact gup_same))) | ((with_reducible apply rd_set32); (· (first | assumption | exact gup_same))) | ((with_reducible apply rd_some); (· (first | assumption | exact seqD_ref (by assumption) | exact seqD_up | exact lstD_ref (by assumption) | exact lstD_up | rfl)))))
        exact hf _ _ ⟨rfl, _, rfl⟩
      · rw [c2, Bool.false_and] at b2
        (repeat (first | (with_reducible first | refine rd_seq ?_ | refine rd_seqE ?_ | refine rd_next ?_ | refine rd_rtE ?_ | refine rd_nxE ?_ | refine rd_nx ?_ | refine rd_rt ?_ | refine rd_ct ?_ | refine rd_bk ?_ | refine rd_drop ?_ | refine rd_ret ?_ | refine rd_retN ?_ | refine rd_dif ?_ | refine rd_asg ?_ | refine rd_par ?_ | refine rd_for ?_ | refine rd_break ?_ | refine rd_cont ?_ | refine rd_c ?_ | refine rd_op ?_ | refine rd_un ?_ | refine rd_b ?_ | refine rd_bK ?_ | refine rd_tru ?_ | refine rd_tKb ?_ | refine rd_and ?_ | refine rd_or ?_ | refine rd_not ?_ | refine rd_andV ?_ | refine rd_orV ?_ | refine rd_notV ?_ | refine rd_tvKb ?_ | refine rd_ifE ?_ | refine rd_nil ?_ | refine rd_cons ?_ | refine rd_tup ?_ | refine rd_lst ?_ | refine rd_lstM ?_ | refine rd_cb ?_ | refine rd_call ?_ | refine rd_sp0 ?_ | refine rd_sp1 ?_ | refine rd_sp2 ?_ | refine rd_sp3 ?_ | refine rd_int ?_ | refine rd_intb ?_ | refine rd_abs ?_ | refine rd_ii ?_ | refine rd_add ?_ | refine rd_sub ?_ | refine rd_addI ?_ | refine rd_cmp ?_ | refine rd_setI ?_ | refine rd_mt ?_ | refine rd_lc ?_ | refine rd_lcM ?_ | refine rd_yes ?_ | refine rd_wseq ?_ | refine rd_wsT ?_ | refine rd_wsL ?_ | refine rd_wsS ?_ | refine rd_wzip ?_ | refine rd_zipT ?_ | refine rd_rng1 ?_ | refine rd_rng2 ?_ | refine rd_sl ?_ | refine rd_slT ?_ | refine rd_slL ?_ | refine rd_slS ?_ | refine rd_nopart ?_ | refine rd_part ?_ | refine rd_ptK ?_ | refine rd_star ?_ | refine rd_ss ?_ | refine rd_itet ?_ | refine rd_itef ?_ | refine rd_itnt ?_ | refine rd_itnf ?_) | ((with_reducible apply rd_var); (· exact rfl)) | ((with_reducible apply rd_asgK); (· exact rfl)) | ((with_reducible apply rd_parK); (· exact rfl)) | ((with_reducible apply rd_len); (· (first | assumption | exact seqD_ref (by assumption) | exact seqD_up | exact lstD_ref (by assumption) | exact lstD_up | rfl))) | ((with_reducible apply rd_tuple); (· (first | assumption | exact seqD_ref (by assumption) | exact seqD_up | exact lstD_ref (by assumption) | exact lstD_up | rfl))) | ((with_reducible apply rd_list); (· (first | assumption | exact seqD_ref (by assumption) | exact seqD_up | exact lstD_ref (by assumption) | exact lstD_up | rfl))) | ((with_reducible apply rd_stK); (· (first | assumption | exact seqD_ref (by assumption) | exact seqD_up | exact lstD_ref (by assumption) | exact lstD_up | rfl))) | ((with_reducible apply rd_ix); (· (first | assumption | exact seqD_ref (by assumption) | exact seqD_up | exact lstD_ref (by assumption) | exact lstD_up | rfl)); (· (first | exact atI_c0 _ _ | exact atI_c1 _ _ _ | exact atI_c2 _ _ _ _ | assumption | rfl))) | ((with_reducible apply rd_set30); (· (first | assumption | exact gup_same))) | ((with_reducible apply rd_set32); (· (first | assumption | exact gup_same))) | ((with_reducible apply rd_some); (· (first | assumption | exact seqD_ref (by assumption) | exact seqD_up | exact lstD_ref (by assumption) | exact lstD_up | rfl)))))
        refine ⟨up A B, S, rfl, rfl, by omega, by omega, ?_⟩
        (repeat (first | (with_reducible first | refine rd_seq ?_ | refine rd_seqE ?_ | refine rd_next ?_ | refine rd_rtE ?_ | refine rd_nxE ?_ | refine rd_nx ?_ | refine rd_rt ?_ | refine rd_ct ?_ | refine rd_bk ?_ | refine rd_drop ?_ | refine rd_ret ?_ | refine rd_retN ?_ | refine rd_dif ?_ | refine rd_asg ?_ | refine rd_par ?_ | refine rd_for ?_ | refine rd_break ?_ | refine rd_cont ?_ | refine rd_c ?_ | refine rd_op ?_ | refine rd_un ?_ | refine rd_b ?_ | refine rd_bK ?_ | refine rd_tru ?_ | refine rd_tKb ?_ | refine rd_and ?_ | refine rd_or ?_ | refine rd_not ?_ | refine rd_andV ?_ | refine rd_orV ?_ | refine rd_notV ?_ | refine rd_tvKb ?_ | refine rd_ifE ?_ | refine rd_nil ?_ | refine rd_cons ?_ | refine rd_tup ?_ | refine rd_lst ?_ | refine rd_lstM ?_ | refine rd_cb ?_ | refine rd_call ?_ | refine rd_sp0 ?_ | refine rd_sp1 ?_ | refine rd_sp2 ?_ | refine rd_sp3 ?_ | refine rd_int ?_ | refine rd_intb ?_ | refine rd_abs ?_ | refine rd_ii ?_ | refine rd_add ?_ | refine rd_sub ?_ | refine rd_addI ?_ | refine rd_cmp ?_ | refine rd_setI ?_ | refine rd_mt ?_ | refine rd_lc ?_ | refine rd_lcM ?_ | refine rd_yes ?_ | refine rd_wseq ?_ | refine rd_wsT ?_ | refine rd_wsL ?_ | refine rd_wsS ?_ | refine rd_wzip ?_ | refine rd_zipT ?_ | refine rd_rng1 ?_ | refine rd_rng2 ?_ | refine rd_sl ?_ | refine rd_slT ?_ | refine rd_slL ?_ | refine rd_slS ?_ | refine rd_nopart ?_ | refine rd_part ?_ | refine rd_ptK ?_ | refine rd_star ?_ | refine rd_ss ?_ | refine rd_itet ?_ | refine rd_itef ?_ | refine rd_itnt ?_ | refine rd_itnf ?_) | ((with_reducible apply rd_var); (· exact rfl)) | ((with_reducible apply rd_asgK); (· exact rfl)) | ((with_reducible apply rd_parK); (· exact rfl)) | ((with_reducible apply rd_len); (· (first | assumption | exact seqD_ref (by assumption) | exact seqD_up | exact lstD_ref (by assumption) | exact lstD_up | rfl))) | ((with_reducible apply rd_tuple); (· (first | assumption | exact seqD_ref (by assumption) | exact seqD_up | exact lstD_ref (by assumption) | exact lstD_up | rfl))) | ((with_reducible apply rd_list); (· (first | assumption | exact seqD_ref (by assumption) | exact seqD_up | exact lstD_ref (by assumption) | exact lstD_up | rfl))) | ((with_reducible apply rd_stK); (· (first | assumption | exact seqD_ref (by assumption) | exact seqD_up | exact lstD_ref (by assumption) | exact lstD_up | rfl))) | ((with_reducible apply rd_ix); (· (first | assumption | exact seqD_ref (by assumption) | exact seqD_up | exact lstD_ref (by assumption) | exact lstD_up | rfl)); (· (first | exact atI_c0 _ _ | exact atI_c1 _ _ _ | exact atI_c2 _ _ _ _ | assumption | rfl))) | ((with_reducible apply rd_set30); (· (first | assumption | exact gup_same))) | ((with_reducible apply rd_set32); (· (first | assumption | exact gup_same))) | ((with_reducible apply rd_some); (· (first | assumption | exact seqD_ref (by assumption) | exact seqD_up | exact lstD_ref (by assumption) | exact lstD_up | rfl)))))
        refine rd_neB (by rw [below_be, c2]; exact b2) ?_
        (repeat (first | (with_reducible first | refine rd_seq ?_ | refine rd_seqE ?_ | refine rd_next ?_ | refine rd_rtE ?_ | refine rd_nxE ?_ | refine rd_nx ?_ | refine rd_rt ?_ | refine rd_ct ?_ | refine rd_bk ?_ | refine rd_drop ?_ | refine rd_ret ?_ | refine rd_retN ?_ | refine rd_dif ?_ | refine rd_asg ?_ | refine rd_par ?_ | refine rd_for ?_ | refine rd_break ?_ | refine rd_cont ?_ | refine rd_c ?_ | refine rd_op ?_ | refine rd_un ?_ | refine rd_b ?_ | refine rd_bK ?_ | refine rd_tru ?_ | refine rd_tKb ?_ | refine rd_and ?_ | refine rd_or ?_ | refine rd_not ?_ | refine rd_andV ?_ | refine rd_orV ?_ | refine rd_notV ?_ | refine rd_tvKb ?_ | refine rd_ifE ?_ | refine rd_nil ?_ | refine rd_cons ?_ | refine rd_tup ?_ | refine rd_lst ?_ | refine rd_lstM ?_ | refine rd_cb ?_ | refine rd_call ?_ | refine rd_sp0 ?_ | refine rd_sp1 ?_ | refine rd_sp2 ?_ | refine rd_sp3 ?_ | refine rd_int ?_ | refine rd_intb ?_ | refine rd_abs ?_ | refine rd_ii ?_ | refine rd_add ?_ | refine rd_sub ?_ | refine rd_addI ?_ | refine rd_cmp ?_ | refine rd_setI ?_ | refine rd_mt ?_ | refine rd_lc ?_ | refine rd_lcM ?_ | refine rd_yes ?_ | refine rd_wseq ?_ | refine rd_wsT ?_ | refine rd_wsL ?_ | refine rd_wsS ?_ | refine rd_wzip ?_ | refine rd_zipT ?_ | refine rd_rng1 ?_ | refine rd_rng2 ?_ | refine rd_sl ?_ | refine rd_slT ?_ | refine rd_slL ?_ | refine rd_slS ?_ | refine rd_nopart ?_ | refine rd_part ?_ | refine rd_ptK ?_ | refine rd_star ?_ | refine rd_ss ?_ | refine rd_itet ?_ | refine rd_itef ?_ | refine rd_itnt ?_ | refine rd_itnf ?_) | ((with_reducible apply rd_var); (· exact rfl)) | ((with_reducible apply rd_asgK); (· exact rfl)) | ((with_reducible apply rd_parK); (· exact rfl)) | ((with_reducible apply rd_len); (· (first | assumption | exact seqD_ref (by assumption) | exact seqD_up | exact lstD_ref (by assumption) | exact lstD_up | rfl))) | ((with_reducible apply rd_tuple); (· (first | assumption | exact seqD_ref (by assumption) | exact seqD_up | exact lstD_ref (by assumption) | exact lstD_up | rfl))) | ((with_reducible apply rd_list); (· (first | assumption | exact seqD_ref (by assumption) | exact seqD_up | exact lstD_ref (by assumption) | exact lstD_up | rfl))) | ((with_reducible apply rd_stK); (· (first | assumption | exact seqD_ref (by assumption) | exact seqD_up | exact lstD_ref (by assumption) | exact lstD_up | rfl))) | ((with_reducible apply rd_ix); (· (first | assumption | exact seqD_ref (by assumption) | exact seqD_up | exact lstD_ref (by assumption) | exact lstD_up | rfl)); (· (first | exact atI_c0 _ _ | exact atI_c1 _ _ _ | exact atI_c2 _ _ _ _ | assumption | rfl))) | ((with_reducible apply rd_set30); (· (first | assumption | exact gup_same))) | ((with_reducible apply rd_set32); (· (first | assumption | exact gup_same))) | ((with_reducible apply rd_some); (· (first | assumption | exact seqD_ref (by assumption) | exact seqD_up | exact lstD_ref (by assumption) | exact lstD_up | rfl)))))
        exact hf _ _ ⟨rfl, _, rfl⟩
  · intro δ g' hI
    obtain ⟨e1, v, e2⟩ := hI
    subst e1 e2
    (repeat (first | (with_reducible first | refine rd_seq ?_ | refine rd_seqE ?_ | refine rd_next ?_ | refine rd_rtE ?_ | refine rd_nxE ?_ | refine rd_nx ?_ | refine rd_rt ?_ | refine rd_ct ?_ | refine rd_bk ?_ | refine rd_drop ?_ | refine rd_ret ?_ | refine rd_retN ?_ | refine rd_dif ?_ | refine rd_asg ?_ | refine rd_par ?_ | refine rd_for ?_ | refine rd_break ?_ | refine rd_cont ?_ | refine rd_c ?_ | refine rd_op ?_ | refine rd_un ?_ | refine rd_b ?_ | refine rd_bK ?_ | refine rd_tru ?_ | refine rd_tKb ?_ | refine rd_and ?_ | refine rd_or ?_ | refine rd_not ?_ | refine rd_andV ?_ | refine rd_orV ?_ | refine rd_notV ?_ | refine rd_tvKb ?_ | refine rd_ifE ?_ | refine rd_nil ?_ | refine rd_cons ?_ | refine rd_tup ?_ | refine rd_lst ?_ | refine rd_lstM ?_ | refine rd_cb ?_ | refine rd_call ?_ | refine rd_sp0 ?_ | refine rd_sp1 ?_ | refine rd_sp2 ?_ | refine rd_sp3 ?_ | refine rd_int ?_ | refine rd_intb ?_ | refine rd_abs ?_ | refine rd_ii ?_ | refine rd_add ?_ | refine rd_sub ?_ | refine rd_addI ?_ | refine rd_cmp ?_ | refine rd_setI ?_ | refine rd_mt ?_ | refine rd_lc ?_ | refine rd_lcM ?_ | refine rd_yes ?_ | refine rd_wseq ?_ | refine rd_wsT ?_ | refine rd_wsL ?_ | refine rd_wsS ?_ | refine rd_wzip ?_ | refine rd_zipT ?_ | refine rd_rng1 ?_ | refine rd_rng2 ?_ | refine rd_sl ?_ | refine rd_slT ?_ | refine rd_slL ?_ | refine rd_slS ?_ | refine rd_nopart ?_ | refine rd_part ?_ | refine rd_ptK ?_ | refine rd_star ?_ | refine rd_ss ?_ | refine rd_itet ?_ | refine rd_itef ?_ | refine rd_itnt ?_ | refine rd_itnf ?_) | ((with_reducible apply rd_var); (· exact rfl)) | ((with_reducible apply rd_asgK); (· exact rfl)) | ((with_reducible apply rd_parK); (· exact rfl)) | ((with_reducible apply rd_len); (· (first | assumption | exact seqD_ref (by assumption) | exact seqD_up | exact lstD_ref (by assumption) | exact lstD_up | rfl))) | ((with_reducible apply rd_tuple); (· (first | assumption | exact seqD_ref (by assumption) | exact seqD_up | exact lstD_ref (by assumption) | exact lstD_up | rfl))) | ((with_reducible apply rd_list); (· (first | assumption | exact seqD_ref (by assumption) | exact seqD_up | exact lstD_ref (by assumption) | exact lstD_up | rfl))) | ((with_reducible apply rd_stK); (· (first | assumption | exact seqD_ref (by assumption) | exact seqD_up | exact lstD_ref (by assumption) | exact lstD_up | rfl))) | ((with_reducible apply rd_ix); (· (first | assumption | exact seqD_ref (by assumption) | exact seqD_up | exact lstD_ref (by assumption) | exact lstD_up | rfl)); (· (first | exact atI_c0 _ _ | exact atI_c1 _ _ _ | exact atI_c2 _ _ _ _ | assumption | rfl))) | ((with_reducible apply rd_set30); (· (first | assumption | exact gup_same))) | ((with_reducible apply rd_set32); (· (first | assumption | exact gup_same))) | ((with_reducible apply rd_some); (· (first | assumption | exact seqD_ref (by assumption) | exact seqD_up | exact lstD_ref (by assumption) | exact lstD_up | rfl)))))
    exact dret (k L4 hp4)

abbrev s_law : Stmt := topS 30
abbrev N_law : List Str := ["_law_script", "_law_spot", "_law_told", "_law_pot_here"]
theorem sc_law : FnScope N_law ["_law_script"] (defScope s_law) := ⟨rfl, rfl, rfl, by decide +kernel, rfl, by decide +kernel, by decide +kernel⟩
abbrev sp_law : SpD :=
  sp1 fun a g P => ∃ ns : List Int, a = .scr ns ∧ P (.bl true) g
theorem ok_law {P : Program} {w : World} {K : Fg} {mg : Str → Option Value} {base : Heap} {t_MAX_PLACE t_MAX_STEP t_MOST_LAST t_MOST_MOST : Tok} {f f_upper_of f_lower_of f_qright f_qpot : Addr} {fd d_upper_of d_lower_of d_qright d_qpot : FuncData} (D : Dfn K mg "law" s_law ["_law_script"] f fd) (T : Txt K mg t_MAX_PLACE t_MAX_STEP t_MOST_LAST t_MOST_MOST) (D_upper_of : Dfn K mg "upper_of" s_upper_of ["one", "other"] f_upper_of d_upper_of) (G_upper_of : FnOk P w K mg base CX0 6 f_upper_of d_upper_of ["one", "other"] (upSp K sp_upper_of)) (D_lower_of : Dfn K mg "lower_of" s_lower_of ["one", "other"] f_lower_of d_lower_of) (G_lower_of : FnOk P w K mg base CX0 6 f_lower_of d_lower_of ["one", "other"] (upSp K sp_lower_of)) (D_qright : Dfn K mg "_law_right" s_qright ["_law_pot_here"] f_qright d_qright) (G_qright : FnOk P w K mg base CX0 7 f_qright d_qright ["_law_pot_here"] (upSp K sp_qright)) (D_qpot : Dfn K mg "_law_pot" s_qpot ["_law_script", "_law_at"] f_qpot d_qpot) (G_qpot : FnOk P w K mg base CX0 1 f_qpot d_qpot ["_law_script", "_law_at"] (upSp K sp_qpot)) :
    FnOk P w K mg base CX0 8 f fd ["_law_script"] (upSp K sp_law) := by
  refine fun_okD D.fn sc_law (fun ds g Q h => len1 h) (fun cdv A outer s H E hr => ⟨_, (pds_cons (pds_for (tg := .nm 1) PassesOwn.never rfl (pid_range1 T.b_range (pda_cons (pd_callB (call_max2 rfl) ref_II T.b_max (by decide +kernel) (pda_cons pd_int (pda_cons (pd_callB (call_min2 rfl) ref_II T.b_min (by decide +kernel) (pda_cons pd_int (pda_cons (pd_callB call_len_seq ref_len T.b_len (by decide +kernel) (pda_cons (pdv 0) pda_nil)) pda_nil))) pda_nil))) pda_nil)) (pgd_nm (i := 1) sc_law.nd) (pds_cons (pds_set (i := 3) sc_law.nd (pd_call G_qpot (hr.mono (by decide)) D_qpot.at_ D_qpot.fn.kp D_qpot.bd pass0 (pda_cons (pdv 0) (pda_cons (pdv 1) pda_nil)))) (pds_one (pds_if (pwd_pt (pwd_or (pt_notD (pt_truD (pd_call G_qright (hr.mono (by decide)) D_qright.at_ D_qright.fn.kp D_qright.bd pass0 (pda_cons (pdv 3) pda_nil)))) (pwd_or1 (pt_notD (pt_truD (pd_call G_qright (hr.mono (by decide)) D_qright.at_ D_qright.fn.kp D_qright.bd pass0 (pda_cons (pdv 3) pda_nil))))))) (pds_one (pds_ret pd_bl)) pds_nil)))) (pds_cons (pds_set (i := 2) sc_law.nd (pd_lst (pda_cons (pd_call G_lower_of (hr.mono (by decide)) D_lower_of.at_ D_lower_of.fn.kp D_lower_of.bd pass0 (pda_cons (pd_tup (pda_cons pd_int (pda_cons pd_int (pda_cons pd_int pda_nil)))) (pda_cons (pd_tup (pda_cons pd_int (pda_cons pd_int (pda_cons pd_int pda_nil)))) pda_nil))) (pda_cons (pd_call G_upper_of (hr.mono (by decide)) D_upper_of.at_ D_upper_of.fn.kp D_upper_of.bd pass0 (pda_cons (pd_tup (pda_cons pd_int (pda_cons pd_int (pda_cons pd_int pda_nil)))) (pda_cons (pd_tup (pda_cons pd_int (pda_cons pd_int (pda_cons pd_int pda_nil)))) pda_nil))) (pda_cons (pd_call G_lower_of (hr.mono (by decide)) D_lower_of.at_ D_lower_of.fn.kp D_lower_of.bd pass0 (pda_cons (pd_tup (pda_cons pd_int (pda_cons pd_int pda_nil))) (pda_cons (pd_tup (pda_cons pd_int (pda_cons pd_int (pda_cons pd_int pda_nil)))) pda_nil))) (pda_cons (pd_call G_upper_of (hr.mono (by decide)) D_upper_of.at_ D_upper_of.fn.kp D_upper_of.bd pass0 (pda_cons (pd_tup (pda_cons pd_int (pda_cons pd_int pda_nil))) (pda_cons (pd_tup (pda_cons pd_int (pda_cons pd_int (pda_cons pd_int pda_nil)))) pda_nil))) pda_nil)))))) (pds_one (pds_ret (pd_cmp (op_eqD hr.units) (RefCmp.op ref_eq) (pdv 2) (pd_lst (pda_cons (pd_tup (pda_cons pd_int (pda_cons pd_int (pda_cons pd_int pda_nil)))) (pda_cons (pd_tup (pda_cons pd_int (pda_cons pd_int (pda_cons pd_int pda_nil)))) (pda_cons (pd_tup (pda_cons pd_int (pda_cons pd_int (pda_cons pd_int pda_nil)))) (pda_cons (pd_tup (pda_cons pd_int (pda_cons pd_int pda_nil))) pda_nil))))) (nomark _)))))), ?_⟩)
  intro ds g Q h
  obtain ⟨a0, rfl, h⟩ := sp1_of h
  rw [show startD N_law [a0] = [some a0, none, none, none] from rfl]
  obtain ⟨ns, e1, k⟩ := h
  subst e1
  (repeat (first | (with_reducible first | refine rd_seq ?_ | refine rd_seqE ?_ | refine rd_next ?_ | refine rd_rtE ?_ | refine rd_nxE ?_ | refine rd_nx ?_ | refine rd_rt ?_ | refine rd_ct ?_ | refine rd_bk ?_ | refine rd_drop ?_ | refine rd_ret ?_ | refine rd_retN ?_ | refine rd_dif ?_ | refine rd_asg ?_ | refine rd_par ?_ | refine rd_for ?_ | refine rd_break ?_ | refine rd_cont ?_ | refine rd_c ?_ | refine rd_op ?_ | refine rd_un ?_ | refine rd_b ?_ | refine rd_bK ?_ | refine rd_tru ?_ | refine rd_tKb ?_ | refine rd_and ?_ | refine rd_or ?_ | refine rd_not ?_ | refine rd_andV ?_ | refine rd_orV ?_ | refine rd_notV ?_ | refine rd_tvKb ?_ | refine rd_ifE ?_ | refine rd_nil ?_ | refine rd_cons ?_ | refine rd_tup ?_ | refine rd_lst ?_ | refine rd_lstM ?_ | refine rd_cb ?_ | refine rd_call ?_ | refine rd_sp0 ?_ | refine rd_sp1 ?_ | refine rd_sp2 ?_ | refine rd_sp3 ?_ | refine rd_int ?_ | refine rd_intb ?_ | refine rd_abs ?_ | refine rd_ii ?_ | refine rd_add ?_ | refine rd_sub ?_ | refine rd_addI ?_ | refine rd_cmp ?_ | refine rd_setI ?_ | refine rd_mt ?_ | refine rd_lc ?_ | refine rd_lcM ?_ | refine rd_yes ?_ | refine rd_wseq ?_ | refine rd_wsT ?_ | refine rd_wsL ?_ | refine rd_wsS ?_ | refine rd_wzip ?_ | refine rd_zipT ?_ | refine rd_rng1 ?_ | refine rd_rng2 ?_ | refine rd_sl ?_ | refine rd_slT ?_ | refine rd_slL ?_ | refine rd_slS ?_ | refine rd_nopart ?_ | refine rd_part ?_ | refine rd_ptK ?_ | refine rd_star ?_ | refine rd_ss ?_ | refine rd_itet ?_ | refine rd_itef ?_ | refine rd_itnt ?_ | refine rd_itnf ?_) | ((with_reducible apply rd_var); (· exact rfl)) | ((with_reducible apply rd_asgK); (· exact rfl)) | ((with_reducible apply rd_parK); (· exact rfl)) | ((with_reducible apply rd_len); (· (first | assumption | exact seqD_ref (by assumption) | exact seqD_up | exact lstD_ref (by assumption) | exact lstD_up | rfl))) | ((with_reducible apply rd_tuple); (· (first | assumption | exact seqD_ref (by assumption) | exact seqD_up | exact lstD_ref (by assumption) | exact lstD_up | rfl))) | ((with_reducible apply rd_list); (· (first | assumption | exact seqD_ref (by assumption) | exact seqD_up | exact lstD_ref (by assumption) | exact lstD_up | rfl))) | ((with_reducible apply rd_stK); (· (first | assumption | exact seqD_ref (by assumption) | exact seqD_up | exact lstD_ref (by assumption) | exact lstD_up | rfl))) | ((with_reducible apply rd_ix); (· (first | assumption | exact seqD_ref (by assumption) | exact seqD_up | exact lstD_ref (by assumption) | exact lstD_up | rfl)); (· (first | exact atI_c0 _ _ | exact atI_c1 _ _ _ | exact atI_c2 _ _ _ _ | assumption | rfl))) | ((with_reducible apply rd_set30); (· (first | assumption | exact gup_same))) | ((with_reducible apply rd_set32); (· (first | assumption | exact gup_same))) | ((with_reducible apply rd_some); (· (first | assumption | exact seqD_ref (by assumption) | exact seqD_up | exact lstD_ref (by assumption) | exact lstD_up | rfl)))))
  refine rd_rng1K ⟨by split <;> split <;> omega, by split <;> split <;> omega⟩ ?_
  refine rd_loopI (I := fun _ δ g' => (∀ a, g a ≠ none → g' a = g a) ∧ ∃ v v' w, δ = [some (.scr ns), v, v', w]) ⟨fun _ _ => rfl, _, _, _, rfl⟩ ?_ ?_
  · intro d hd j δ g' f hf hI
    obtain ⟨hs, v, v', w, e⟩ := hI
    subst e
    obtain ⟨i, hi, e⟩ := List.mem_map.mp hd
    rw [List.mem_range] at hi
    subst e
    refine ⟨_, rfl, ?_⟩
    (repeat (first | (with_reducible first | refine rd_seq ?_ | refine rd_seqE ?_ | refine rd_next ?_ | refine rd_rtE ?_ | refine rd_nxE ?_ | refine rd_nx ?_ | refine rd_rt ?_ | refine rd_ct ?_ | refine rd_bk ?_ | refine rd_drop ?_ | refine rd_ret ?_ | refine rd_retN ?_ | refine rd_dif ?_ | refine rd_asg ?_ | refine rd_par ?_ | refine rd_for ?_ | refine rd_break ?_ | refine rd_cont ?_ | refine rd_c ?_ | refine rd_op ?_ | refine rd_un ?_ | refine rd_b ?_ | refine rd_bK ?_ | refine rd_tru ?_ | refine rd_tKb ?_ | refine rd_and ?_ | refine rd_or ?_ | refine rd_not ?_ | refine rd_andV ?_ | refine rd_orV ?_ | refine rd_notV ?_ | refine rd_tvKb ?_ | refine rd_ifE ?_ | refine rd_nil ?_ | refine rd_cons ?_ | refine rd_tup ?_ | refine rd_lst ?_ | refine rd_lstM ?_ | refine rd_cb ?_ | refine rd_call ?_ | refine rd_sp0 ?_ | refine rd_sp1 ?_ | refine rd_sp2 ?_ | refine rd_sp3 ?_ | refine rd_int ?_ | refine rd_intb ?_ | refine rd_abs ?_ | refine rd_ii ?_ | refine rd_add ?_ | refine rd_sub ?_ | refine rd_addI ?_ | refine rd_cmp ?_ | refine rd_setI ?_ | refine rd_mt ?_ | refine rd_lc ?_ | refine rd_lcM ?_ | refine rd_yes ?_ | refine rd_wseq ?_ | refine rd_wsT ?_ | refine rd_wsL ?_ | refine rd_wsS ?_ | refine rd_wzip ?_ | refine rd_zipT ?_ | refine rd_rng1 ?_ | refine rd_rng2 ?_ | refine rd_sl ?_ | refine rd_slT ?_ | refine rd_slL ?_ | refine rd_slS ?_ | refine rd_nopart ?_ | refine rd_part ?_ | refine rd_ptK ?_ | refine rd_star ?_ | refine rd_ss ?_ | refine rd_itet ?_ | refine rd_itef ?_ | refine rd_itnt ?_ | refine rd_itnf ?_) | ((with_reducible apply rd_var); (· exact rfl)) | ((with_reducible apply rd_asgK); (· exact rfl)) | ((with_reducible apply rd_parK); (· exact rfl)) | ((with_reducible apply rd_len); (· (first | assumption | exact seqD_ref (by assumption) | exact seqD_up | exact lstD_ref (by assumption) | exact lstD_up | rfl))) | ((with_reducible apply rd_tuple); (· (first | assumption | exact seqD_ref (by assumption) | exact seqD_up | exact lstD_ref (by assumption) | exact lstD_up | rfl))) | ((with_reducible apply rd_list); (· (first | assumption | exact seqD_ref (by assumption) | exact seqD_up | exact lstD_ref (by assumption) | exact lstD_up | rfl))) | ((with_reducible apply rd_stK); (· (first | assumption | exact seqD_ref (by assumption) | exact seqD_up | exact lstD_ref (by assumption) | exact lstD_up | rfl))) | ((with_reducible apply rd_ix); (· (first | assumption | exact seqD_ref (by assumption) | exact seqD_up | exact lstD_ref (by assumption) | exact lstD_up | rfl)); (· (first | exact atI_c0 _ _ | exact atI_c1 _ _ _ | exact atI_c2 _ _ _ _ | assumption | rfl))) | ((with_reducible apply rd_set30); (· (first | assumption | exact gup_same))) | ((with_reducible apply rd_set32); (· (first | assumption | exact gup_same))) | ((with_reducible apply rd_some); (· (first | assumption | exact seqD_ref (by assumption) | exact seqD_up | exact lstD_ref (by assumption) | exact lstD_up | rfl)))))
    refine ⟨ns, i, rfl, by rw [Int.zero_add], by revert hi; split <;> split <;> omega, fun p L hp hpot => ?_⟩
    (repeat (first | (with_reducible first | refine rd_seq ?_ | refine rd_seqE ?_ | refine rd_next ?_ | refine rd_rtE ?_ | refine rd_nxE ?_ | refine rd_nx ?_ | refine rd_rt ?_ | refine rd_ct ?_ | refine rd_bk ?_ | refine rd_drop ?_ | refine rd_ret ?_ | refine rd_retN ?_ | refine rd_dif ?_ | refine rd_asg ?_ | refine rd_par ?_ | refine rd_for ?_ | refine rd_break ?_ | refine rd_cont ?_ | refine rd_c ?_ | refine rd_op ?_ | refine rd_un ?_ | refine rd_b ?_ | refine rd_bK ?_ | refine rd_tru ?_ | refine rd_tKb ?_ | refine rd_and ?_ | refine rd_or ?_ | refine rd_not ?_ | refine rd_andV ?_ | refine rd_orV ?_ | refine rd_notV ?_ | refine rd_tvKb ?_ | refine rd_ifE ?_ | refine rd_nil ?_ | refine rd_cons ?_ | refine rd_tup ?_ | refine rd_lst ?_ | refine rd_lstM ?_ | refine rd_cb ?_ | refine rd_call ?_ | refine rd_sp0 ?_ | refine rd_sp1 ?_ | refine rd_sp2 ?_ | refine rd_sp3 ?_ | refine rd_int ?_ | refine rd_intb ?_ | refine rd_abs ?_ | refine rd_ii ?_ | refine rd_add ?_ | refine rd_sub ?_ | refine rd_addI ?_ | refine rd_cmp ?_ | refine rd_setI ?_ | refine rd_mt ?_ | refine rd_lc ?_ | refine rd_lcM ?_ | refine rd_yes ?_ | refine rd_wseq ?_ | refine rd_wsT ?_ | refine rd_wsL ?_ | refine rd_wsS ?_ | refine rd_wzip ?_ | refine rd_zipT ?_ | refine rd_rng1 ?_ | refine rd_rng2 ?_ | refine rd_sl ?_ | refine rd_slT ?_ | refine rd_slL ?_ | refine rd_slS ?_ | refine rd_nopart ?_ | refine rd_part ?_ | refine rd_ptK ?_ | refine rd_star ?_ | refine rd_ss ?_ | refine rd_itet ?_ | refine rd_itef ?_ | refine rd_itnt ?_ | refine rd_itnf ?_) | ((with_reducible apply rd_var); (· exact rfl)) | ((with_reducible apply rd_asgK); (· exact rfl)) | ((with_reducible apply rd_parK); (· exact rfl)) | ((with_reducible apply rd_len); (· (first | assumption | exact seqD_ref (by assumption) | exact seqD_up | exact lstD_ref (by assumption) | exact lstD_up | rfl))) | ((with_reducible apply rd_tuple); (· (first | assumption | exact seqD_ref (by assumption) | exact seqD_up | exact lstD_ref (by assumption) | exact lstD_up | rfl))) | ((with_reducible apply rd_list); (· (first | assumption | exact seqD_ref (by assumption) | exact seqD_up | exact lstD_ref (by assumption) | exact lstD_up | rfl))) | ((with_reducible apply rd_stK); (· (first | assumption | exact seqD_ref (by assumption) | exact seqD_up | exact lstD_ref (by assumption) | exact lstD_up | rfl))) | ((with_reducible apply rd_ix); (· (first | assumption | exact seqD_ref (by assumption) | exact seqD_up | exact lstD_ref (by assumption) | exact lstD_up | rfl)); (· (first | exact atI_c0 _ _ | exact atI_c1 _ _ _ | exact atI_c2 _ _ _ _ | assumption | rfl))) | ((with_reducible apply rd_set30); (· (first | assumption | exact gup_same))) | ((with_reducible apply rd_set32); (· (first | assumption | exact gup_same))) | ((with_reducible apply rd_some); (· (first | assumption | exact seqD_ref (by assumption) | exact seqD_up | exact lstD_ref (by assumption) | exact lstD_up | rfl)))))
    refine ⟨p, 0, L, rfl, gup_same, hpot, by decide, fun L1 hp1 => ?_⟩
    rw [gup_gup]
    (repeat (first | (with_reducible first | refine rd_seq ?_ | refine rd_seqE ?_ | refine rd_next ?_ | refine rd_rtE ?_ | refine rd_nxE ?_ | refine rd_nx ?_ | refine rd_rt ?_ | refine rd_ct ?_ | refine rd_bk ?_ | refine rd_drop ?_ | refine rd_ret ?_ | refine rd_retN ?_ | refine rd_dif ?_ | refine rd_asg ?_ | refine rd_par ?_ | refine rd_for ?_ | refine rd_break ?_ | refine rd_cont ?_ | refine rd_c ?_ | refine rd_op ?_ | refine rd_un ?_ | refine rd_b ?_ | refine rd_bK ?_ | refine rd_tru ?_ | refine rd_tKb ?_ | refine rd_and ?_ | refine rd_or ?_ | refine rd_not ?_ | refine rd_andV ?_ | refine rd_orV ?_ | refine rd_notV ?_ | refine rd_tvKb ?_ | refine rd_ifE ?_ | refine rd_nil ?_ | refine rd_cons ?_ | refine rd_tup ?_ | refine rd_lst ?_ | refine rd_lstM ?_ | refine rd_cb ?_ | refine rd_call ?_ | refine rd_sp0 ?_ | refine rd_sp1 ?_ | refine rd_sp2 ?_ | refine rd_sp3 ?_ | refine rd_int ?_ | refine rd_intb ?_ | refine rd_abs ?_ | refine rd_ii ?_ | refine rd_add ?_ | refine rd_sub ?_ | refine rd_addI ?_ | refine rd_cmp ?_ | refine rd_setI ?_ | refine rd_mt ?_ | refine rd_lc ?_ | refine rd_lcM ?_ | refine rd_yes ?_ | refine rd_wseq ?_ | refine rd_wsT ?_ | refine rd_wsL ?_ | refine rd_wsS ?_ | refine rd_wzip ?_ | refine rd_zipT ?_ | refine rd_rng1 ?_ | refine rd_rng2 ?_ | refine rd_sl ?_ | refine rd_slT ?_ | refine rd_slL ?_ | refine rd_slS ?_ | refine rd_nopart ?_ | refine rd_part ?_ | refine rd_ptK ?_ | refine rd_star ?_ | refine rd_ss ?_ | refine rd_itet ?_ | refine rd_itef ?_ | refine rd_itnt ?_ | refine rd_itnf ?_) | ((with_reducible apply rd_var); (· exact rfl)) | ((with_reducible apply rd_asgK); (· exact rfl)) | ((with_reducible apply rd_parK); (· exact rfl)) | ((with_reducible apply rd_len); (· (first | assumption | exact seqD_ref (by assumption) | exact seqD_up | exact lstD_ref (by assumption) | exact lstD_up | rfl))) | ((with_reducible apply rd_tuple); (· (first | assumption | exact seqD_ref (by assumption) | exact seqD_up | exact lstD_ref (by assumption) | exact lstD_up | rfl))) | ((with_reducible apply rd_list); (· (first | assumption | exact seqD_ref (by assumption) | exact seqD_up | exact lstD_ref (by assumption) | exact lstD_up | rfl))) | ((with_reducible apply rd_stK); (· (first | assumption | exact seqD_ref (by assumption) | exact seqD_up | exact lstD_ref (by assumption) | exact lstD_up | rfl))) | ((with_reducible apply rd_ix); (· (first | assumption | exact seqD_ref (by assumption) | exact seqD_up | exact lstD_ref (by assumption) | exact lstD_up | rfl)); (· (first | exact atI_c0 _ _ | exact atI_c1 _ _ _ | exact atI_c2 _ _ _ _ | assumption | rfl))) | ((with_reducible apply rd_set30); (· (first | assumption | exact gup_same))) | ((with_reducible apply rd_set32); (· (first | assumption | exact gup_same))) | ((with_reducible apply rd_some); (· (first | assumption | exact seqD_ref (by assumption) | exact seqD_up | exact lstD_ref (by assumption) | exact lstD_up | rfl)))))
    refine ⟨p, 16, L1, rfl, gup_same, hp1, by decide, fun L2 hp2 => ?_⟩
    rw [gup_gup]
    (repeat (first | (with_reducible first | refine rd_seq ?_ | refine rd_seqE ?_ | refine rd_next ?_ | refine rd_rtE ?_ | refine rd_nxE ?_ | refine rd_nx ?_ | refine rd_rt ?_ | refine rd_ct ?_ | refine rd_bk ?_ | refine rd_drop ?_ | refine rd_ret ?_ | refine rd_retN ?_ | refine rd_dif ?_ | refine rd_asg ?_ | refine rd_par ?_ | refine rd_for ?_ | refine rd_break ?_ | refine rd_cont ?_ | refine rd_c ?_ | refine rd_op ?_ | refine rd_un ?_ | refine rd_b ?_ | refine rd_bK ?_ | refine rd_tru ?_ | refine rd_tKb ?_ | refine rd_and ?_ | refine rd_or ?_ | refine rd_not ?_ | refine rd_andV ?_ | refine rd_orV ?_ | refine rd_notV ?_ | refine rd_tvKb ?_ | refine rd_ifE ?_ | refine rd_nil ?_ | refine rd_cons ?_ | refine rd_tup ?_ | refine rd_lst ?_ | refine rd_lstM ?_ | refine rd_cb ?_ | refine rd_call ?_ | refine rd_sp0 ?_ | refine rd_sp1 ?_ | refine rd_sp2 ?_ | refine rd_sp3 ?_ | refine rd_int ?_ | refine rd_intb ?_ | refine rd_abs ?_ | refine rd_ii ?_ | refine rd_add ?_ | refine rd_sub ?_ | refine rd_addI ?_ | refine rd_cmp ?_ | refine rd_setI ?_ | refine rd_mt ?_ | refine rd_lc ?_ | refine rd_lcM ?_ | refine rd_yes ?_ | refine rd_wseq ?_ | refine rd_wsT ?_ | refine rd_wsL ?_ | refine rd_wsS ?_ | refine rd_wzip ?_ | refine rd_zipT ?_ | refine rd_rng1 ?_ | refine rd_rng2 ?_ | refine rd_sl ?_ | refine rd_slT ?_ | refine rd_slL ?_ | refine rd_slS ?_ | refine rd_nopart ?_ | refine rd_part ?_ | refine rd_ptK ?_ | refine rd_star ?_ | refine rd_ss ?_ | refine rd_itet ?_ | refine rd_itef ?_ | refine rd_itnt ?_ | refine rd_itnf ?_) | ((with_reducible apply rd_var); (· exact rfl)) | ((with_reducible apply rd_asgK); (· exact rfl)) | ((with_reducible apply rd_parK); (· exact rfl)) | ((with_reducible apply rd_len); (· (first | assumption | exact seqD_ref (by assumption) | exact seqD_up | exact lstD_ref (by assumption) | exact lstD_up | rfl))) | ((with_reducible apply rd_tuple); (· (first | assumption | exact seqD_ref (by assumption) | exact seqD_up | exact lstD_ref (by assumption) | exact lstD_up | rfl))) | ((with_reducible apply rd_list); (· (first | assumption | exact seqD_ref (by assumption) | exact seqD_up | exact lstD_ref (by assumption) | exact lstD_up | rfl))) | ((with_reducible apply rd_stK); (· (first | assumption | exact seqD_ref (by assumption) | exact seqD_up | exact lstD_ref (by assumption) | exact lstD_up | rfl))) | ((with_reducible apply rd_ix); (· (first | assumption | exact seqD_ref (by assumption) | exact seqD_up | exact lstD_ref (by assumption) | exact lstD_up | rfl)); (· (first | exact atI_c0 _ _ | exact atI_c1 _ _ _ | exact atI_c2 _ _ _ _ | assumption | rfl))) | ((with_reducible apply rd_set30); (· (first | assumption | exact gup_same))) | ((with_reducible apply rd_set32); (· (first | assumption | exact gup_same))) | ((with_reducible apply rd_some); (· (first | assumption | exact seqD_ref (by assumption) | exact seqD_up | exact lstD_ref (by assumption) | exact lstD_up | rfl)))))
    refine hf _ _ ⟨fun a ha => ?_, _, _, _, rfl⟩
    by_cases hb : a = p
    · subst hb
      rw [hs a ha] at hp
      exact absurd hp ha
    · rw [gup_ne hb]
      exact hs a ha
  · intro δ g' hI
    obtain ⟨hs, v, v', w, e⟩ := hI
    subst e
    (repeat (first | (with_reducible first | refine rd_seq ?_ | refine rd_seqE ?_ | refine rd_next ?_ | refine rd_rtE ?_ | refine rd_nxE ?_ | refine rd_nx ?_ | refine rd_rt ?_ | refine rd_ct ?_ | refine rd_bk ?_ | refine rd_drop ?_ | refine rd_ret ?_ | refine rd_retN ?_ | refine rd_dif ?_ | refine rd_asg ?_ | refine rd_par ?_ | refine rd_for ?_ | refine rd_break ?_ | refine rd_cont ?_ | refine rd_c ?_ | refine rd_op ?_ | refine rd_un ?_ | refine rd_b ?_ | refine rd_bK ?_ | refine rd_tru ?_ | refine rd_tKb ?_ | refine rd_and ?_ | refine rd_or ?_ | refine rd_not ?_ | refine rd_andV ?_ | refine rd_orV ?_ | refine rd_notV ?_ | refine rd_tvKb ?_ | refine rd_ifE ?_ | refine rd_nil ?_ | refine rd_cons ?_ | refine rd_tup ?_ | refine rd_lst ?_ | refine rd_lstM ?_ | refine rd_cb ?_ | refine rd_call ?_ | refine rd_sp0 ?_ | refine rd_sp1 ?_ | refine rd_sp2 ?_ | refine rd_sp3 ?_ | refine rd_int ?_ | refine rd_intb ?_ | refine rd_abs ?_ | refine rd_ii ?_ | refine rd_add ?_ | refine rd_sub ?_ | refine rd_addI ?_ | refine rd_cmp ?_ | refine rd_setI ?_ | refine rd_mt ?_ | refine rd_lc ?_ | refine rd_lcM ?_ | refine rd_yes ?_ | refine rd_wseq ?_ | refine rd_wsT ?_ | refine rd_wsL ?_ | refine rd_wsS ?_ | refine rd_wzip ?_ | refine rd_zipT ?_ | refine rd_rng1 ?_ | refine rd_rng2 ?_ | refine rd_sl ?_ | refine rd_slT ?_ | refine rd_slL ?_ | refine rd_slS ?_ | refine rd_nopart ?_ | refine rd_part ?_ | refine rd_ptK ?_ | refine rd_star ?_ | refine rd_ss ?_ | refine rd_itet ?_ | refine rd_itef ?_ | refine rd_itnt ?_ | refine rd_itnf ?_) | ((with_reducible apply rd_var); (· exact rfl)) | ((with_reducible apply rd_asgK); (· exact rfl)) | ((with_reducible apply rd_parK); (· exact rfl)) | ((with_reducible apply rd_len); (· (first | assumption | exact seqD_ref (by assumption) | exact seqD_up | exact lstD_ref (by assumption) | exact lstD_up | rfl))) | ((with_reducible apply rd_tuple); (· (first | assumption | exact seqD_ref (by assumption) | exact seqD_up | exact lstD_ref (by assumption) | exact lstD_up | rfl))) | ((with_reducible apply rd_list); (· (first | assumption | exact seqD_ref (by assumption) | exact seqD_up | exact lstD_ref (by assumption) | exact lstD_up | rfl))) | ((with_reducible apply rd_stK); (· (first | assumption | exact seqD_ref (by assumption) | exact seqD_up | exact lstD_ref (by assumption) | exact lstD_up | rfl))) | ((with_reducible apply rd_ix); (· (first | assumption | exact seqD_ref (by assumption) | exact seqD_up | exact lstD_ref (by assumption) | exact lstD_up | rfl)); (· (first | exact atI_c0 _ _ | exact atI_c1 _ _ _ | exact atI_c2 _ _ _ _ | assumption | rfl))) | ((with_reducible apply rd_set30); (· (first | assumption | exact gup_same))) | ((with_reducible apply rd_set32); (· (first | assumption | exact gup_same))) | ((with_reducible apply rd_some); (· (first | assumption | exact seqD_ref (by assumption) | exact seqD_up | exact lstD_ref (by assumption) | exact lstD_up | rfl)))))
    refine rd_zK (by show 3 ≤ 16777216; decide) ?_
    (repeat (first | (with_reducible first | refine rd_seq ?_ | refine rd_seqE ?_ | refine rd_next ?_ | refine rd_rtE ?_ | refine rd_nxE ?_ | refine rd_nx ?_ | refine rd_rt ?_ | refine rd_ct ?_ | refine rd_bk ?_ | refine rd_drop ?_ | refine rd_ret ?_ | refine rd_retN ?_ | refine rd_dif ?_ | refine rd_asg ?_ | refine rd_par ?_ | refine rd_for ?_ | refine rd_break ?_ | refine rd_cont ?_ | refine rd_c ?_ | refine rd_op ?_ | refine rd_un ?_ | refine rd_b ?_ | refine rd_bK ?_ | refine rd_tru ?_ | refine rd_tKb ?_ | refine rd_and ?_ | refine rd_or ?_ | refine rd_not ?_ | refine rd_andV ?_ | refine rd_orV ?_ | refine rd_notV ?_ | refine rd_tvKb ?_ | refine rd_ifE ?_ | refine rd_nil ?_ | refine rd_cons ?_ | refine rd_tup ?_ | refine rd_lst ?_ | refine rd_lstM ?_ | refine rd_cb ?_ | refine rd_call ?_ | refine rd_sp0 ?_ | refine rd_sp1 ?_ | refine rd_sp2 ?_ | refine rd_sp3 ?_ | refine rd_int ?_ | refine rd_intb ?_ | refine rd_abs ?_ | refine rd_ii ?_ | refine rd_add ?_ | refine rd_sub ?_ | refine rd_addI ?_ | refine rd_cmp ?_ | refine rd_setI ?_ | refine rd_mt ?_ | refine rd_lc ?_ | refine rd_lcM ?_ | refine rd_yes ?_ | refine rd_wseq ?_ | refine rd_wsT ?_ | refine rd_wsL ?_ | refine rd_wsS ?_ | refine rd_wzip ?_ | refine rd_zipT ?_ | refine rd_rng1 ?_ | refine rd_rng2 ?_ | refine rd_sl ?_ | refine rd_slT ?_ | refine rd_slL ?_ | refine rd_slS ?_ | refine rd_nopart ?_ | refine rd_part ?_ | refine rd_ptK ?_ | refine rd_star ?_ | refine rd_ss ?_ | refine rd_itet ?_ | refine rd_itef ?_ | refine rd_itnt ?_ | refine rd_itnf ?_) | ((with_reducible apply rd_var); (· exact rfl)) | ((with_reducible apply rd_asgK); (· exact rfl)) | ((with_reducible apply rd_parK); (· exact rfl)) | ((with_reducible apply rd_len); (· (first | assumption | exact seqD_ref (by assumption) | exact seqD_up | exact lstD_ref (by assumption) | exact lstD_up | rfl))) | ((with_reducible apply rd_tuple); (· (first | assumption | exact seqD_ref (by assumption) | exact seqD_up | exact lstD_ref (by assumption) | exact lstD_up | rfl))) | ((with_reducible apply rd_list); (· (first | assumption | exact seqD_ref (by assumption) | exact seqD_up | exact lstD_ref (by assumption) | exact lstD_up | rfl))) | ((with_reducible apply rd_stK); (· (first | assumption | exact seqD_ref (by assumption) | exact seqD_up | exact lstD_ref (by assumption) | exact lstD_up | rfl))) | ((with_reducible apply rd_ix); (· (first | assumption | exact seqD_ref (by assumption) | exact seqD_up | exact lstD_ref (by assumption) | exact lstD_up | rfl)); (· (first | exact atI_c0 _ _ | exact atI_c1 _ _ _ | exact atI_c2 _ _ _ _ | assumption | rfl))) | ((with_reducible apply rd_set30); (· (first | assumption | exact gup_same))) | ((with_reducible apply rd_set32); (· (first | assumption | exact gup_same))) | ((with_reducible apply rd_some); (· (first | assumption | exact seqD_ref (by assumption) | exact seqD_up | exact lstD_ref (by assumption) | exact lstD_up | rfl)))))
    refine rd_zK (by show 3 ≤ 16777216; decide) ?_
    (repeat (first | (with_reducible first | refine rd_seq ?_ | refine rd_seqE ?_ | refine rd_next ?_ | refine rd_rtE ?_ | refine rd_nxE ?_ | refine rd_nx ?_ | refine rd_rt ?_ | refine rd_ct ?_ | refine rd_bk ?_ | refine rd_drop ?_ | refine rd_ret ?_ | refine rd_retN ?_ | refine rd_dif ?_ | refine rd_asg ?_ | refine rd_par ?_ | refine rd_for ?_ | refine rd_break ?_ | refine rd_cont ?_ | refine rd_c ?_ | refine rd_op ?_ | refine rd_un ?_ | refine rd_b ?_ | refine rd_bK ?_ | refine rd_tru ?_ | refine rd_tKb ?_ | refine rd_and ?_ | refine rd_or ?_ | refine rd_not ?_ | refine rd_andV ?_ | refine rd_orV ?_ | refine rd_notV ?_ | refine rd_tvKb ?_ | refine rd_ifE ?_ | refine rd_nil ?_ | refine rd_cons ?_ | refine rd_tup ?_ | refine rd_lst ?_ | refine rd_lstM ?_ | refine rd_cb ?_ | refine rd_call ?_ | refine rd_sp0 ?_ | refine rd_sp1 ?_ | refine rd_sp2 ?_ | refine rd_sp3 ?_ | refine rd_int ?_ | refine rd_intb ?_ | refine rd_abs ?_ | refine rd_ii ?_ | refine rd_add ?_ | refine rd_sub ?_ | refine rd_addI ?_ | refine rd_cmp ?_ | refine rd_setI ?_ | refine rd_mt ?_ | refine rd_lc ?_ | refine rd_lcM ?_ | refine rd_yes ?_ | refine rd_wseq ?_ | refine rd_wsT ?_ | refine rd_wsL ?_ | refine rd_wsS ?_ | refine rd_wzip ?_ | refine rd_zipT ?_ | refine rd_rng1 ?_ | refine rd_rng2 ?_ | refine rd_sl ?_ | refine rd_slT ?_ | refine rd_slL ?_ | refine rd_slS ?_ | refine rd_nopart ?_ | refine rd_part ?_ | refine rd_ptK ?_ | refine rd_star ?_ | refine rd_ss ?_ | refine rd_itet ?_ | refine rd_itef ?_ | refine rd_itnt ?_ | refine rd_itnf ?_) | ((with_reducible apply rd_var); (· exact rfl)) | ((with_reducible apply rd_asgK); (· exact rfl)) | ((with_reducible apply rd_parK); (· exact rfl)) | ((with_reducible apply rd_len); (· (first | assumption | exact seqD_ref (by assumption) | exact seqD_up | exact lstD_ref (by assumption) | exact lstD_up | rfl))) | ((with_reducible apply rd_tuple); (· (first | assumption | exact seqD_ref (by assumption) | exact seqD_up | exact lstD_ref (by assumption) | exact lstD_up | rfl))) | ((with_reducible apply rd_list); (· (first | assumption | exact seqD_ref (by assumption) | exact seqD_up | exact lstD_ref (by assumption) | exact lstD_up | rfl))) | ((with_reducible apply rd_stK); (· (first | assumption | exact seqD_ref (by assumption) | exact seqD_up | exact lstD_ref (by assumption) | exact lstD_up | rfl))) | ((with_reducible apply rd_ix); (· (first | assumption | exact seqD_ref (by assumption) | exact seqD_up | exact lstD_ref (by assumption) | exact lstD_up | rfl)); (· (first | exact atI_c0 _ _ | exact atI_c1 _ _ _ | exact atI_c2 _ _ _ _ | assumption | rfl))) | ((with_reducible apply rd_set30); (· (first | assumption | exact gup_same))) | ((with_reducible apply rd_set32); (· (first | assumption | exact gup_same))) | ((with_reducible apply rd_some); (· (first | assumption | exact seqD_ref (by assumption) | exact seqD_up | exact lstD_ref (by assumption) | exact lstD_up | rfl)))))
    refine ⟨[0, 1, 4], [0, 2, 3], rfl, rfl, ⟨by decide, by decide, by decide, by decide⟩, ⟨by decide, by decide, by decide, by decide⟩, ?_⟩
    rw [show lowerL [0, 1, 4] [0, 2, 3] = [0, 1, 3] from by decide]
    (repeat (first | (with_reducible first | refine rd_seq ?_ | refine rd_seqE ?_ | refine rd_next ?_ | refine rd_rtE ?_ | refine rd_nxE ?_ | refine rd_nx ?_ | refine rd_rt ?_ | refine rd_ct ?_ | refine rd_bk ?_ | refine rd_drop ?_ | refine rd_ret ?_ | refine rd_retN ?_ | refine rd_dif ?_ | refine rd_asg ?_ | refine rd_par ?_ | refine rd_for ?_ | refine rd_break ?_ | refine rd_cont ?_ | refine rd_c ?_ | refine rd_op ?_ | refine rd_un ?_ | refine rd_b ?_ | refine rd_bK ?_ | refine rd_tru ?_ | refine rd_tKb ?_ | refine rd_and ?_ | refine rd_or ?_ | refine rd_not ?_ | refine rd_andV ?_ | refine rd_orV ?_ | refine rd_notV ?_ | refine rd_tvKb ?_ | refine rd_ifE ?_ | refine rd_nil ?_ | refine rd_cons ?_ | refine rd_tup ?_ | refine rd_lst ?_ | refine rd_lstM ?_ | refine rd_cb ?_ | refine rd_call ?_ | refine rd_sp0 ?_ | refine rd_sp1 ?_ | refine rd_sp2 ?_ | refine rd_sp3 ?_ | refine rd_int ?_ | refine rd_intb ?_ | refine rd_abs ?_ | refine rd_ii ?_ | refine rd_add ?_ | refine rd_sub ?_ | refine rd_addI ?_ | refine rd_cmp ?_ | refine rd_setI ?_ | refine rd_mt ?_ | refine rd_lc ?_ | refine rd_lcM ?_ | refine rd_yes ?_ | refine rd_wseq ?_ | refine rd_wsT ?_ | refine rd_wsL ?_ | refine rd_wsS ?_ | refine rd_wzip ?_ | refine rd_zipT ?_ | refine rd_rng1 ?_ | refine rd_rng2 ?_ | refine rd_sl ?_ | refine rd_slT ?_ | refine rd_slL ?_ | refine rd_slS ?_ | refine rd_nopart ?_ | refine rd_part ?_ | refine rd_ptK ?_ | refine rd_star ?_ | refine rd_ss ?_ | refine rd_itet ?_ | refine rd_itef ?_ | refine rd_itnt ?_ | refine rd_itnf ?_) | ((with_reducible apply rd_var); (· exact rfl)) | ((with_reducible apply rd_asgK); (· exact rfl)) | ((with_reducible apply rd_parK); (· exact rfl)) | ((with_reducible apply rd_len); (· (first | assumption | exact seqD_ref (by assumption) | exact seqD_up | exact lstD_ref (by assumption) | exact lstD_up | rfl))) | ((with_reducible apply rd_tuple); (· (first | assumption | exact seqD_ref (by assumption) | exact seqD_up | exact lstD_ref (by assumption) | exact lstD_up | rfl))) | ((with_reducible apply rd_list); (· (first | assumption | exact seqD_ref (by assumption) | exact seqD_up | exact lstD_ref (by assumption) | exact lstD_up | rfl))) | ((with_reducible apply rd_stK); (· (first | assumption | exact seqD_ref (by assumption) | exact seqD_up | exact lstD_ref (by assumption) | exact lstD_up | rfl))) | ((with_reducible apply rd_ix); (· (first | assumption | exact seqD_ref (by assumption) | exact seqD_up | exact lstD_ref (by assumption) | exact lstD_up | rfl)); (· (first | exact atI_c0 _ _ | exact atI_c1 _ _ _ | exact atI_c2 _ _ _ _ | assumption | rfl))) | ((with_reducible apply rd_set30); (· (first | assumption | exact gup_same))) | ((with_reducible apply rd_set32); (· (first | assumption | exact gup_same))) | ((with_reducible apply rd_some); (· (first | assumption | exact seqD_ref (by assumption) | exact seqD_up | exact lstD_ref (by assumption) | exact lstD_up | rfl)))))
    refine rd_zK (by show 3 ≤ 16777216; decide) ?_
    (repeat (first | (with_reducible first | refine rd_seq ?_ | refine rd_seqE ?_ | refine rd_next ?_ | refine rd_rtE ?_ | refine rd_nxE ?_ | refine rd_nx ?_ | refine rd_rt ?_ | refine rd_ct ?_ | refine rd_bk ?_ | refine rd_drop ?_ | refine rd_ret ?_ | refine rd_retN ?_ | refine rd_dif ?_ | refine rd_asg ?_ | refine rd_par ?_ | refine rd_for ?_ | refine rd_break ?_ | refine rd_cont ?_ | refine rd_c ?_ | refine rd_op ?_ | refine rd_un ?_ | refine rd_b ?_ | refine rd_bK ?_ | refine rd_tru ?_ | refine rd_tKb ?_ | refine rd_and ?_ | refine rd_or ?_ | refine rd_not ?_ | refine rd_andV ?_ | refine rd_orV ?_ | refine rd_notV ?_ | refine rd_tvKb ?_ | refine rd_ifE ?_ | refine rd_nil ?_ | refine rd_cons ?_ | refine rd_tup ?_ | refine rd_lst ?_ | refine rd_lstM ?_ | refine rd_cb ?_ | refine rd_call ?_ | refine rd_sp0 ?_ | refine rd_sp1 ?_ | refine rd_sp2 ?_ | refine rd_sp3 ?_ | refine rd_int ?_ | refine rd_intb ?_ | refine rd_abs ?_ | refine rd_ii ?_ | refine rd_add ?_ | refine rd_sub ?_ | refine rd_addI ?_ | refine rd_cmp ?_ | refine rd_setI ?_ | refine rd_mt ?_ | refine rd_lc ?_ | refine rd_lcM ?_ | refine rd_yes ?_ | refine rd_wseq ?_ | refine rd_wsT ?_ | refine rd_wsL ?_ | refine rd_wsS ?_ | refine rd_wzip ?_ | refine rd_zipT ?_ | refine rd_rng1 ?_ | refine rd_rng2 ?_ | refine rd_sl ?_ | refine rd_slT ?_ | refine rd_slL ?_ | refine rd_slS ?_ | refine rd_nopart ?_ | refine rd_part ?_ | refine rd_ptK ?_ | refine rd_star ?_ | refine rd_ss ?_ | refine rd_itet ?_ | refine rd_itef ?_ | refine rd_itnt ?_ | refine rd_itnf ?_) | ((with_reducible apply rd_var); (· exact rfl)) | ((with_reducible apply rd_asgK); (· exact rfl)) | ((with_reducible apply rd_parK); (· exact rfl)) | ((with_reducible apply rd_len); (· (first | assumption | exact seqD_ref (by assumption) | exact seqD_up | exact lstD_ref (by assumption) | exact lstD_up | rfl))) | ((with_reducible apply rd_tuple); (· (first | assumption | exact seqD_ref (by assumption) | exact seqD_up | exact lstD_ref (by assumption) | exact lstD_up | rfl))) | ((with_reducible apply rd_list); (· (first | assumption | exact seqD_ref (by assumption) | exact seqD_up | exact lstD_ref (by assumption) | exact lstD_up | rfl))) | ((with_reducible apply rd_stK); (· (first | assumption | exact seqD_ref (by assumption) | exact seqD_up | exact lstD_ref (by assumption) | exact lstD_up | rfl))) | ((with_reducible apply rd_ix); (· (first | assumption | exact seqD_ref (by assumption) | exact seqD_up | exact lstD_ref (by assumption) | exact lstD_up | rfl)); (· (first | exact atI_c0 _ _ | exact atI_c1 _ _ _ | exact atI_c2 _ _ _ _ | assumption | rfl))) | ((with_reducible apply rd_set30); (· (first | assumption | exact gup_same))) | ((with_reducible apply rd_set32); (· (first | assumption | exact gup_same))) | ((with_reducible apply rd_some); (· (first | assumption | exact seqD_ref (by assumption) | exact seqD_up | exact lstD_ref (by assumption) | exact lstD_up | rfl)))))
    refine rd_zK (by show 3 ≤ 16777216; decide) ?_
    (repeat (first | (with_reducible first | refine rd_seq ?_ | refine rd_seqE ?_ | refine rd_next ?_ | refine rd_rtE ?_ | refine rd_nxE ?_ | refine rd_nx ?_ | refine rd_rt ?_ | refine rd_ct ?_ | refine rd_bk ?_ | refine rd_drop ?_ | refine rd_ret ?_ | refine rd_retN ?_ | refine rd_dif ?_ | refine rd_asg ?_ | refine rd_par ?_ | refine rd_for ?_ | refine rd_break ?_ | refine rd_cont ?_ | refine rd_c ?_ | refine rd_op ?_ | refine rd_un ?_ | refine rd_b ?_ | refine rd_bK ?_ | refine rd_tru ?_ | refine rd_tKb ?_ | refine rd_and ?_ | refine rd_or ?_ | refine rd_not ?_ | refine rd_andV ?_ | refine rd_orV ?_ | refine rd_notV ?_ | refine rd_tvKb ?_ | refine rd_ifE ?_ | refine rd_nil ?_ | refine rd_cons ?_ | refine rd_tup ?_ | refine rd_lst ?_ | refine rd_lstM ?_ | refine rd_cb ?_ | refine rd_call ?_ | refine rd_sp0 ?_ | refine rd_sp1 ?_ | refine rd_sp2 ?_ | refine rd_sp3 ?_ | refine rd_int ?_ | refine rd_intb ?_ | refine rd_abs ?_ | refine rd_ii ?_ | refine rd_add ?_ | refine rd_sub ?_ | refine rd_addI ?_ | refine rd_cmp ?_ | refine rd_setI ?_ | refine rd_mt ?_ | refine rd_lc ?_ | refine rd_lcM ?_ | refine rd_yes ?_ | refine rd_wseq ?_ | refine rd_wsT ?_ | refine rd_wsL ?_ | refine rd_wsS ?_ | refine rd_wzip ?_ | refine rd_zipT ?_ | refine rd_rng1 ?_ | refine rd_rng2 ?_ | refine rd_sl ?_ | refine rd_slT ?_ | refine rd_slL ?_ | refine rd_slS ?_ | refine rd_nopart ?_ | refine rd_part ?_ | refine rd_ptK ?_ | refine rd_star ?_ | refine rd_ss ?_ | refine rd_itet ?_ | refine rd_itef ?_ | refine rd_itnt ?_ | refine rd_itnf ?_) | ((with_reducible apply rd_var); (· exact rfl)) | ((with_reducible apply rd_asgK); (· exact rfl)) | ((with_reducible apply rd_parK); (· exact rfl)) | ((with_reducible apply rd_len); (· (first | assumption | exact seqD_ref (by assumption) | exact seqD_up | exact lstD_ref (by assumption) | exact lstD_up | rfl))) | ((with_reducible apply rd_tuple); (· (first | assumption | exact seqD_ref (by assumption) | exact seqD_up | exact lstD_ref (by assumption) | exact lstD_up | rfl))) | ((with_reducible apply rd_list); (· (first | assumption | exact seqD_ref (by assumption) | exact seqD_up | exact lstD_ref (by assumption) | exact lstD_up | rfl))) | ((with_reducible apply rd_stK); (· (first | assumption | exact seqD_ref (by assumption) | exact seqD_up | exact lstD_ref (by assumption) | exact lstD_up | rfl))) | ((with_reducible apply rd_ix); (· (first | assumption | exact seqD_ref (by assumption) | exact seqD_up | exact lstD_ref (by assumption) | exact lstD_up | rfl)); (· (first | exact atI_c0 _ _ | exact atI_c1 _ _ _ | exact atI_c2 _ _ _ _ | assumption | rfl))) | ((with_reducible apply rd_set30); (· (first | assumption | exact gup_same))) | ((with_reducible apply rd_set32); (· (first | assumption | exact gup_same))) | ((with_reducible apply rd_some); (· (first | assumption | exact seqD_ref (by assumption) | exact seqD_up | exact lstD_ref (by assumption) | exact lstD_up | rfl)))))
    refine ⟨[0, 1, 4], [0, 2, 3], rfl, rfl, ⟨by decide, by decide, by decide, by decide⟩, ⟨by decide, by decide, by decide, by decide⟩, ?_⟩
    rw [show upperL [0, 1, 4] [0, 2, 3] = [0, 2, 4] from by decide]
    (repeat (first | (with_reducible first | refine rd_seq ?_ | refine rd_seqE ?_ | refine rd_next ?_ | refine rd_rtE ?_ | refine rd_nxE ?_ | refine rd_nx ?_ | refine rd_rt ?_ | refine rd_ct ?_ | refine rd_bk ?_ | refine rd_drop ?_ | refine rd_ret ?_ | refine rd_retN ?_ | refine rd_dif ?_ | refine rd_asg ?_ | refine rd_par ?_ | refine rd_for ?_ | refine rd_break ?_ | refine rd_cont ?_ | refine rd_c ?_ | refine rd_op ?_ | refine rd_un ?_ | refine rd_b ?_ | refine rd_bK ?_ | refine rd_tru ?_ | refine rd_tKb ?_ | refine rd_and ?_ | refine rd_or ?_ | refine rd_not ?_ | refine rd_andV ?_ | refine rd_orV ?_ | refine rd_notV ?_ | refine rd_tvKb ?_ | refine rd_ifE ?_ | refine rd_nil ?_ | refine rd_cons ?_ | refine rd_tup ?_ | refine rd_lst ?_ | refine rd_lstM ?_ | refine rd_cb ?_ | refine rd_call ?_ | refine rd_sp0 ?_ | refine rd_sp1 ?_ | refine rd_sp2 ?_ | refine rd_sp3 ?_ | refine rd_int ?_ | refine rd_intb ?_ | refine rd_abs ?_ | refine rd_ii ?_ | refine rd_add ?_ | refine rd_sub ?_ | refine rd_addI ?_ | refine rd_cmp ?_ | refine rd_setI ?_ | refine rd_mt ?_ | refine rd_lc ?_ | refine rd_lcM ?_ | refine rd_yes ?_ | refine rd_wseq ?_ | refine rd_wsT ?_ | refine rd_wsL ?_ | refine rd_wsS ?_ | refine rd_wzip ?_ | refine rd_zipT ?_ | refine rd_rng1 ?_ | refine rd_rng2 ?_ | refine rd_sl ?_ | refine rd_slT ?_ | refine rd_slL ?_ | refine rd_slS ?_ | refine rd_nopart ?_ | refine rd_part ?_ | refine rd_ptK ?_ | refine rd_star ?_ | refine rd_ss ?_ | refine rd_itet ?_ | refine rd_itef ?_ | refine rd_itnt ?_ | refine rd_itnf ?_) | ((with_reducible apply rd_var); (· exact rfl)) | ((with_reducible apply rd_asgK); (· exact rfl)) | ((with_reducible apply rd_parK); (· exact rfl)) | ((with_reducible apply rd_len); (· (first | assumption | exact seqD_ref (by assumption) | exact seqD_up | exact lstD_ref (by assumption) | exact lstD_up | rfl))) | ((with_reducible apply rd_tuple); (· (first | assumption | exact seqD_ref (by assumption) | exact seqD_up | exact lstD_ref (by assumption) | exact lstD_up | rfl))) | ((with_reducible apply rd_list); (· (first | assumption | exact seqD_ref (by assumption) | exact seqD_up | exact lstD_ref (by assumption) | exact lstD_up | rfl))) | ((with_reducible apply rd_stK); (· (first | assumption | exact seqD_ref (by assumption) | exact seqD_up | exact lstD_ref (by assumption) | exact lstD_up | rfl))) | ((with_reducible apply rd_ix); (· (first | assumption | exact seqD_ref (by assumption) | exact seqD_up | exact lstD_ref (by assumption) | exact lstD_up | rfl)); (· (first | exact atI_c0 _ _ | exact atI_c1 _ _ _ | exact atI_c2 _ _ _ _ | assumption | rfl))) | ((with_reducible apply rd_set30); (· (first | assumption | exact gup_same))) | ((with_reducible apply rd_set32); (· (first | assumption | exact gup_same))) | ((with_reducible apply rd_some); (· (first | assumption | exact seqD_ref (by assumption) | exact seqD_up | exact lstD_ref (by assumption) | exact lstD_up | rfl)))))
    refine rd_zK (by show 2 ≤ 16777216; decide) ?_
    (repeat (first | (with_reducible first | refine rd_seq ?_ | refine rd_seqE ?_ | refine rd_next ?_ | refine rd_rtE ?_ | refine rd_nxE ?_ | refine rd_nx ?_ | refine rd_rt ?_ | refine rd_ct ?_ | refine rd_bk ?_ | refine rd_drop ?_ | refine rd_ret ?_ | refine rd_retN ?_ | refine rd_dif ?_ | refine rd_asg ?_ | refine rd_par ?_ | refine rd_for ?_ | refine rd_break ?_ | refine rd_cont ?_ | refine rd_c ?_ | refine rd_op ?_ | refine rd_un ?_ | refine rd_b ?_ | refine rd_bK ?_ | refine rd_tru ?_ | refine rd_tKb ?_ | refine rd_and ?_ | refine rd_or ?_ | refine rd_not ?_ | refine rd_andV ?_ | refine rd_orV ?_ | refine rd_notV ?_ | refine rd_tvKb ?_ | refine rd_ifE ?_ | refine rd_nil ?_ | refine rd_cons ?_ | refine rd_tup ?_ | refine rd_lst ?_ | refine rd_lstM ?_ | refine rd_cb ?_ | refine rd_call ?_ | refine rd_sp0 ?_ | refine rd_sp1 ?_ | refine rd_sp2 ?_ | refine rd_sp3 ?_ | refine rd_int ?_ | refine rd_intb ?_ | refine rd_abs ?_ | refine rd_ii ?_ | refine rd_add ?_ | refine rd_sub ?_ | refine rd_addI ?_ | refine rd_cmp ?_ | refine rd_setI ?_ | refine rd_mt ?_ | refine rd_lc ?_ | refine rd_lcM ?_ | refine rd_yes ?_ | refine rd_wseq ?_ | refine rd_wsT ?_ | refine rd_wsL ?_ | refine rd_wsS ?_ | refine rd_wzip ?_ | refine rd_zipT ?_ | refine rd_rng1 ?_ | refine rd_rng2 ?_ | refine rd_sl ?_ | refine rd_slT ?_ | refine rd_slL ?_ | refine rd_slS ?_ | refine rd_nopart ?_ | refine rd_part ?_ | refine rd_ptK ?_ | refine rd_star ?_ | refine rd_ss ?_ | refine rd_itet ?_ | refine rd_itef ?_ | refine rd_itnt ?_ | refine rd_itnf ?_) | ((with_reducible apply rd_var); (· exact rfl)) | ((with_reducible apply rd_asgK); (· exact rfl)) | ((with_reducible apply rd_parK); (· exact rfl)) | ((with_reducible apply rd_len); (· (first | assumption | exact seqD_ref (by assumption) | exact seqD_up | exact lstD_ref (by assumption) | exact lstD_up | rfl))) | ((with_reducible apply rd_tuple); (· (first | assumption | exact seqD_ref (by assumption) | exact seqD_up | exact lstD_ref (by assumption) | exact lstD_up | rfl))) | ((with_reducible apply rd_list); (· (first | assumption | exact seqD_ref (by assumption) | exact seqD_up | exact lstD_ref (by assumption) | exact lstD_up | rfl))) | ((with_reducible apply rd_stK); (· (first | assumption | exact seqD_ref (by assumption) | exact seqD_up | exact lstD_ref (by assumption) | exact lstD_up | rfl))) | ((with_reducible apply rd_ix); (· (first | assumption | exact seqD_ref (by assumption) | exact seqD_up | exact lstD_ref (by assumption) | exact lstD_up | rfl)); (· (first | exact atI_c0 _ _ | exact atI_c1 _ _ _ | exact atI_c2 _ _ _ _ | assumption | rfl))) | ((with_reducible apply rd_set30); (· (first | assumption | exact gup_same))) | ((with_reducible apply rd_set32); (· (first | assumption | exact gup_same))) | ((with_reducible apply rd_some); (· (first | assumption | exact seqD_ref (by assumption) | exact seqD_up | exact lstD_ref (by assumption) | exact lstD_up | rfl)))))
    refine rd_zK (by show 3 ≤ 16777216; decide) ?_
    (repeat (first | (with_reducible first | refine rd_seq ?_ | refine rd_seqE ?_ | refine rd_next ?_ | refine rd_rtE ?_ | refine rd_nxE ?_ | refine rd_nx ?_ | refine rd_rt ?_ | refine rd_ct ?_ | refine rd_bk ?_ | refine rd_drop ?_ | refine rd_ret ?_ | refine rd_retN ?_ | refine rd_dif ?_ | refine rd_asg ?_ | refine rd_par ?_ | refine rd_for ?_ | refine rd_break ?_ | refine rd_cont ?_ | refine rd_c ?_ | refine rd_op ?_ | refine rd_un ?_ | refine rd_b ?_ | refine rd_bK ?_ | refine rd_tru ?_ | refine rd_tKb ?_ | refine rd_and ?_ | refine rd_or ?_ | refine rd_not ?_ | refine rd_andV ?_ | refine rd_orV ?_ | refine rd_notV ?_ | refine rd_tvKb ?_ | refine rd_ifE ?_ | refine rd_nil ?_ | refine rd_cons ?_ | refine rd_tup ?_ | refine rd_lst ?_ | refine rd_lstM ?_ | refine rd_cb ?_ | refine rd_call ?_ | refine rd_sp0 ?_ | refine rd_sp1 ?_ | refine rd_sp2 ?_ | refine rd_sp3 ?_ | refine rd_int ?_ | refine rd_intb ?_ | refine rd_abs ?_ | refine rd_ii ?_ | refine rd_add ?_ | refine rd_sub ?_ | refine rd_addI ?_ | refine rd_cmp ?_ | refine rd_setI ?_ | refine rd_mt ?_ | refine rd_lc ?_ | refine rd_lcM ?_ | refine rd_yes ?_ | refine rd_wseq ?_ | refine rd_wsT ?_ | refine rd_wsL ?_ | refine rd_wsS ?_ | refine rd_wzip ?_ | refine rd_zipT ?_ | refine rd_rng1 ?_ | refine rd_rng2 ?_ | refine rd_sl ?_ | refine rd_slT ?_ | refine rd_slL ?_ | refine rd_slS ?_ | refine rd_nopart ?_ | refine rd_part ?_ | refine rd_ptK ?_ | refine rd_star ?_ | refine rd_ss ?_ | refine rd_itet ?_ | refine rd_itef ?_ | refine rd_itnt ?_ | refine rd_itnf ?_) | ((with_reducible apply rd_var); (· exact rfl)) | ((with_reducible apply rd_asgK); (· exact rfl)) | ((with_reducible apply rd_parK); (· exact rfl)) | ((with_reducible apply rd_len); (· (first | assumption | exact seqD_ref (by assumption) | exact seqD_up | exact lstD_ref (by assumption) | exact lstD_up | rfl))) | ((with_reducible apply rd_tuple); (· (first | assumption | exact seqD_ref (by assumption) | exact seqD_up | exact lstD_ref (by assumption) | exact lstD_up | rfl))) | ((with_reducible apply rd_list); (· (first | assumption | exact seqD_ref (by assumption) | exact seqD_up | exact lstD_ref (by assumption) | exact lstD_up | rfl))) | ((with_reducible apply rd_stK); (· (first | assumption | exact seqD_ref (by assumption) | exact seqD_up | exact lstD_ref (by assumption) | exact lstD_up | rfl))) | ((with_reducible apply rd_ix); (· (first | assumption | exact seqD_ref (by assumption) | exact seqD_up | exact lstD_ref (by assumption) | exact lstD_up | rfl)); (· (first | exact atI_c0 _ _ | exact atI_c1 _ _ _ | exact atI_c2 _ _ _ _ | assumption | rfl))) | ((with_reducible apply rd_set30); (· (first | assumption | exact gup_same))) | ((with_reducible apply rd_set32); (· (first | assumption | exact gup_same))) | ((with_reducible apply rd_some); (· (first | assumption | exact seqD_ref (by assumption) | exact seqD_up | exact lstD_ref (by assumption) | exact lstD_up | rfl)))))
    refine ⟨[0, 3], [1, 2, 5], rfl, rfl, ⟨by decide, by decide, by decide, by decide⟩, ⟨by decide, by decide, by decide, by decide⟩, ?_⟩
    rw [show lowerL [0, 3] [1, 2, 5] = [0, 2, 5] from by decide]
    (repeat (first | (with_reducible first | refine rd_seq ?_ | refine rd_seqE ?_ | refine rd_next ?_ | refine rd_rtE ?_ | refine rd_nxE ?_ | refine rd_nx ?_ | refine rd_rt ?_ | refine rd_ct ?_ | refine rd_bk ?_ | refine rd_drop ?_ | refine rd_ret ?_ | refine rd_retN ?_ | refine rd_dif ?_ | refine rd_asg ?_ | refine rd_par ?_ | refine rd_for ?_ | refine rd_break ?_ | refine rd_cont ?_ | refine rd_c ?_ | refine rd_op ?_ | refine rd_un ?_ | refine rd_b ?_ | refine rd_bK ?_ | refine rd_tru ?_ | refine rd_tKb ?_ | refine rd_and ?_ | refine rd_or ?_ | refine rd_not ?_ | refine rd_andV ?_ | refine rd_orV ?_ | refine rd_notV ?_ | refine rd_tvKb ?_ | refine rd_ifE ?_ | refine rd_nil ?_ | refine rd_cons ?_ | refine rd_tup ?_ | refine rd_lst ?_ | refine rd_lstM ?_ | refine rd_cb ?_ | refine rd_call ?_ | refine rd_sp0 ?_ | refine rd_sp1 ?_ | refine rd_sp2 ?_ | refine rd_sp3 ?_ | refine rd_int ?_ | refine rd_intb ?_ | refine rd_abs ?_ | refine rd_ii ?_ | refine rd_add ?_ | refine rd_sub ?_ | refine rd_addI ?_ | refine rd_cmp ?_ | refine rd_setI ?_ | refine rd_mt ?_ | refine rd_lc ?_ | refine rd_lcM ?_ | refine rd_yes ?_ | refine rd_wseq ?_ | refine rd_wsT ?_ | refine rd_wsL ?_ | refine rd_wsS ?_ | refine rd_wzip ?_ | refine rd_zipT ?_ | refine rd_rng1 ?_ | refine rd_rng2 ?_ | refine rd_sl ?_ | refine rd_slT ?_ | refine rd_slL ?_ | refine rd_slS ?_ | refine rd_nopart ?_ | refine rd_part ?_ | refine rd_ptK ?_ | refine rd_star ?_ | refine rd_ss ?_ | refine rd_itet ?_ | refine rd_itef ?_ | refine rd_itnt ?_ | refine rd_itnf ?_) | ((with_reducible apply rd_var); (· exact rfl)) | ((with_reducible apply rd_asgK); (· exact rfl)) | ((with_reducible apply rd_parK); (· exact rfl)) | ((with_reducible apply rd_len); (· (first | assumption | exact seqD_ref (by assumption) | exact seqD_up | exact lstD_ref (by assumption) | exact lstD_up | rfl))) | ((with_reducible apply rd_tuple); (· (first | assumption | exact seqD_ref (by assumption) | exact seqD_up | exact lstD_ref (by assumption) | exact lstD_up | rfl))) | ((with_reducible apply rd_list); (· (first | assumption | exact seqD_ref (by assumption) | exact seqD_up | exact lstD_ref (by assumption) | exact lstD_up | rfl))) | ((with_reducible apply rd_stK); (· (first | assumption | exact seqD_ref (by assumption) | exact seqD_up | exact lstD_ref (by assumption) | exact lstD_up | rfl))) | ((with_reducible apply rd_ix); (· (first | assumption | exact seqD_ref (by assumption) | exact seqD_up | exact lstD_ref (by assumption) | exact lstD_up | rfl)); (· (first | exact atI_c0 _ _ | exact atI_c1 _ _ _ | exact atI_c2 _ _ _ _ | assumption | rfl))) | ((with_reducible apply rd_set30); (· (first | assumption | exact gup_same))) | ((with_reducible apply rd_set32); (· (first | assumption | exact gup_same))) | ((with_reducible apply rd_some); (· (first | assumption | exact seqD_ref (by assumption) | exact seqD_up | exact lstD_ref (by assumption) | exact lstD_up | rfl)))))
    refine rd_zK (by show 2 ≤ 16777216; decide) ?_
    (repeat (first | (with_reducible first | refine rd_seq ?_ | refine rd_seqE ?_ | refine rd_next ?_ | refine rd_rtE ?_ | refine rd_nxE ?_ | refine rd_nx ?_ | refine rd_rt ?_ | refine rd_ct ?_ | refine rd_bk ?_ | refine rd_drop ?_ | refine rd_ret ?_ | refine rd_retN ?_ | refine rd_dif ?_ | refine rd_asg ?_ | refine rd_par ?_ | refine rd_for ?_ | refine rd_break ?_ | refine rd_cont ?_ | refine rd_c ?_ | refine rd_op ?_ | refine rd_un ?_ | refine rd_b ?_ | refine rd_bK ?_ | refine rd_tru ?_ | refine rd_tKb ?_ | refine rd_and ?_ | refine rd_or ?_ | refine rd_not ?_ | refine rd_andV ?_ | refine rd_orV ?_ | refine rd_notV ?_ | refine rd_tvKb ?_ | refine rd_ifE ?_ | refine rd_nil ?_ | refine rd_cons ?_ | refine rd_tup ?_ | refine rd_lst ?_ | refine rd_lstM ?_ | refine rd_cb ?_ | refine rd_call ?_ | refine rd_sp0 ?_ | refine rd_sp1 ?_ | refine rd_sp2 ?_ | refine rd_sp3 ?_ | refine rd_int ?_ | refine rd_intb ?_ | refine rd_abs ?_ | refine rd_ii ?_ | refine rd_add ?_ | refine rd_sub ?_ | refine rd_addI ?_ | refine rd_cmp ?_ | refine rd_setI ?_ | refine rd_mt ?_ | refine rd_lc ?_ | refine rd_lcM ?_ | refine rd_yes ?_ | refine rd_wseq ?_ | refine rd_wsT ?_ | refine rd_wsL ?_ | refine rd_wsS ?_ | refine rd_wzip ?_ | refine rd_zipT ?_ | refine rd_rng1 ?_ | refine rd_rng2 ?_ | refine rd_sl ?_ | refine rd_slT ?_ | refine rd_slL ?_ | refine rd_slS ?_ | refine rd_nopart ?_ | refine rd_part ?_ | refine rd_ptK ?_ | refine rd_star ?_ | refine rd_ss ?_ | refine rd_itet ?_ | refine rd_itef ?_ | refine rd_itnt ?_ | refine rd_itnf ?_) | ((with_reducible apply rd_var); (· exact rfl)) | ((with_reducible apply rd_asgK); (· exact rfl)) | ((with_reducible apply rd_parK); (· exact rfl)) | ((with_reducible apply rd_len); (· (first | assumption | exact seqD_ref (by assumption) | exact seqD_up | exact lstD_ref (by assumption) | exact lstD_up | rfl))) | ((with_reducible apply rd_tuple); (· (first | assumption | exact seqD_ref (by assumption) | exact seqD_up | exact lstD_ref (by assumption) | exact lstD_up | rfl))) | ((with_reducible apply rd_list); (· (first | assumption | exact seqD_ref (by assumption) | exact seqD_up | exact lstD_ref (by assumption) | exact lstD_up | rfl))) | ((with_reducible apply rd_stK); (· (first | assumption | exact seqD_ref (by assumption) | exact seqD_up | exact lstD_ref (by assumption) | exact lstD_up | rfl))) | ((with_reducible apply rd_ix); (· (first | assumption | exact seqD_ref (by assumption) | exact seqD_up | exact lstD_ref (by assumption) | exact lstD_up | rfl)); (· (first | exact atI_c0 _ _ | exact atI_c1 _ _ _ | exact atI_c2 _ _ _ _ | assumption | rfl))) | ((with_reducible apply rd_set30); (· (first | assumption | exact gup_same))) | ((with_reducible apply rd_set32); (· (first | assumption | exact gup_same))) | ((with_reducible apply rd_some); (· (first | assumption | exact seqD_ref (by assumption) | exact seqD_up | exact lstD_ref (by assumption) | exact lstD_up | rfl)))))
    refine rd_zK (by show 3 ≤ 16777216; decide) ?_
    (repeat (first | (with_reducible first | refine rd_seq ?_ | refine rd_seqE ?_ | refine rd_next ?_ | refine rd_rtE ?_ | refine rd_nxE ?_ | refine rd_nx ?_ | refine rd_rt ?_ | refine rd_ct ?_ | refine rd_bk ?_ | refine rd_drop ?_ | refine rd_ret ?_ | refine rd_retN ?_ | refine rd_dif ?_ | refine rd_asg ?_ | refine rd_par ?_ | refine rd_for ?_ | refine rd_break ?_ | refine rd_cont ?_ | refine rd_c ?_ | refine rd_op ?_ | refine rd_un ?_ | refine rd_b ?_ | refine rd_bK ?_ | refine rd_tru ?_ | refine rd_tKb ?_ | refine rd_and ?_ | refine rd_or ?_ | refine rd_not ?_ | refine rd_andV ?_ | refine rd_orV ?_ | refine rd_notV ?_ | refine rd_tvKb ?_ | refine rd_ifE ?_ | refine rd_nil ?_ | refine rd_cons ?_ | refine rd_tup ?_ | refine rd_lst ?_ | refine rd_lstM ?_ | refine rd_cb ?_ | refine rd_call ?_ | refine rd_sp0 ?_ | refine rd_sp1 ?_ | refine rd_sp2 ?_ | refine rd_sp3 ?_ | refine rd_int ?_ | refine rd_intb ?_ | refine rd_abs ?_ | refine rd_ii ?_ | refine rd_add ?_ | refine rd_sub ?_ | refine rd_addI ?_ | refine rd_cmp ?_ | refine rd_setI ?_ | refine rd_mt ?_ | refine rd_lc ?_ | refine rd_lcM ?_ | refine rd_yes ?_ | refine rd_wseq ?_ | refine rd_wsT ?_ | refine rd_wsL ?_ | refine rd_wsS ?_ | refine rd_wzip ?_ | refine rd_zipT ?_ | refine rd_rng1 ?_ | refine rd_rng2 ?_ | refine rd_sl ?_ | refine rd_slT ?_ | refine rd_slL ?_ | refine rd_slS ?_ | refine rd_nopart ?_ | refine rd_part ?_ | refine rd_ptK ?_ | refine rd_star ?_ | refine rd_ss ?_ | refine rd_itet ?_ | refine rd_itef ?_ | refine rd_itnt ?_ | refine rd_itnf ?_) | ((with_reducible apply rd_var); (· exact rfl)) | ((with_reducible apply rd_asgK); (· exact rfl)) | ((with_reducible apply rd_parK); (· exact rfl)) | ((with_reducible apply rd_len); (· (first | assumption | exact seqD_ref (by assumption) | exact seqD_up | exact lstD_ref (by assumption) | exact lstD_up | rfl))) | ((with_reducible apply rd_tuple); (· (first | assumption | exact seqD_ref (by assumption) | exact seqD_up | exact lstD_ref (by assumption) | exact lstD_up | rfl))) | ((with_reducible apply rd_list); (· (first | assumption | exact seqD_ref (by assumption) | exact seqD_up | exact lstD_ref (by assumption) | exact lstD_up | rfl))) | ((with_reducible apply rd_stK); (· (first | assumption | exact seqD_ref (by assumption) | exact seqD_up | exact lstD_ref (by assumption) | exact lstD_up | rfl))) | ((with_reducible apply rd_ix); (· (first | assumption | exact seqD_ref (by assumption) | exact seqD_up | exact lstD_ref (by assumption) | exact lstD_up | rfl)); (· (first | exact atI_c0 _ _ | exact atI_c1 _ _ _ | exact atI_c2 _ _ _ _ | assumption | rfl))) | ((with_reducible apply rd_set30); (· (first | assumption | exact gup_same))) | ((with_reducible apply rd_set32); (· (first | assumption | exact gup_same))) | ((with_reducible apply rd_some); (· (first | assumption | exact seqD_ref (by assumption) | exact seqD_up | exact lstD_ref (by assumption) | exact lstD_up | rfl)))))
    refine ⟨[0, 3], [1, 2, 5], rfl, rfl, ⟨by decide, by decide, by decide, by decide⟩, ⟨by decide, by decide, by decide, by decide⟩, ?_⟩
    rw [show upperL [0, 3] [1, 2, 5] = [1, 3] from by decide]
    (repeat (first | (with_reducible first | refine rd_seq ?_ | refine rd_seqE ?_ | refine rd_next ?_ | refine rd_rtE ?_ | refine rd_nxE ?_ | refine rd_nx ?_ | refine rd_rt ?_ | refine rd_ct ?_ | refine rd_bk ?_ | refine rd_drop ?_ | refine rd_ret ?_ | refine rd_retN ?_ | refine rd_dif ?_ | refine rd_asg ?_ | refine rd_par ?_ | refine rd_for ?_ | refine rd_break ?_ | refine rd_cont ?_ | refine rd_c ?_ | refine rd_op ?_ | refine rd_un ?_ | refine rd_b ?_ | refine rd_bK ?_ | refine rd_tru ?_ | refine rd_tKb ?_ | refine rd_and ?_ | refine rd_or ?_ | refine rd_not ?_ | refine rd_andV ?_ | refine rd_orV ?_ | refine rd_notV ?_ | refine rd_tvKb ?_ | refine rd_ifE ?_ | refine rd_nil ?_ | refine rd_cons ?_ | refine rd_tup ?_ | refine rd_lst ?_ | refine rd_lstM ?_ | refine rd_cb ?_ | refine rd_call ?_ | refine rd_sp0 ?_ | refine rd_sp1 ?_ | refine rd_sp2 ?_ | refine rd_sp3 ?_ | refine rd_int ?_ | refine rd_intb ?_ | refine rd_abs ?_ | refine rd_ii ?_ | refine rd_add ?_ | refine rd_sub ?_ | refine rd_addI ?_ | refine rd_cmp ?_ | refine rd_setI ?_ | refine rd_mt ?_ | refine rd_lc ?_ | refine rd_lcM ?_ | refine rd_yes ?_ | refine rd_wseq ?_ | refine rd_wsT ?_ | refine rd_wsL ?_ | refine rd_wsS ?_ | refine rd_wzip ?_ | refine rd_zipT ?_ | refine rd_rng1 ?_ | refine rd_rng2 ?_ | refine rd_sl ?_ | refine rd_slT ?_ | refine rd_slL ?_ | refine rd_slS ?_ | refine rd_nopart ?_ | refine rd_part ?_ | refine rd_ptK ?_ | refine rd_star ?_ | refine rd_ss ?_ | refine rd_itet ?_ | refine rd_itef ?_ | refine rd_itnt ?_ | refine rd_itnf ?_) | ((with_reducible apply rd_var); (· exact rfl)) | ((with_reducible apply rd_asgK); (· exact rfl)) | ((with_reducible apply rd_parK); (· exact rfl)) | ((with_reducible apply rd_len); (· (first | assumption | exact seqD_ref (by assumption) | exact seqD_up | exact lstD_ref (by assumption) | exact lstD_up | rfl))) | ((with_reducible apply rd_tuple); (· (first | assumption | exact seqD_ref (by assumption) | exact seqD_up | exact lstD_ref (by assumption) | exact lstD_up | rfl))) | ((with_reducible apply rd_list); (· (first | assumption | exact seqD_ref (by assumption) | exact seqD_up | exact lstD_ref (by assumption) | exact lstD_up | rfl))) | ((with_reducible apply rd_stK); (· (first | assumption | exact seqD_ref (by assumption) | exact seqD_up | exact lstD_ref (by assumption) | exact lstD_up | rfl))) | ((with_reducible apply rd_ix); (· (first | assumption | exact seqD_ref (by assumption) | exact seqD_up | exact lstD_ref (by assumption) | exact lstD_up | rfl)); (· (first | exact atI_c0 _ _ | exact atI_c1 _ _ _ | exact atI_c2 _ _ _ _ | assumption | rfl))) | ((with_reducible apply rd_set30); (· (first | assumption | exact gup_same))) | ((with_reducible apply rd_set32); (· (first | assumption | exact gup_same))) | ((with_reducible apply rd_some); (· (first | assumption | exact seqD_ref (by assumption) | exact seqD_up | exact lstD_ref (by assumption) | exact lstD_up | rfl)))))
    refine rd_zK (by show 4 ≤ 16777216; decide) ?_
    (repeat (first | (with_reducible first | refine rd_seq ?_ | refine rd_seqE ?_ | refine rd_next ?_ | refine rd_rtE ?_ | refine rd_nxE ?_ | refine rd_nx ?_ | refine rd_rt ?_ | refine rd_ct ?_ | refine rd_bk ?_ | refine rd_drop ?_ | refine rd_ret ?_ | refine rd_retN ?_ | refine rd_dif ?_ | refine rd_asg ?_ | refine rd_par ?_ | refine rd_for ?_ | refine rd_break ?_ | refine rd_cont ?_ | refine rd_c ?_ | refine rd_op ?_ | refine rd_un ?_ | refine rd_b ?_ | refine rd_bK ?_ | refine rd_tru ?_ | refine rd_tKb ?_ | refine rd_and ?_ | refine rd_or ?_ | refine rd_not ?_ | refine rd_andV ?_ | refine rd_orV ?_ | refine rd_notV ?_ | refine rd_tvKb ?_ | refine rd_ifE ?_ | refine rd_nil ?_ | refine rd_cons ?_ | refine rd_tup ?_ | refine rd_lst ?_ | refine rd_lstM ?_ | refine rd_cb ?_ | refine rd_call ?_ | refine rd_sp0 ?_ | refine rd_sp1 ?_ | refine rd_sp2 ?_ | refine rd_sp3 ?_ | refine rd_int ?_ | refine rd_intb ?_ | refine rd_abs ?_ | refine rd_ii ?_ | refine rd_add ?_ | refine rd_sub ?_ | refine rd_addI ?_ | refine rd_cmp ?_ | refine rd_setI ?_ | refine rd_mt ?_ | refine rd_lc ?_ | refine rd_lcM ?_ | refine rd_yes ?_ | refine rd_wseq ?_ | refine rd_wsT ?_ | refine rd_wsL ?_ | refine rd_wsS ?_ | refine rd_wzip ?_ | refine rd_zipT ?_ | refine rd_rng1 ?_ | refine rd_rng2 ?_ | refine rd_sl ?_ | refine rd_slT ?_ | refine rd_slL ?_ | refine rd_slS ?_ | refine rd_nopart ?_ | refine rd_part ?_ | refine rd_ptK ?_ | refine rd_star ?_ | refine rd_ss ?_ | refine rd_itet ?_ | refine rd_itef ?_ | refine rd_itnt ?_ | refine rd_itnf ?_) | ((with_reducible apply rd_var); (· exact rfl)) | ((with_reducible apply rd_asgK); (· exact rfl)) | ((with_reducible apply rd_parK); (· exact rfl)) | ((with_reducible apply rd_len); (· (first | assumption | exact seqD_ref (by assumption) | exact seqD_up | exact lstD_ref (by assumption) | exact lstD_up | rfl))) | ((with_reducible apply rd_tuple); (· (first | assumption | exact seqD_ref (by assumption) | exact seqD_up | exact lstD_ref (by assumption) | exact lstD_up | rfl))) | ((with_reducible apply rd_list); (· (first | assumption | exact seqD_ref (by assumption) | exact seqD_up | exact lstD_ref (by assumption) | exact lstD_up | rfl))) | ((with_reducible apply rd_stK); (· (first | assumption | exact seqD_ref (by assumption) | exact seqD_up | exact lstD_ref (by assumption) | exact lstD_up | rfl))) | ((with_reducible apply rd_ix); (· (first | assumption | exact seqD_ref (by assumption) | exact seqD_up | exact lstD_ref (by assumption) | exact lstD_up | rfl)); (· (first | exact atI_c0 _ _ | exact atI_c1 _ _ _ | exact atI_c2 _ _ _ _ | assumption | rfl))) | ((with_reducible apply rd_set30); (· (first | assumption | exact gup_same))) | ((with_reducible apply rd_set32); (· (first | assumption | exact gup_same))) | ((with_reducible apply rd_some); (· (first | assumption | exact seqD_ref (by assumption) | exact seqD_up | exact lstD_ref (by assumption) | exact lstD_up | rfl)))))
    refine rd_zK (by show 3 ≤ 16777216; decide) ?_
    (repeat (first | (with_reducible first | refine rd_seq ?_ | refine rd_seqE ?_ | refine rd_next ?_ | refine rd_rtE ?_ | refine rd_nxE ?_ | refine rd_nx ?_ | refine rd_rt ?_ | refine rd_ct ?_ | refine rd_bk ?_ | refine rd_drop ?_ | refine rd_ret ?_ | refine rd_retN ?_ | refine rd_dif ?_ | refine rd_asg ?_ | refine rd_par ?_ | refine rd_for ?_ | refine rd_break ?_ | refine rd_cont ?_ | refine rd_c ?_ | refine rd_op ?_ | refine rd_un ?_ | refine rd_b ?_ | refine rd_bK ?_ | refine rd_tru ?_ | refine rd_tKb ?_ | refine rd_and ?_ | refine rd_or ?_ | refine rd_not ?_ | refine rd_andV ?_ | refine rd_orV ?_ | refine rd_notV ?_ | refine rd_tvKb ?_ | refine rd_ifE ?_ | refine rd_nil ?_ | refine rd_cons ?_ | refine rd_tup ?_ | refine rd_lst ?_ | refine rd_lstM ?_ | refine rd_cb ?_ | refine rd_call ?_ | refine rd_sp0 ?_ | refine rd_sp1 ?_ | refine rd_sp2 ?_ | refine rd_sp3 ?_ | refine rd_int ?_ | refine rd_intb ?_ | refine rd_abs ?_ | refine rd_ii ?_ | refine rd_add ?_ | refine rd_sub ?_ | refine rd_addI ?_ | refine rd_cmp ?_ | refine rd_setI ?_ | refine rd_mt ?_ | refine rd_lc ?_ | refine rd_lcM ?_ | refine rd_yes ?_ | refine rd_wseq ?_ | refine rd_wsT ?_ | refine rd_wsL ?_ | refine rd_wsS ?_ | refine rd_wzip ?_ | refine rd_zipT ?_ | refine rd_rng1 ?_ | refine rd_rng2 ?_ | refine rd_sl ?_ | refine rd_slT ?_ | refine rd_slL ?_ | refine rd_slS ?_ | refine rd_nopart ?_ | refine rd_part ?_ | refine rd_ptK ?_ | refine rd_star ?_ | refine rd_ss ?_ | refine rd_itet ?_ | refine rd_itef ?_ | refine rd_itnt ?_ | refine rd_itnf ?_) | ((with_reducible apply rd_var); (· exact rfl)) | ((with_reducible apply rd_asgK); (· exact rfl)) | ((with_reducible apply rd_parK); (· exact rfl)) | ((with_reducible apply rd_len); (· (first | assumption | exact seqD_ref (by assumption) | exact seqD_up | exact lstD_ref (by assumption) | exact lstD_up | rfl))) | ((with_reducible apply rd_tuple); (· (first | assumption | exact seqD_ref (by assumption) | exact seqD_up | exact lstD_ref (by assumption) | exact lstD_up | rfl))) | ((with_reducible apply rd_list); (· (first | assumption | exact seqD_ref (by assumption) | exact seqD_up | exact lstD_ref (by assumption) | exact lstD_up | rfl))) | ((with_reducible apply rd_stK); (· (first | assumption | exact seqD_ref (by assumption) | exact seqD_up | exact lstD_ref (by assumption) | exact lstD_up | rfl))) | ((with_reducible apply rd_ix); (· (first | assumption | exact seqD_ref (by assumption) | exact seqD_up | exact lstD_ref (by assumption) | exact lstD_up | rfl)); (· (first | exact atI_c0 _ _ | exact atI_c1 _ _ _ | exact atI_c2 _ _ _ _ | assumption | rfl))) | ((with_reducible apply rd_set30); (· (first | assumption | exact gup_same))) | ((with_reducible apply rd_set32); (· (first | assumption | exact gup_same))) | ((with_reducible apply rd_some); (· (first | assumption | exact seqD_ref (by assumption) | exact seqD_up | exact lstD_ref (by assumption) | exact lstD_up | rfl)))))
    refine rd_zK (by show 3 ≤ 16777216; decide) ?_
    (repeat (first | (with_reducible first | refine rd_seq ?_ | refine rd_seqE ?_ | refine rd_next ?_ | refine rd_rtE ?_ | refine rd_nxE ?_ | refine rd_nx ?_ | refine rd_rt ?_ | refine rd_ct ?_ | refine rd_bk ?_ | refine rd_drop ?_ | refine rd_ret ?_ | refine rd_retN ?_ | refine rd_dif ?_ | refine rd_asg ?_ | refine rd_par ?_ | refine rd_for ?_ | refine rd_break ?_ | refine rd_cont ?_ | refine rd_c ?_ | refine rd_op ?_ | refine rd_un ?_ | refine rd_b ?_ | refine rd_bK ?_ | refine rd_tru ?_ | refine rd_tKb ?_ | refine rd_and ?_ | refine rd_or ?_ | refine rd_not ?_ | refine rd_andV ?_ | refine rd_orV ?_ | refine rd_notV ?_ | refine rd_tvKb ?_ | refine rd_ifE ?_ | refine rd_nil ?_ | refine rd_cons ?_ | refine rd_tup ?_ | refine rd_lst ?_ | refine rd_lstM ?_ | refine rd_cb ?_ | refine rd_call ?_ | refine rd_sp0 ?_ | refine rd_sp1 ?_ | refine rd_sp2 ?_ | refine rd_sp3 ?_ | refine rd_int ?_ | refine rd_intb ?_ | refine rd_abs ?_ | refine rd_ii ?_ | refine rd_add ?_ | refine rd_sub ?_ | refine rd_addI ?_ | refine rd_cmp ?_ | refine rd_setI ?_ | refine rd_mt ?_ | refine rd_lc ?_ | refine rd_lcM ?_ | refine rd_yes ?_ | refine rd_wseq ?_ | refine rd_wsT ?_ | refine rd_wsL ?_ | refine rd_wsS ?_ | refine rd_wzip ?_ | refine rd_zipT ?_ | refine rd_rng1 ?_ | refine rd_rng2 ?_ | refine rd_sl ?_ | refine rd_slT ?_ | refine rd_slL ?_ | refine rd_slS ?_ | refine rd_nopart ?_ | refine rd_part ?_ | refine rd_ptK ?_ | refine rd_star ?_ | refine rd_ss ?_ | refine rd_itet ?_ | refine rd_itef ?_ | refine rd_itnt ?_ | refine rd_itnf ?_) | ((with_reducible apply rd_var); (· exact rfl)) | ((with_reducible apply rd_asgK); (· exact rfl)) | ((with_reducible apply rd_parK); (· exact rfl)) | ((with_reducible apply rd_len); (· (first | assumption | exact seqD_ref (by assumption) | exact seqD_up | exact lstD_ref (by assumption) | exact lstD_up | rfl))) | ((with_reducible apply rd_tuple); (· (first | assumption | exact seqD_ref (by assumption) | exact seqD_up | exact lstD_ref (by assumption) | exact lstD_up | rfl))) | ((with_reducible apply rd_list); (· (first | assumption | exact seqD_ref (by assumption) | exact seqD_up | exact lstD_ref (by assumption) | exact lstD_up | rfl))) | ((with_reducible apply rd_stK); (· (first | assumption | exact seqD_ref (by assumption) | exact seqD_up | exact lstD_ref (by assumption) | exact lstD_up | rfl))) | ((with_reducible apply rd_ix); (· (first | assumption | exact seqD_ref (by assumption) | exact seqD_up | exact lstD_ref (by assumption) | exact lstD_up | rfl)); (· (first | exact atI_c0 _ _ | exact atI_c1 _ _ _ | exact atI_c2 _ _ _ _ | assumption | rfl))) | ((with_reducible apply rd_set30); (· (first | assumption | exact gup_same))) | ((with_reducible apply rd_set32); (· (first | assumption | exact gup_same))) | ((with_reducible apply rd_some); (· (first | assumption | exact seqD_ref (by assumption) | exact seqD_up | exact lstD_ref (by assumption) | exact lstD_up | rfl)))))
    refine rd_zK (by show 3 ≤ 16777216; decide) ?_
    (repeat (first | (with_reducible first | refine rd_seq ?_ | refine rd_seqE ?_ | refine rd_next ?_ | refine rd_rtE ?_ | refine rd_nxE ?_ | refine rd_nx ?_ | refine rd_rt ?_ | refine rd_ct ?_ | refine rd_bk ?_ | refine rd_drop ?_ | refine rd_ret ?_ | refine rd_retN ?_ | refine rd_dif ?_ | refine rd_asg ?_ | refine rd_par ?_ | refine rd_for ?_ | refine rd_break ?_ | refine rd_cont ?_ | refine rd_c ?_ | refine rd_op ?_ | refine rd_un ?_ | refine rd_b ?_ | refine rd_bK ?_ | refine rd_tru ?_ | refine rd_tKb ?_ | refine rd_and ?_ | refine rd_or ?_ | refine rd_not ?_ | refine rd_andV ?_ | refine rd_orV ?_ | refine rd_notV ?_ | refine rd_tvKb ?_ | refine rd_ifE ?_ | refine rd_nil ?_ | refine rd_cons ?_ | refine rd_tup ?_ | refine rd_lst ?_ | refine rd_lstM ?_ | refine rd_cb ?_ | refine rd_call ?_ | refine rd_sp0 ?_ | refine rd_sp1 ?_ | refine rd_sp2 ?_ | refine rd_sp3 ?_ | refine rd_int ?_ | refine rd_intb ?_ | refine rd_abs ?_ | refine rd_ii ?_ | refine rd_add ?_ | refine rd_sub ?_ | refine rd_addI ?_ | refine rd_cmp ?_ | refine rd_setI ?_ | refine rd_mt ?_ | refine rd_lc ?_ | refine rd_lcM ?_ | refine rd_yes ?_ | refine rd_wseq ?_ | refine rd_wsT ?_ | refine rd_wsL ?_ | refine rd_wsS ?_ | refine rd_wzip ?_ | refine rd_zipT ?_ | refine rd_rng1 ?_ | refine rd_rng2 ?_ | refine rd_sl ?_ | refine rd_slT ?_ | refine rd_slL ?_ | refine rd_slS ?_ | refine rd_nopart ?_ | refine rd_part ?_ | refine rd_ptK ?_ | refine rd_star ?_ | refine rd_ss ?_ | refine rd_itet ?_ | refine rd_itef ?_ | refine rd_itnt ?_ | refine rd_itnf ?_) | ((with_reducible apply rd_var); (· exact rfl)) | ((with_reducible apply rd_asgK); (· exact rfl)) | ((with_reducible apply rd_parK); (· exact rfl)) | ((with_reducible apply rd_len); (· (first | assumption | exact seqD_ref (by assumption) | exact seqD_up | exact lstD_ref (by assumption) | exact lstD_up | rfl))) | ((with_reducible apply rd_tuple); (· (first | assumption | exact seqD_ref (by assumption) | exact seqD_up | exact lstD_ref (by assumption) | exact lstD_up | rfl))) | ((with_reducible apply rd_list); (· (first | assumption | exact seqD_ref (by assumption) | exact seqD_up | exact lstD_ref (by assumption) | exact lstD_up | rfl))) | ((with_reducible apply rd_stK); (· (first | assumption | exact seqD_ref (by assumption) | exact seqD_up | exact lstD_ref (by assumption) | exact lstD_up | rfl))) | ((with_reducible apply rd_ix); (· (first | assumption | exact seqD_ref (by assumption) | exact seqD_up | exact lstD_ref (by assumption) | exact lstD_up | rfl)); (· (first | exact atI_c0 _ _ | exact atI_c1 _ _ _ | exact atI_c2 _ _ _ _ | assumption | rfl))) | ((with_reducible apply rd_set30); (· (first | assumption | exact gup_same))) | ((with_reducible apply rd_set32); (· (first | assumption | exact gup_same))) | ((with_reducible apply rd_some); (· (first | assumption | exact seqD_ref (by assumption) | exact seqD_up | exact lstD_ref (by assumption) | exact lstD_up | rfl)))))
    refine rd_zK (by show 2 ≤ 16777216; decide) ?_
    (repeat (first | (with_reducible first | refine rd_seq ?_ | refine rd_seqE ?_ | refine rd_next ?_ | refine rd_rtE ?_ | refine rd_nxE ?_ | refine rd_nx ?_ | refine rd_rt ?_ | refine rd_ct ?_ | refine rd_bk ?_ | refine rd_drop ?_ | refine rd_ret ?_ | refine rd_retN ?_ | refine rd_dif ?_ | refine rd_asg ?_ | refine rd_par ?_ | refine rd_for ?_ | refine rd_break ?_ | refine rd_cont ?_ | refine rd_c ?_ | refine rd_op ?_ | refine rd_un ?_ | refine rd_b ?_ | refine rd_bK ?_ | refine rd_tru ?_ | refine rd_tKb ?_ | refine rd_and ?_ | refine rd_or ?_ | refine rd_not ?_ | refine rd_andV ?_ | refine rd_orV ?_ | refine rd_notV ?_ | refine rd_tvKb ?_ | refine rd_ifE ?_ | refine rd_nil ?_ | refine rd_cons ?_ | refine rd_tup ?_ | refine rd_lst ?_ | refine rd_lstM ?_ | refine rd_cb ?_ | refine rd_call ?_ | refine rd_sp0 ?_ | refine rd_sp1 ?_ | refine rd_sp2 ?_ | refine rd_sp3 ?_ | refine rd_int ?_ | refine rd_intb ?_ | refine rd_abs ?_ | refine rd_ii ?_ | refine rd_add ?_ | refine rd_sub ?_ | refine rd_addI ?_ | refine rd_cmp ?_ | refine rd_setI ?_ | refine rd_mt ?_ | refine rd_lc ?_ | refine rd_lcM ?_ | refine rd_yes ?_ | refine rd_wseq ?_ | refine rd_wsT ?_ | refine rd_wsL ?_ | refine rd_wsS ?_ | refine rd_wzip ?_ | refine rd_zipT ?_ | refine rd_rng1 ?_ | refine rd_rng2 ?_ | refine rd_sl ?_ | refine rd_slT ?_ | refine rd_slL ?_ | refine rd_slS ?_ | refine rd_nopart ?_ | refine rd_part ?_ | refine rd_ptK ?_ | refine rd_star ?_ | refine rd_ss ?_ | refine rd_itet ?_ | refine rd_itef ?_ | refine rd_itnt ?_ | refine rd_itnf ?_) | ((with_reducible apply rd_var); (· exact rfl)) | ((with_reducible apply rd_asgK); (· exact rfl)) | ((with_reducible apply rd_parK); (· exact rfl)) | ((with_reducible apply rd_len); (· (first | assumption | exact seqD_ref (by assumption) | exact seqD_up | exact lstD_ref (by assumption) | exact lstD_up | rfl))) | ((with_reducible apply rd_tuple); (· (first | assumption | exact seqD_ref (by assumption) | exact seqD_up | exact lstD_ref (by assumption) | exact lstD_up | rfl))) | ((with_reducible apply rd_list); (· (first | assumption | exact seqD_ref (by assumption) | exact seqD_up | exact lstD_ref (by assumption) | exact lstD_up | rfl))) | ((with_reducible apply rd_stK); (· (first | assumption | exact seqD_ref (by assumption) | exact seqD_up | exact lstD_ref (by assumption) | exact lstD_up | rfl))) | ((with_reducible apply rd_ix); (· (first | assumption | exact seqD_ref (by assumption) | exact seqD_up | exact lstD_ref (by assumption) | exact lstD_up | rfl)); (· (first | exact atI_c0 _ _ | exact atI_c1 _ _ _ | exact atI_c2 _ _ _ _ | assumption | rfl))) | ((with_reducible apply rd_set30); (· (first | assumption | exact gup_same))) | ((with_reducible apply rd_set32); (· (first | assumption | exact gup_same))) | ((with_reducible apply rd_some); (· (first | assumption | exact seqD_ref (by assumption) | exact seqD_up | exact lstD_ref (by assumption) | exact lstD_up | rfl)))))
    refine rd_zK (by show 4 ≤ 16777216; decide) ?_
    (repeat (first | (with_reducible first | refine rd_seq ?_ | refine rd_seqE ?_ | refine rd_next ?_ | refine rd_rtE ?_ | refine rd_nxE ?_ | refine rd_nx ?_ | refine rd_rt ?_ | refine rd_ct ?_ | refine rd_bk ?_ | refine rd_drop ?_ | refine rd_ret ?_ | refine rd_retN ?_ | refine rd_dif ?_ | refine rd_asg ?_ | refine rd_par ?_ | refine rd_for ?_ | refine rd_break ?_ | refine rd_cont ?_ | refine rd_c ?_ | refine rd_op ?_ | refine rd_un ?_ | refine rd_b ?_ | refine rd_bK ?_ | refine rd_tru ?_ | refine rd_tKb ?_ | refine rd_and ?_ | refine rd_or ?_ | refine rd_not ?_ | refine rd_andV ?_ | refine rd_orV ?_ | refine rd_notV ?_ | refine rd_tvKb ?_ | refine rd_ifE ?_ | refine rd_nil ?_ | refine rd_cons ?_ | refine rd_tup ?_ | refine rd_lst ?_ | refine rd_lstM ?_ | refine rd_cb ?_ | refine rd_call ?_ | refine rd_sp0 ?_ | refine rd_sp1 ?_ | refine rd_sp2 ?_ | refine rd_sp3 ?_ | refine rd_int ?_ | refine rd_intb ?_ | refine rd_abs ?_ | refine rd_ii ?_ | refine rd_add ?_ | refine rd_sub ?_ | refine rd_addI ?_ | refine rd_cmp ?_ | refine rd_setI ?_ | refine rd_mt ?_ | refine rd_lc ?_ | refine rd_lcM ?_ | refine rd_yes ?_ | refine rd_wseq ?_ | refine rd_wsT ?_ | refine rd_wsL ?_ | refine rd_wsS ?_ | refine rd_wzip ?_ | refine rd_zipT ?_ | refine rd_rng1 ?_ | refine rd_rng2 ?_ | refine rd_sl ?_ | refine rd_slT ?_ | refine rd_slL ?_ | refine rd_slS ?_ | refine rd_nopart ?_ | refine rd_part ?_ | refine rd_ptK ?_ | refine rd_star ?_ | refine rd_ss ?_ | refine rd_itet ?_ | refine rd_itef ?_ | refine rd_itnt ?_ | refine rd_itnf ?_) | ((with_reducible apply rd_var); (· exact rfl)) | ((with_reducible apply rd_asgK); (· exact rfl)) | ((with_reducible apply rd_parK); (· exact rfl)) | ((with_reducible apply rd_len); (· (first | assumption | exact seqD_ref (by assumption) | exact seqD_up | exact lstD_ref (by assumption) | exact lstD_up | rfl))) | ((with_reducible apply rd_tuple); (· (first | assumption | exact seqD_ref (by assumption) | exact seqD_up | exact lstD_ref (by assumption) | exact lstD_up | rfl))) | ((with_reducible apply rd_list); (· (first | assumption | exact seqD_ref (by assumption) | exact seqD_up | exact lstD_ref (by assumption) | exact lstD_up | rfl))) | ((with_reducible apply rd_stK); (· (first | assumption | exact seqD_ref (by assumption) | exact seqD_up | exact lstD_ref (by assumption) | exact lstD_up | rfl))) | ((with_reducible apply rd_ix); (· (first | assumption | exact seqD_ref (by assumption) | exact seqD_up | exact lstD_ref (by assumption) | exact lstD_up | rfl)); (· (first | exact atI_c0 _ _ | exact atI_c1 _ _ _ | exact atI_c2 _ _ _ _ | assumption | rfl))) | ((with_reducible apply rd_set30); (· (first | assumption | exact gup_same))) | ((with_reducible apply rd_set32); (· (first | assumption | exact gup_same))) | ((with_reducible apply rd_some); (· (first | assumption | exact seqD_ref (by assumption) | exact seqD_up | exact lstD_ref (by assumption) | exact lstD_up | rfl)))))
    refine rd_eq (by decide +kernel) (by decide +kernel) ?_
    (repeat (first | (with_reducible first | refine rd_seq ?_ | refine rd_seqE ?_ | refine rd_next ?_ | refine rd_rtE ?_ | refine rd_nxE ?_ | refine rd_nx ?_ | refine rd_rt ?_ | refine rd_ct ?_ | refine rd_bk ?_ | refine rd_drop ?_ | refine rd_ret ?_ | refine rd_retN ?_ | refine rd_dif ?_ | refine rd_asg ?_ | refine rd_par ?_ | refine rd_for ?_ | refine rd_break ?_ | refine rd_cont ?_ | refine rd_c ?_ | refine rd_op ?_ | refine rd_un ?_ | refine rd_b ?_ | refine rd_bK ?_ | refine rd_tru ?_ | refine rd_tKb ?_ | refine rd_and ?_ | refine rd_or ?_ | refine rd_not ?_ | refine rd_andV ?_ | refine rd_orV ?_ | refine rd_notV ?_ | refine rd_tvKb ?_ | refine rd_ifE ?_ | refine rd_nil ?_ | refine rd_cons ?_ | refine rd_tup ?_ | refine rd_lst ?_ | refine rd_lstM ?_ | refine rd_cb ?_ | refine rd_call ?_ | refine rd_sp0 ?_ | refine rd_sp1 ?_ | refine rd_sp2 ?_ | refine rd_sp3 ?_ | refine rd_int ?_ | refine rd_intb ?_ | refine rd_abs ?_ | refine rd_ii ?_ | refine rd_add ?_ | refine rd_sub ?_ | refine rd_addI ?_ | refine rd_cmp ?_ | refine rd_setI ?_ | refine rd_mt ?_ | refine rd_lc ?_ | refine rd_lcM ?_ | refine rd_yes ?_ | refine rd_wseq ?_ | refine rd_wsT ?_ | refine rd_wsL ?_ | refine rd_wsS ?_ | refine rd_wzip ?_ | refine rd_zipT ?_ | refine rd_rng1 ?_ | refine rd_rng2 ?_ | refine rd_sl ?_ | refine rd_slT ?_ | refine rd_slL ?_ | refine rd_slS ?_ | refine rd_nopart ?_ | refine rd_part ?_ | refine rd_ptK ?_ | refine rd_star ?_ | refine rd_ss ?_ | refine rd_itet ?_ | refine rd_itef ?_ | refine rd_itnt ?_ | refine rd_itnf ?_) | ((with_reducible apply rd_var); (· exact rfl)) | ((with_reducible apply rd_asgK); (· exact rfl)) | ((with_reducible apply rd_parK); (· exact rfl)) | ((with_reducible apply rd_len); (· (first | assumption | exact seqD_ref (by assumption) | exact seqD_up | exact lstD_ref (by assumption) | exact lstD_up | rfl))) | ((with_reducible apply rd_tuple); (· (first | assumption | exact seqD_ref (by assumption) | exact seqD_up | exact lstD_ref (by assumption) | exact lstD_up | rfl))) | ((with_reducible apply rd_list); (· (first | assumption | exact seqD_ref (by assumption) | exact seqD_up | exact lstD_ref (by assumption) | exact lstD_up | rfl))) | ((with_reducible apply rd_stK); (· (first | assumption | exact seqD_ref (by assumption) | exact seqD_up | exact lstD_ref (by assumption) | exact lstD_up | rfl))) | ((with_reducible apply rd_ix); (· (first | assumption | exact seqD_ref (by assumption) | exact seqD_up | exact lstD_ref (by assumption) | exact lstD_up | rfl)); (· (first | exact atI_c0 _ _ | exact atI_c1 _ _ _ | exact atI_c2 _ _ _ _ | assumption | rfl))) | ((with_reducible apply rd_set30); (· (first | assumption | exact gup_same))) | ((with_reducible apply rd_set32); (· (first | assumption | exact gup_same))) | ((with_reducible apply rd_some); (· (first | assumption | exact seqD_ref (by assumption) | exact seqD_up | exact lstD_ref (by assumption) | exact lstD_up | rfl)))))
    refine ⟨g, fun a => ?_, ?_⟩
    · by_cases ha : g a = none
      · exact .inr ha
      · exact .inl (hs a ha).symm
    · have e : eqD (.lst [tI [0, 1, 3], tI [0, 2, 4], tI [0, 2, 5], tI [1, 3]]) (.lst [tI [0, 1, 3], tI [0, 2, 4], tI [0, 2, 5], tI [1, 3]]) = true := by decide +kernel
      rw [← e] at k
      exact k

theorem all_mk {l : PySem.W.OpenLaw} {w : World} {K : Fg} {h : Heap} {mg : Str → Option Value} {fa f_is_whole f_is_within f_require_within f_is_pure_degrees f_is_below_in f_windowed f_require_degrees f_is_below f_pure_degrees f_require_two_degrees f_lower_of f_upper_of f_qpot f_qdip f_qpick f_qdegrees f_qis_below f_qright f_law : Addr} {t_MAX_PLACE t_MAX_STEP t_MOST_LAST t_MOST_MOST : Tok} (X : K.In h) (G : h.Ns mainGlobals mg) (hfa : mg "law" = some (.ref fa))
    {od_is_whole an_is_whole od_is_within an_is_within od_require_within an_require_within od_is_pure_degrees an_is_pure_degrees od_is_below_in an_is_below_in od_windowed an_windowed od_require_degrees an_require_degrees od_is_below an_is_below od_pure_degrees an_pure_degrees od_require_two_degrees an_require_two_degrees od_lower_of an_lower_of od_upper_of an_upper_of od_qpot an_qpot od_qdip an_qdip od_qpick an_qpick od_qdegrees an_qdegrees od_qis_below an_qis_below od_qright an_qright od_law an_law : Option Addr} {sl_is_whole sl_is_within sl_require_within sl_is_pure_degrees sl_is_below_in sl_windowed sl_require_degrees sl_is_below sl_pure_degrees sl_require_two_degrees sl_lower_of sl_upper_of sl_qpot sl_qdip sl_qpick sl_qdegrees sl_qis_below sl_qright sl_law : Array (Option Value)} {oc_is_whole kV_is_whole dc_is_whole pm_is_whole cd_is_whole ct_is_whole oc_is_within kV_is_within dc_is_within pm_is_within cd_is_within ct_is_within oc_require_within kV_require_within dc_require_within pm_require_within cd_require_within ct_require_within oc_is_pure_degrees kV_is_pure_degrees dc_is_pure_degrees pm_is_pure_degrees cd_is_pure_degrees ct_is_pure_degrees oc_is_below_in kV_is_below_in dc_is_below_in pm_is_below_in cd_is_below_in ct_is_below_in oc_windowed kV_windowed dc_windowed pm_windowed cd_windowed ct_windowed oc_require_degrees kV_require_degrees dc_require_degrees pm_require_degrees cd_require_degrees ct_require_degrees oc_is_below kV_is_below dc_is_below pm_is_below cd_is_below ct_is_below oc_pure_degrees kV_pure_degrees dc_pure_degrees pm_pure_degrees cd_pure_degrees ct_pure_degrees oc_require_two_degrees kV_require_two_degrees dc_require_two_degrees pm_require_two_degrees cd_require_two_degrees ct_require_two_degrees oc_lower_of kV_lower_of dc_lower_of pm_lower_of cd_lower_of ct_lower_of oc_upper_of kV_upper_of dc_upper_of pm_upper_of cd_upper_of ct_upper_of oc_qpot kV_qpot dc_qpot pm_qpot cd_qpot ct_qpot oc_qdip kV_qdip dc_qdip pm_qdip cd_qdip ct_qdip oc_qpick kV_qpick dc_qpick pm_qpick cd_qpick ct_qpick oc_qdegrees kV_qdegrees dc_qdegrees pm_qdegrees cd_qdegrees ct_qdegrees oc_qis_below kV_qis_below dc_qis_below pm_qis_below cd_qis_below ct_qis_below oc_qright kV_qright dc_qright pm_qright cd_qright ct_qright oc_law kV_law dc_law pm_law cd_law ct_law : Value}
    (a_is_whole : PySem.W.nsIn K mainGlobals "is_whole" = some (some (.ref f_is_whole))) (l_is_whole : K.lookup f_is_whole = some ⟨oc_is_whole, od_is_whole, .func (PySem.W.fnOf "is_whole" "is_whole" (defArgs s_is_whole) (defBody s_is_whole) (defScope s_is_whole) .none kV_is_whole dc_is_whole pm_is_whole an_is_whole cd_is_whole ct_is_whole), sl_is_whole⟩) (c_is_whole : PySem.W.codeIn K cd_is_whole "is_whole" = true) (k_is_whole : PySem.W.keepIn K (.ref f_is_whole) = true)
    (a_is_within : PySem.W.nsIn K mainGlobals "is_within" = some (some (.ref f_is_within))) (l_is_within : K.lookup f_is_within = some ⟨oc_is_within, od_is_within, .func (PySem.W.fnOf "is_within" "is_within" (defArgs s_is_within) (defBody s_is_within) (defScope s_is_within) .none kV_is_within dc_is_within pm_is_within an_is_within cd_is_within ct_is_within), sl_is_within⟩) (c_is_within : PySem.W.codeIn K cd_is_within "is_within" = true) (k_is_within : PySem.W.keepIn K (.ref f_is_within) = true)
    (a_require_within : PySem.W.nsIn K mainGlobals "require_within" = some (some (.ref f_require_within))) (l_require_within : K.lookup f_require_within = some ⟨oc_require_within, od_require_within, .func (PySem.W.fnOf "require_within" "require_within" (defArgs s_require_within) (defBody s_require_within) (defScope s_require_within) .none kV_require_within dc_require_within pm_require_within an_require_within cd_require_within ct_require_within), sl_require_within⟩) (c_require_within : PySem.W.codeIn K cd_require_within "require_within" = true) (k_require_within : PySem.W.keepIn K (.ref f_require_within) = true)
    (a_is_pure_degrees : PySem.W.nsIn K mainGlobals "is_pure_degrees" = some (some (.ref f_is_pure_degrees))) (l_is_pure_degrees : K.lookup f_is_pure_degrees = some ⟨oc_is_pure_degrees, od_is_pure_degrees, .func (PySem.W.fnOf "is_pure_degrees" "is_pure_degrees" (defArgs s_is_pure_degrees) (defBody s_is_pure_degrees) (defScope s_is_pure_degrees) .none kV_is_pure_degrees dc_is_pure_degrees pm_is_pure_degrees an_is_pure_degrees cd_is_pure_degrees ct_is_pure_degrees), sl_is_pure_degrees⟩) (c_is_pure_degrees : PySem.W.codeIn K cd_is_pure_degrees "is_pure_degrees" = true) (k_is_pure_degrees : PySem.W.keepIn K (.ref f_is_pure_degrees) = true)
    (a_is_below_in : PySem.W.nsIn K mainGlobals "is_below_in" = some (some (.ref f_is_below_in))) (l_is_below_in : K.lookup f_is_below_in = some ⟨oc_is_below_in, od_is_below_in, .func (PySem.W.fnOf "is_below_in" "is_below_in" (defArgs s_is_below_in) (defBody s_is_below_in) (defScope s_is_below_in) .none kV_is_below_in dc_is_below_in pm_is_below_in an_is_below_in cd_is_below_in ct_is_below_in), sl_is_below_in⟩) (c_is_below_in : PySem.W.codeIn K cd_is_below_in "is_below_in" = true) (k_is_below_in : PySem.W.keepIn K (.ref f_is_below_in) = true)
    (a_windowed : PySem.W.nsIn K mainGlobals "windowed" = some (some (.ref f_windowed))) (l_windowed : K.lookup f_windowed = some ⟨oc_windowed, od_windowed, .func (PySem.W.fnOf "windowed" "windowed" (defArgs s_windowed) (defBody s_windowed) (defScope s_windowed) .none kV_windowed dc_windowed pm_windowed an_windowed cd_windowed ct_windowed), sl_windowed⟩) (c_windowed : PySem.W.codeIn K cd_windowed "windowed" = true) (k_windowed : PySem.W.keepIn K (.ref f_windowed) = true)
    (a_require_degrees : PySem.W.nsIn K mainGlobals "require_degrees" = some (some (.ref f_require_degrees))) (l_require_degrees : K.lookup f_require_degrees = some ⟨oc_require_degrees, od_require_degrees, .func (PySem.W.fnOf "require_degrees" "require_degrees" (defArgs s_require_degrees) (defBody s_require_degrees) (defScope s_require_degrees) .none kV_require_degrees dc_require_degrees pm_require_degrees an_require_degrees cd_require_degrees ct_require_degrees), sl_require_degrees⟩) (c_require_degrees : PySem.W.codeIn K cd_require_degrees "require_degrees" = true) (k_require_degrees : PySem.W.keepIn K (.ref f_require_degrees) = true)
    (a_is_below : PySem.W.nsIn K mainGlobals "is_below" = some (some (.ref f_is_below))) (l_is_below : K.lookup f_is_below = some ⟨oc_is_below, od_is_below, .func (PySem.W.fnOf "is_below" "is_below" (defArgs s_is_below) (defBody s_is_below) (defScope s_is_below) .none kV_is_below dc_is_below pm_is_below an_is_below cd_is_below ct_is_below), sl_is_below⟩) (c_is_below : PySem.W.codeIn K cd_is_below "is_below" = true) (k_is_below : PySem.W.keepIn K (.ref f_is_below) = true)
    (a_pure_degrees : PySem.W.nsIn K mainGlobals "pure_degrees" = some (some (.ref f_pure_degrees))) (l_pure_degrees : K.lookup f_pure_degrees = some ⟨oc_pure_degrees, od_pure_degrees, .func (PySem.W.fnOf "pure_degrees" "pure_degrees" (defArgs s_pure_degrees) (defBody s_pure_degrees) (defScope s_pure_degrees) .none kV_pure_degrees dc_pure_degrees pm_pure_degrees an_pure_degrees cd_pure_degrees ct_pure_degrees), sl_pure_degrees⟩) (c_pure_degrees : PySem.W.codeIn K cd_pure_degrees "pure_degrees" = true) (k_pure_degrees : PySem.W.keepIn K (.ref f_pure_degrees) = true)
    (a_require_two_degrees : PySem.W.nsIn K mainGlobals "require_two_degrees" = some (some (.ref f_require_two_degrees))) (l_require_two_degrees : K.lookup f_require_two_degrees = some ⟨oc_require_two_degrees, od_require_two_degrees, .func (PySem.W.fnOf "require_two_degrees" "require_two_degrees" (defArgs s_require_two_degrees) (defBody s_require_two_degrees) (defScope s_require_two_degrees) .none kV_require_two_degrees dc_require_two_degrees pm_require_two_degrees an_require_two_degrees cd_require_two_degrees ct_require_two_degrees), sl_require_two_degrees⟩) (c_require_two_degrees : PySem.W.codeIn K cd_require_two_degrees "require_two_degrees" = true) (k_require_two_degrees : PySem.W.keepIn K (.ref f_require_two_degrees) = true)
    (a_lower_of : PySem.W.nsIn K mainGlobals "lower_of" = some (some (.ref f_lower_of))) (l_lower_of : K.lookup f_lower_of = some ⟨oc_lower_of, od_lower_of, .func (PySem.W.fnOf "lower_of" "lower_of" (defArgs s_lower_of) (defBody s_lower_of) (defScope s_lower_of) .none kV_lower_of dc_lower_of pm_lower_of an_lower_of cd_lower_of ct_lower_of), sl_lower_of⟩) (c_lower_of : PySem.W.codeIn K cd_lower_of "lower_of" = true) (k_lower_of : PySem.W.keepIn K (.ref f_lower_of) = true)
    (a_upper_of : PySem.W.nsIn K mainGlobals "upper_of" = some (some (.ref f_upper_of))) (l_upper_of : K.lookup f_upper_of = some ⟨oc_upper_of, od_upper_of, .func (PySem.W.fnOf "upper_of" "upper_of" (defArgs s_upper_of) (defBody s_upper_of) (defScope s_upper_of) .none kV_upper_of dc_upper_of pm_upper_of an_upper_of cd_upper_of ct_upper_of), sl_upper_of⟩) (c_upper_of : PySem.W.codeIn K cd_upper_of "upper_of" = true) (k_upper_of : PySem.W.keepIn K (.ref f_upper_of) = true)
    (a_qpot : PySem.W.nsIn K mainGlobals "_law_pot" = some (some (.ref f_qpot))) (l_qpot : K.lookup f_qpot = some ⟨oc_qpot, od_qpot, .func (PySem.W.fnOf "_law_pot" "_law_pot" (defArgs s_qpot) (defBody s_qpot) (defScope s_qpot) .none kV_qpot dc_qpot pm_qpot an_qpot cd_qpot ct_qpot), sl_qpot⟩) (c_qpot : PySem.W.codeIn K cd_qpot "_law_pot" = true) (k_qpot : PySem.W.keepIn K (.ref f_qpot) = true)
    (a_qdip : PySem.W.nsIn K mainGlobals "_law_dip" = some (some (.ref f_qdip))) (l_qdip : K.lookup f_qdip = some ⟨oc_qdip, od_qdip, .func (PySem.W.fnOf "_law_dip" "_law_dip" (defArgs s_qdip) (defBody s_qdip) (defScope s_qdip) .none kV_qdip dc_qdip pm_qdip an_qdip cd_qdip ct_qdip), sl_qdip⟩) (c_qdip : PySem.W.codeIn K cd_qdip "_law_dip" = true) (k_qdip : PySem.W.keepIn K (.ref f_qdip) = true)
    (a_qpick : PySem.W.nsIn K mainGlobals "_law_pick" = some (some (.ref f_qpick))) (l_qpick : K.lookup f_qpick = some ⟨oc_qpick, od_qpick, .func (PySem.W.fnOf "_law_pick" "_law_pick" (defArgs s_qpick) (defBody s_qpick) (defScope s_qpick) .none kV_qpick dc_qpick pm_qpick an_qpick cd_qpick ct_qpick), sl_qpick⟩) (c_qpick : PySem.W.codeIn K cd_qpick "_law_pick" = true) (k_qpick : PySem.W.keepIn K (.ref f_qpick) = true)
    (a_qdegrees : PySem.W.nsIn K mainGlobals "_law_degrees" = some (some (.ref f_qdegrees))) (l_qdegrees : K.lookup f_qdegrees = some ⟨oc_qdegrees, od_qdegrees, .func (PySem.W.fnOf "_law_degrees" "_law_degrees" (defArgs s_qdegrees) (defBody s_qdegrees) (defScope s_qdegrees) .none kV_qdegrees dc_qdegrees pm_qdegrees an_qdegrees cd_qdegrees ct_qdegrees), sl_qdegrees⟩) (c_qdegrees : PySem.W.codeIn K cd_qdegrees "_law_degrees" = true) (k_qdegrees : PySem.W.keepIn K (.ref f_qdegrees) = true)
    (a_qis_below : PySem.W.nsIn K mainGlobals "_law_is_below" = some (some (.ref f_qis_below))) (l_qis_below : K.lookup f_qis_below = some ⟨oc_qis_below, od_qis_below, .func (PySem.W.fnOf "_law_is_below" "_law_is_below" (defArgs s_qis_below) (defBody s_qis_below) (defScope s_qis_below) .none kV_qis_below dc_qis_below pm_qis_below an_qis_below cd_qis_below ct_qis_below), sl_qis_below⟩) (c_qis_below : PySem.W.codeIn K cd_qis_below "_law_is_below" = true) (k_qis_below : PySem.W.keepIn K (.ref f_qis_below) = true)
    (a_qright : PySem.W.nsIn K mainGlobals "_law_right" = some (some (.ref f_qright))) (l_qright : K.lookup f_qright = some ⟨oc_qright, od_qright, .func (PySem.W.fnOf "_law_right" "_law_right" (defArgs s_qright) (defBody s_qright) (defScope s_qright) .none kV_qright dc_qright pm_qright an_qright cd_qright ct_qright), sl_qright⟩) (c_qright : PySem.W.codeIn K cd_qright "_law_right" = true) (k_qright : PySem.W.keepIn K (.ref f_qright) = true)
    (a_law : PySem.W.nsIn K mainGlobals "law" = some (some (.ref f_law))) (l_law : K.lookup f_law = some ⟨oc_law, od_law, .func (PySem.W.fnOf "law" "law" (defArgs s_law) (defBody s_law) (defScope s_law) .none kV_law dc_law pm_law an_law cd_law ct_law), sl_law⟩) (c_law : PySem.W.codeIn K cd_law "law" = true) (k_law : PySem.W.keepIn K (.ref f_law) = true)
    (z_abs : PySem.W.nsIn K mainGlobals "abs" = some none)
    (z_all : PySem.W.nsIn K mainGlobals "all" = some none)
    (z_bool : PySem.W.nsIn K mainGlobals "bool" = some none)
    (z_int : PySem.W.nsIn K mainGlobals "int" = some none)
    (z_isinstance : PySem.W.nsIn K mainGlobals "isinstance" = some none)
    (z_len : PySem.W.nsIn K mainGlobals "len" = some none)
    (z_list : PySem.W.nsIn K mainGlobals "list" = some none)
    (z_max : PySem.W.nsIn K mainGlobals "max" = some none)
    (z_min : PySem.W.nsIn K mainGlobals "min" = some none)
    (z_range : PySem.W.nsIn K mainGlobals "range" = some none)
    (z_set : PySem.W.nsIn K mainGlobals "set" = some none)
    (z_sorted : PySem.W.nsIn K mainGlobals "sorted" = some none)
    (z_tuple : PySem.W.nsIn K mainGlobals "tuple" = some none)
    (z_zip : PySem.W.nsIn K mainGlobals "zip" = some none)
    (y_MAX_PLACE : PySem.W.nsIn K mainGlobals "MAX_PLACE" = some (some (.int 480 t_MAX_PLACE)))
    (y_MAX_STEP : PySem.W.nsIn K mainGlobals "MAX_STEP" = some (some (.int 8 t_MAX_STEP)))
    (y_MOST_LAST : PySem.W.nsIn K mainGlobals "MOST_LAST" = some (some (.int 3 t_MOST_LAST)))
    (y_MOST_MOST : PySem.W.nsIn K mainGlobals "MOST_MOST" = some (some (.int 5 t_MOST_MOST)))
    : ∃ fd : FuncData, (∀ (s : Shared) (v : Value), BindsTo s fd ⟨[v], []⟩ [("_law_script", v)]) ∧ ∀ base : Heap, K.In base → base.Ns mainGlobals mg → FnOk l.prog w K mg base CX0 8 fa fd ["_law_script"] (upSp K sp_law) := by
  have e := hfa.symm.trans (PySem.W.mg_of X G a_law)
  have e2 : fa = f_law := by cases e; rfl
  rw [e2]
  have T : Txt K mg t_MAX_PLACE t_MAX_STEP t_MOST_LAST t_MOST_MOST := ⟨PySem.W.mg_none_of X G z_abs, PySem.W.mg_none_of X G z_all, PySem.W.mg_none_of X G z_bool, PySem.W.mg_none_of X G z_int, PySem.W.mg_none_of X G z_isinstance, PySem.W.mg_none_of X G z_len, PySem.W.mg_none_of X G z_list, PySem.W.mg_none_of X G z_max, PySem.W.mg_none_of X G z_min, PySem.W.mg_none_of X G z_range, PySem.W.mg_none_of X G z_set, PySem.W.mg_none_of X G z_sorted, PySem.W.mg_none_of X G z_tuple, PySem.W.mg_none_of X G z_zip, PySem.W.mg_of X G y_MAX_PLACE, PySem.W.mg_of X G y_MAX_STEP, PySem.W.mg_of X G y_MOST_LAST, PySem.W.mg_of X G y_MOST_MOST⟩
  have F_is_whole := fun_mk (st := s_is_whole) l_is_whole c_is_whole k_is_whole
  have D_is_whole : Dfn K mg "is_whole" s_is_whole ["value"] f_is_whole _ := ⟨F_is_whole, PySem.W.mg_of X G a_is_whole, F_is_whole.binds fun _ _ _ _ _ _ us hl => match us, hl with | [_], _ => rfl⟩
  have F_is_within := fun_mk (st := s_is_within) l_is_within c_is_within k_is_within
  have D_is_within : Dfn K mg "is_within" s_is_within ["value", "least", "greatest"] f_is_within _ := ⟨F_is_within, PySem.W.mg_of X G a_is_within, F_is_within.binds fun _ _ _ _ _ _ us hl => match us, hl with | [_, _, _], _ => rfl⟩
  have F_require_within := fun_mk (st := s_require_within) l_require_within c_require_within k_require_within
  have D_require_within : Dfn K mg "require_within" s_require_within ["value", "least", "greatest"] f_require_within _ := ⟨F_require_within, PySem.W.mg_of X G a_require_within, F_require_within.binds fun _ _ _ _ _ _ us hl => match us, hl with | [_, _, _], _ => rfl⟩
  have F_is_pure_degrees := fun_mk (st := s_is_pure_degrees) l_is_pure_degrees c_is_pure_degrees k_is_pure_degrees
  have D_is_pure_degrees : Dfn K mg "is_pure_degrees" s_is_pure_degrees ["value"] f_is_pure_degrees _ := ⟨F_is_pure_degrees, PySem.W.mg_of X G a_is_pure_degrees, F_is_pure_degrees.binds fun _ _ _ _ _ _ us hl => match us, hl with | [_], _ => rfl⟩
  have F_is_below_in := fun_mk (st := s_is_below_in) l_is_below_in c_is_below_in k_is_below_in
  have D_is_below_in : Dfn K mg "is_below_in" s_is_below_in ["one", "other"] f_is_below_in _ := ⟨F_is_below_in, PySem.W.mg_of X G a_is_below_in, F_is_below_in.binds fun _ _ _ _ _ _ us hl => match us, hl with | [_, _], _ => rfl⟩
  have F_windowed := fun_mk (st := s_windowed) l_windowed c_windowed k_windowed
  have D_windowed : Dfn K mg "windowed" s_windowed ["last", "most"] f_windowed _ := ⟨F_windowed, PySem.W.mg_of X G a_windowed, F_windowed.binds fun _ _ _ _ _ _ us hl => match us, hl with | [_, _], _ => rfl⟩
  have F_require_degrees := fun_mk (st := s_require_degrees) l_require_degrees c_require_degrees k_require_degrees
  have D_require_degrees : Dfn K mg "require_degrees" s_require_degrees ["value"] f_require_degrees _ := ⟨F_require_degrees, PySem.W.mg_of X G a_require_degrees, F_require_degrees.binds fun _ _ _ _ _ _ us hl => match us, hl with | [_], _ => rfl⟩
  have F_is_below := fun_mk (st := s_is_below) l_is_below c_is_below k_is_below
  have D_is_below : Dfn K mg "is_below" s_is_below ["value", "other"] f_is_below _ := ⟨F_is_below, PySem.W.mg_of X G a_is_below, F_is_below.binds fun _ _ _ _ _ _ us hl => match us, hl with | [_, _], _ => rfl⟩
  have F_pure_degrees := fun_mk (st := s_pure_degrees) l_pure_degrees c_pure_degrees k_pure_degrees
  have D_pure_degrees : Dfn K mg "pure_degrees" s_pure_degrees ["last", "most"] f_pure_degrees _ := ⟨F_pure_degrees, PySem.W.mg_of X G a_pure_degrees, F_pure_degrees.binds fun _ _ _ _ _ _ us hl => match us, hl with | [_, _], _ => rfl⟩
  have F_require_two_degrees := fun_mk (st := s_require_two_degrees) l_require_two_degrees c_require_two_degrees k_require_two_degrees
  have D_require_two_degrees : Dfn K mg "require_two_degrees" s_require_two_degrees ["one", "other"] f_require_two_degrees _ := ⟨F_require_two_degrees, PySem.W.mg_of X G a_require_two_degrees, F_require_two_degrees.binds fun _ _ _ _ _ _ us hl => match us, hl with | [_, _], _ => rfl⟩
  have F_lower_of := fun_mk (st := s_lower_of) l_lower_of c_lower_of k_lower_of
  have D_lower_of : Dfn K mg "lower_of" s_lower_of ["one", "other"] f_lower_of _ := ⟨F_lower_of, PySem.W.mg_of X G a_lower_of, F_lower_of.binds fun _ _ _ _ _ _ us hl => match us, hl with | [_, _], _ => rfl⟩
  have F_upper_of := fun_mk (st := s_upper_of) l_upper_of c_upper_of k_upper_of
  have D_upper_of : Dfn K mg "upper_of" s_upper_of ["one", "other"] f_upper_of _ := ⟨F_upper_of, PySem.W.mg_of X G a_upper_of, F_upper_of.binds fun _ _ _ _ _ _ us hl => match us, hl with | [_, _], _ => rfl⟩
  have F_qpot := fun_mk (st := s_qpot) l_qpot c_qpot k_qpot
  have D_qpot : Dfn K mg "_law_pot" s_qpot ["_law_script", "_law_at"] f_qpot _ := ⟨F_qpot, PySem.W.mg_of X G a_qpot, F_qpot.binds fun _ _ _ _ _ _ us hl => match us, hl with | [_, _], _ => rfl⟩
  have F_qdip := fun_mk (st := s_qdip) l_qdip c_qdip k_qdip
  have D_qdip : Dfn K mg "_law_dip" s_qdip ["_law_pot_here", "_law_total"] f_qdip _ := ⟨F_qdip, PySem.W.mg_of X G a_qdip, F_qdip.binds fun _ _ _ _ _ _ us hl => match us, hl with | [_, _], _ => rfl⟩
  have F_qpick := fun_mk (st := s_qpick) l_qpick c_qpick k_qpick
  have D_qpick : Dfn K mg "_law_pick" s_qpick ["_law_pot_here", "_law_items"] f_qpick _ := ⟨F_qpick, PySem.W.mg_of X G a_qpick, F_qpick.binds fun _ _ _ _ _ _ us hl => match us, hl with | [_, _], _ => rfl⟩
  have F_qdegrees := fun_mk (st := s_qdegrees) l_qdegrees c_qdegrees k_qdegrees
  have D_qdegrees : Dfn K mg "_law_degrees" s_qdegrees ["_law_pot_here", "_law_most"] f_qdegrees _ := ⟨F_qdegrees, PySem.W.mg_of X G a_qdegrees, F_qdegrees.binds fun _ _ _ _ _ _ us hl => match us, hl with | [_, _], _ => rfl⟩
  have F_qis_below := fun_mk (st := s_qis_below) l_qis_below c_qis_below k_qis_below
  have D_qis_below : Dfn K mg "_law_is_below" s_qis_below ["_law_one", "_law_other"] f_qis_below _ := ⟨F_qis_below, PySem.W.mg_of X G a_qis_below, F_qis_below.binds fun _ _ _ _ _ _ us hl => match us, hl with | [_, _], _ => rfl⟩
  have F_qright := fun_mk (st := s_qright) l_qright c_qright k_qright
  have D_qright : Dfn K mg "_law_right" s_qright ["_law_pot_here"] f_qright _ := ⟨F_qright, PySem.W.mg_of X G a_qright, F_qright.binds fun _ _ _ _ _ _ us hl => match us, hl with | [_], _ => rfl⟩
  have F_law := fun_mk (st := s_law) l_law c_law k_law
  have D_law : Dfn K mg "law" s_law ["_law_script"] f_law _ := ⟨F_law, PySem.W.mg_of X G a_law, F_law.binds fun _ _ _ _ _ _ us hl => match us, hl with | [_], _ => rfl⟩
  refine law_end D_law (fun s v => .of_eq rfl) fun base _ _ => ?_
  have G_is_whole := ok_is_whole (P := l.prog) (w := w) (base := base) D_is_whole T
  have G_is_within := ok_is_within (P := l.prog) (w := w) (base := base) D_is_within T D_is_whole G_is_whole
  have G_require_within := ok_require_within (P := l.prog) (w := w) (base := base) D_require_within T D_is_within G_is_within
  have G_is_pure_degrees := ok_is_pure_degrees (P := l.prog) (w := w) (base := base) D_is_pure_degrees T D_is_within G_is_within
  have G_is_below_in := ok_is_below_in (P := l.prog) (w := w) (base := base) D_is_below_in T
  have G_windowed := ok_windowed (P := l.prog) (w := w) (base := base) D_windowed T
  have G_require_degrees := ok_require_degrees (P := l.prog) (w := w) (base := base) D_require_degrees T D_is_pure_degrees G_is_pure_degrees
  have G_is_below := ok_is_below (P := l.prog) (w := w) (base := base) D_is_below T D_is_below_in G_is_below_in D_is_pure_degrees G_is_pure_degrees D_require_degrees G_require_degrees
  have G_pure_degrees := ok_pure_degrees (P := l.prog) (w := w) (base := base) D_pure_degrees T D_windowed G_windowed D_require_within G_require_within
  have G_require_two_degrees := ok_require_two_degrees (P := l.prog) (w := w) (base := base) D_require_two_degrees T D_require_degrees G_require_degrees
  have G_lower_of := ok_lower_of (P := l.prog) (w := w) (base := base) D_lower_of T D_require_two_degrees G_require_two_degrees
  have G_upper_of := ok_upper_of (P := l.prog) (w := w) (base := base) D_upper_of T D_require_two_degrees G_require_two_degrees
  have G_qpot := ok_qpot (P := l.prog) (w := w) (base := base) D_qpot T
  have G_qdip := ok_qdip (P := l.prog) (w := w) (base := base) D_qdip T
  have G_qpick := ok_qpick (P := l.prog) (w := w) (base := base) D_qpick T D_qdip G_qdip
  have G_qdegrees := ok_qdegrees (P := l.prog) (w := w) (base := base) D_qdegrees T D_qdip G_qdip
  have G_qis_below := ok_qis_below (P := l.prog) (w := w) (base := base) D_qis_below T
  have G_qright := ok_qright (P := l.prog) (w := w) (base := base) D_qright T D_pure_degrees G_pure_degrees D_qis_below G_qis_below D_is_below G_is_below D_upper_of G_upper_of D_lower_of G_lower_of D_qdegrees G_qdegrees D_qpick G_qpick
  have G_law := ok_law (P := l.prog) (w := w) (base := base) D_law T D_upper_of G_upper_of D_lower_of G_lower_of D_qright G_qright D_qpot G_qpot
  exact G_law

end DL
open PySem PySem.W PyProof.Rows in
set_option maxRecDepth 100000 in
set_option maxHeartbeats 0 in
theorem PySem.Challenge.cw_pureladders_k78_whole_lower_and_upper_de_holds : PySem.Challenge.rw_pureladders_k78_whole_lower_and_upper_de.Holds := by
  w_on; o_law; k_head; (case hw => w_witness2)
  k_fill
  refine L2.walk_ofB (l := PySem.Challenge.rw_pureladders_k78_whole_lower_and_upper_de) (n := 63) (k := 8) (x := "_law_script") (CX := fun _ => L2.CX0) (sp := fun w => DL.upSp _ DL.sp_law) rfl (by decide) rfl ⟨rfl, by decide, by decide⟩ (fun w h Y => PySem.W.kIn_of Y) ?F (fun w H a ns h1 h2 h3 h4 => DL.law_start h3 h4 ⟨_, rfl, rfl⟩) (fun _ _ _ _ _ z => z)
  case F =>
    intro w mg fa h KX G hmg
    refine' DL.all_mk KX G hmg ?a_is_whole ?l_is_whole ?c_is_whole ?k_is_whole ?a_is_within ?l_is_within ?c_is_within ?k_is_within ?a_require_within ?l_require_within ?c_require_within ?k_require_within ?a_is_pure_degrees ?l_is_pure_degrees ?c_is_pure_degrees ?k_is_pure_degrees ?a_is_below_in ?l_is_below_in ?c_is_below_in ?k_is_below_in ?a_windowed ?l_windowed ?c_windowed ?k_windowed ?a_require_degrees ?l_require_degrees ?c_require_degrees ?k_require_degrees ?a_is_below ?l_is_below ?c_is_below ?k_is_below ?a_pure_degrees ?l_pure_degrees ?c_pure_degrees ?k_pure_degrees ?a_require_two_degrees ?l_require_two_degrees ?c_require_two_degrees ?k_require_two_degrees ?a_lower_of ?l_lower_of ?c_lower_of ?k_lower_of ?a_upper_of ?l_upper_of ?c_upper_of ?k_upper_of ?a_qpot ?l_qpot ?c_qpot ?k_qpot ?a_qdip ?l_qdip ?c_qdip ?k_qdip ?a_qpick ?l_qpick ?c_qpick ?k_qpick ?a_qdegrees ?l_qdegrees ?c_qdegrees ?k_qdegrees ?a_qis_below ?l_qis_below ?c_qis_below ?k_qis_below ?a_qright ?l_qright ?c_qright ?k_qright ?a_law ?l_law ?c_law ?k_law ?z_abs ?z_all ?z_bool ?z_int ?z_isinstance ?z_len ?z_list ?z_max ?z_min ?z_range ?z_set ?z_sorted ?z_tuple ?z_zip ?y_MAX_PLACE ?y_MAX_STEP ?y_MOST_LAST ?y_MOST_MOST
    (case a_is_whole => k_is)
    (case l_is_whole => k_is)
    (case c_is_whole => k_is)
    (case k_is_whole => k_is)
    (case a_is_within => k_is)
    (case l_is_within => k_is)
    (case c_is_within => k_is)
    (case k_is_within => k_is)
    (case a_require_within => k_is)
    (case l_require_within => k_is)
    (case c_require_within => k_is)
    (case k_require_within => k_is)
    (case a_is_pure_degrees => k_is)
    (case l_is_pure_degrees => k_is)
    (case c_is_pure_degrees => k_is)
    (case k_is_pure_degrees => k_is)
    (case a_is_below_in => k_is)
    (case l_is_below_in => k_is)
    (case c_is_below_in => k_is)
    (case k_is_below_in => k_is)
    (case a_windowed => k_is)
    (case l_windowed => k_is)
    (case c_windowed => k_is)
    (case k_windowed => k_is)
    (case a_require_degrees => k_is)
    (case l_require_degrees => k_is)
    (case c_require_degrees => k_is)
    (case k_require_degrees => k_is)
    (case a_is_below => k_is)
    (case l_is_below => k_is)
    (case c_is_below => k_is)
    (case k_is_below => k_is)
    (case a_pure_degrees => k_is)
    (case l_pure_degrees => k_is)
    (case c_pure_degrees => k_is)
    (case k_pure_degrees => k_is)
    (case a_require_two_degrees => k_is)
    (case l_require_two_degrees => k_is)
    (case c_require_two_degrees => k_is)
    (case k_require_two_degrees => k_is)
    (case a_lower_of => k_is)
    (case l_lower_of => k_is)
    (case c_lower_of => k_is)
    (case k_lower_of => k_is)
    (case a_upper_of => k_is)
    (case l_upper_of => k_is)
    (case c_upper_of => k_is)
    (case k_upper_of => k_is)
    (case a_qpot => k_is)
    (case l_qpot => k_is)
    (case c_qpot => k_is)
    (case k_qpot => k_is)
    (case a_qdip => k_is)
    (case l_qdip => k_is)
    (case c_qdip => k_is)
    (case k_qdip => k_is)
    (case a_qpick => k_is)
    (case l_qpick => k_is)
    (case c_qpick => k_is)
    (case k_qpick => k_is)
    (case a_qdegrees => k_is)
    (case l_qdegrees => k_is)
    (case c_qdegrees => k_is)
    (case k_qdegrees => k_is)
    (case a_qis_below => k_is)
    (case l_qis_below => k_is)
    (case c_qis_below => k_is)
    (case k_qis_below => k_is)
    (case a_qright => k_is)
    (case l_qright => k_is)
    (case c_qright => k_is)
    (case k_qright => k_is)
    (case a_law => k_is)
    (case l_law => k_is)
    (case c_law => k_is)
    (case k_law => k_is)
    (case z_abs => k_is)
    (case z_all => k_is)
    (case z_bool => k_is)
    (case z_int => k_is)
    (case z_isinstance => k_is)
    (case z_len => k_is)
    (case z_list => k_is)
    (case z_max => k_is)
    (case z_min => k_is)
    (case z_range => k_is)
    (case z_set => k_is)
    (case z_sorted => k_is)
    (case z_tuple => k_is)
    (case z_zip => k_is)
    (case y_MAX_PLACE => k_is)
    (case y_MAX_STEP => k_is)
    (case y_MOST_LAST => k_is)
    (case y_MOST_MOST => k_is)
#print axioms PySem.Challenge.cw_pureladders_k78_whole_lower_and_upper_de_holds
