import PyProof.Rows.All
import Wide.All
import OpenK.AllK
import Wide.FinOn
import HandS.ForMost
import HandS.Walk
import HandS.Zip
import HandS.IsInst
import HandS.SlotsOwn
import HandS.Lambda
import HandS.TupAny
import HandS.Style
import HandS.Flow
import HandS.EndBits
import HandS.SortInts
import HandS.Deep
import HandS.Wide
import KE.SortData
import HandS.Star
import HandS.Strs
import HandS.More
import HandS.Conv
import HandS.SetFor
import HandS.Gcd
import KE.KMathGC
import KE.KCallOwn
import KE.KFmtOwn
import PyProof.DictCompW
import HandS.DictComp
import KE.SortKeyHeap
import KE.KTupSum
import KE.KDictSum
import HandS.SortKw
import HandS.TupSets
import HandS.IterVal
import KE.GoesMore
import HandS.FStr
import HandS.Small
import HandS.TupMul
import HandS.Text
import PyProof.ListNew
import KE.KTupTruth
import PyProof.ListTruth
import PyProof.WalksMore
import PyProof.CollectWalk
import HandS.TupLen
import KE.KEqNest
import KE.KEqDict
import KE.KDictCopyH
import KE.KDictPairs
import KE.KDictKeyed
import KE.KDictOf
import KE.KOpsOwn
import KE.DatumOrd
import HandS.Defaults
import HandS.HeadHook2
import KE.KDictDisplayH
import KE.KDictWalk
import KE.GoesZip
import KE.KTurns
import KE.KDictZip
import PyProof.Rows.ZipGen
import KE.KDictItemsList
import PyProof.StrLaws
import HandS.Exc
import HandS.TryMany
import HandS.ExcOwn
import HandS.WordsExc
import HandS.ExcField
import HandS.EndTab
import KE.KExcSuper
import HandS.ExcInit
import PyProof.DictMoreH
import HandS.DictTup
import KE.DataMinMax
import HandS.Sort
import HandS.DictEq
import HandS.ExcValue
import PyProof.Draws
import PyProof.ReprRoads
import PySem.Challenge.RW_pureladders_k40_whole_holes_by_ranks
set_option Elab.async false
set_option linter.all false
set_option maxRecDepth 100000
set_option maxHeartbeats 8100000
/-! Deep layer A: values by content (tuples, lists that no one changes), the heap of what is changed, judgements "up". -/
namespace DL
open PySem PySem.Spec PyProof.Rows L2

abbrev Fg := PySem.W.Frag
inductive DV where
  | non | bl (b : Bool) | int (i : Int) | str (x : Str) | ref (a : Addr) | ty (n : String)
  | tup (ds : List DV) | lst (ds : List DV) | scr (ns : List Int) | dK (ks : List Key) (ds : List DV) | dT (ks : List (List Key)) (ds : List DV) | ins (C : Addr) (ds : List DV) | exc (a d : Addr) (f : Str) (u : DV) | lam (f c : Addr) (q : Str) (ds : List DV) (vs : List V) | tpl (ds : List DV)
deriving Inhabited
/-- a changing thing: a list, a dict -/
inductive DO where
  | lst (ds : List DV)
  | dK (ks : List Key) (ds : List DV) | dT (ks : List (List Key)) (ds : List DV) | ins (C : Addr) (ds : List (Option DV)) | tbl (q : Str)
abbrev DG := Addr → Option DO
abbrev DS := List (Option DV)
def gup (g : DG) (p : Addr) (o : DO) : DG := fun b => if b = p then some o else g b
def gdel (g : DG) (p : Addr) : DG := fun b => if b = p then none else g b
theorem gup_same {g : DG} {p : Addr} {o : DO} : gup g p o p = some o := by unfold gup; rw [if_pos rfl]
theorem gup_ne {g : DG} {p b : Addr} {o : DO} (h : b ≠ p) : gup g p o b = g b := by unfold gup; rw [if_neg h]
theorem gup_gup {g : DG} {p : Addr} {o o' : DO} : gup (gup g p o) p o' = gup g p o' := by
  funext b; unfold gup; split <;> rfl

def FzL (_ : Fg) (H : Hp) (a : Addr) (xs : List V) : Prop := ∃ o, H a = some (.frz o (.lst xs))
theorem FzL.sq {K : Fg} {H : Hp} {a : Addr} {xs : List V} (h : FzL K H a xs) : SqL K H a xs := by
  obtain ⟨o, h⟩ := h
  exact .inl (.inr ⟨o, h⟩)

/-- a list of ints that no one changes, be it locked or a part of the fixed heap -/
def ScL (K : Fg) (H : Hp) (a : Addr) (ns : List Int) : Prop := FzL K H a (ns.map V.int) ∨
  ∃ (o : Obj) (its : Array Value) (n : Nat), K.lookup a = some o ∧ o.cls = .type "list" ∧ o.dict = none ∧ o.data = .seq its n ∧ its.size ≤ sizeLine ∧ Vals (ns.map V.int) its.toList
theorem ScL.sq {K : Fg} {H : Hp} {a : Addr} {ns : List Int} (h : ScL K H a ns) : SqL K H a (ns.map V.int) := by
  rcases h with h | h
  · exact h.sq
  · exact .inr h

/-- a dict that no one changes: its keys, its values -/
def FzK (_ : Fg) (H : Hp) (a : Addr) (ks : List Key) (vs : List V) : Prop := ∃ o kvs, H a = some (.frz o (.dK kvs)) ∧ kvs.map (·.1) = ks ∧ kvs.map (·.2) = vs
def FzT (_ : Fg) (H : Hp) (a : Addr) (ks : List (List Key)) (vs : List V) : Prop := ∃ o kvs, H a = some (.frz o (.dT kvs)) ∧ kvs.map (·.1) = ks ∧ kvs.map (·.2) = vs
/-- a tuple whose whole object is known: it has no dict of its own -/
def TpH (_ : Fg) (H : Hp) (a : Addr) (xs : List V) : Prop := ∃ o, H a = some (.frz o (.tup xs)) ∧ o.dict = none
theorem TpH.sq {K : Fg} {H : Hp} {a : Addr} {xs : List V} (h : TpH K H a xs) : SqT K H a xs := by
  obtain ⟨o, h, _⟩ := h
  exact .inl (.inr ⟨o, h⟩)
/-- an instance with slots that no one changes any more -/
def FzI (_ : Fg) (H : Hp) (a C : Addr) (vs : List (Option V)) : Prop := ∃ od dx, H a = some (.frz od (SlX.SlO a C dx vs)) ∧ H dx = some (.xd [])
mutual
inductive RD (K : Fg) (H : Hp) : DV → V → Prop
  | non : RD K H .non .non
  | bl (b : Bool) : RD K H (.bl b) (.bl b)
  | int (i : Int) : RD K H (.int i) (.int i)
  | str (x : Str) : RD K H (.str x) (.str x)
  | ref (a : Addr) : RD K H (.ref a) (.ref a)
  | ty (n : String) : RD K H (.ty n) (.ty n)
  | tup {a : Addr} {xs : List V} {ds : List DV} : H a = some (.tup xs) → RDs K H ds xs → RD K H (.tup ds) (.ref a)
  | lst {a : Addr} {xs : List V} {ds : List DV} : FzL K H a xs → RDs K H ds xs → RD K H (.lst ds) (.ref a)
  | scr {a : Addr} {ns : List Int} : ScL K H a ns → RD K H (.scr ns) (.ref a)
  | dK {a : Addr} {ks : List Key} {vs : List V} {ds : List DV} : FzK K H a ks vs → RDs K H ds vs → RD K H (.dK ks ds) (.ref a)
  | dT {a : Addr} {ks : List (List Key)} {vs : List V} {ds : List DV} : FzT K H a ks vs → RDs K H ds vs → RD K H (.dT ks ds) (.ref a)
  | ins {a C : Addr} {vs : List V} {ds : List DV} : FzI K H a C (vs.map some) → RDs K H ds vs → RD K H (.ins C ds) (.ref a)
  | exc {a d : Addr} {f : Str} {u : DV} {v : V} : H d = some (.xd [(f, v)]) → RD K H u v → RD K H (.exc a d f u) (.ref a)
  | lam {f c : Addr} {q : Str} {ds : List DV} {vs : List V} : H c = some (LamX.CodeO c q) → RDs K H ds vs → RD K H (.lam f c q ds vs) (.ref f)
  | tpl {a : Addr} {xs : List V} {ds : List DV} : TpH K H a xs → RDs K H ds xs → RD K H (.tpl ds) (.ref a)
inductive RDs (K : Fg) (H : Hp) : List DV → List V → Prop
  | nil : RDs K H [] []
  | cons {d : DV} {v : V} {ds : List DV} {vs : List V} : RD K H d v → RDs K H ds vs → RDs K H (d :: ds) (v :: vs)
end
/-- tuples and locked things stay -/
structure Kp (H H' : Hp) : Prop where
  t : ∀ b xs, H b = some (.tup xs) → H' b = some (.tup xs)
  f : ∀ b o u, H b = some (.frz o u) → H' b = some (.frz o u)
  x : ∀ b fs, H b = some (.xd fs) → H' b = some (.xd fs)
  e : ∀ b q, H b = some (LamX.CodeO b q) → H' b = some (LamX.CodeO b q)
theorem Kp.sqT {K : Fg} {H H' : Hp} {a : Addr} {xs : List V} (k : Kp H H') (h : SqT K H a xs) : SqT K H' a xs := by
  rcases h with (h | ⟨o, h⟩) | h
  · exact .inl (.inl (k.t _ _ h))
  · exact .inl (.inr ⟨o, k.f _ _ _ h⟩)
  · exact .inr h
theorem Kp.fz {K : Fg} {H H' : Hp} {a : Addr} {xs : List V} (k : Kp H H') (h : FzL K H a xs) : FzL K H' a xs := by
  obtain ⟨o, h⟩ := h
  exact ⟨o, k.f _ _ _ h⟩
theorem Kp.sc {K : Fg} {H H' : Hp} {a : Addr} {ns : List Int} (k : Kp H H') (h : ScL K H a ns) : ScL K H' a ns := by
  rcases h with h | h
  · exact .inl (k.fz h)
  · exact .inr h
theorem Kp.fzK {K : Fg} {H H' : Hp} {a : Addr} {ks : List Key} {vs : List V} (k : Kp H H') (h : FzK K H a ks vs) : FzK K H' a ks vs := by
  obtain ⟨o, kvs, h, e⟩ := h
  exact ⟨o, kvs, k.f _ _ _ h, e⟩
theorem Kp.fzT {K : Fg} {H H' : Hp} {a : Addr} {ks : List (List Key)} {vs : List V} (k : Kp H H') (h : FzT K H a ks vs) : FzT K H' a ks vs := by
  obtain ⟨o, kvs, h, e⟩ := h
  exact ⟨o, kvs, k.f _ _ _ h, e⟩
theorem Kp.fzI {K : Fg} {H H' : Hp} {a C : Addr} {vs : List (Option V)} (k : Kp H H') (h : FzI K H a C vs) : FzI K H' a C vs := by
  obtain ⟨od, dx, h, e⟩ := h
  exact ⟨od, dx, k.f _ _ _ h, k.x _ _ e⟩
theorem Kp.tp {K : Fg} {H H' : Hp} {a : Addr} {xs : List V} (k : Kp H H') (h : TpH K H a xs) : TpH K H' a xs := by
  obtain ⟨o, h, e⟩ := h
  exact ⟨o, k.f _ _ _ h, e⟩
mutual
theorem RD.mono {K : Fg} {H H' : Hp} (k : Kp H H') : ∀ {d : DV} {v : V}, RD K H d v → RD K H' d v
  | _, _, .non => .non
  | _, _, .bl b => .bl b
  | _, _, .int i => .int i
  | _, _, .str x => .str x
  | _, _, .ref a => .ref a
  | _, _, .ty n => .ty n
  | _, _, .tup h r => .tup (k.t _ _ h) (RDs.mono k r)
  | _, _, .lst h r => .lst (k.fz h) (RDs.mono k r)
  | _, _, .scr h => .scr (k.sc h)
  | _, _, .dK h r => .dK (k.fzK h) (RDs.mono k r)
  | _, _, .dT h r => .dT (k.fzT h) (RDs.mono k r)
  | _, _, .ins h r => .ins (k.fzI h) (RDs.mono k r)
  | _, _, .exc h r => .exc (k.x _ _ h) (RD.mono k r)
  | _, _, .lam h r => .lam (k.e _ _ h) (RDs.mono k r)
  | _, _, .tpl h r => .tpl (k.tp h) (RDs.mono k r)
theorem RDs.mono {K : Fg} {H H' : Hp} (k : Kp H H') : ∀ {ds : List DV} {vs : List V}, RDs K H ds vs → RDs K H' ds vs
  | _, _, .nil => .nil
  | _, _, .cons r t => .cons (RD.mono k r) (RDs.mono k t)
end
section
variable {K : Fg} {H H' : Hp}
theorem RDs.length : ∀ {ds : List DV} {vs : List V}, RDs K H ds vs → ds.length = vs.length
  | _, _, .nil => rfl
  | _, _, .cons _ t => by rw [List.length_cons, List.length_cons, RDs.length t]
theorem RDs.get : ∀ {ds : List DV} {vs : List V} {i : Nat} {d : DV}, RDs K H ds vs → ds[i]? = some d → ∃ v, vs[i]? = some v ∧ RD K H d v
  | _, _, _, _, .nil, e => by simp at e
  | _, _, 0, _, .cons r _, e => by simp at e; subst e; exact ⟨_, rfl, r⟩
  | _, _, i + 1, d, .cons _ t, e => by
    obtain ⟨u, h1, h2⟩ := RDs.get (i := i) (d := d) t (by simpa using e)
    exact ⟨u, by simpa using h1, h2⟩
theorem RDs.append : ∀ {ds es : List DV} {vs us : List V}, RDs K H ds vs → RDs K H es us → RDs K H (ds ++ es) (vs ++ us)
  | _, _, _, _, .nil, s => s
  | _, _, _, _, .cons r t, s => .cons r (RDs.append t s)
theorem RDs.one {d : DV} {v : V} (r : RD K H d v) : RDs K H [d] [v] := .cons r .nil
theorem RDs.take : ∀ {ds : List DV} {vs : List V} (n : Nat), RDs K H ds vs → RDs K H (ds.take n) (vs.take n)
  | _, _, 0, _ => .nil
  | _, _, _ + 1, .nil => .nil
  | _, _, n + 1, .cons r t => .cons r (RDs.take n t)
theorem RDs.drop : ∀ {ds : List DV} {vs : List V} (n : Nat), RDs K H ds vs → RDs K H (ds.drop n) (vs.drop n)
  | _, _, 0, r => r
  | _, _, _ + 1, .nil => .nil
  | _, _, n + 1, .cons _ t => RDs.drop n t
theorem RDs.set {d : DV} {v : V} (r : RD K H d v) : ∀ {ds : List DV} {vs : List V} (i : Nat), RDs K H ds vs → RDs K H (ds.set i d) (vs.set i v)
  | _, _, _, .nil => .nil
  | _, _, 0, .cons _ t => .cons r t
  | _, _, i + 1, .cons q t => .cons q (RDs.set r i t)
theorem RDs.dropLast {ds : List DV} {vs : List V} (h : RDs K H ds vs) : RDs K H ds.dropLast vs.dropLast := by
  rw [List.dropLast_eq_take, List.dropLast_eq_take, h.length]; exact h.take _
theorem RDs.ints : ∀ {ns : List Int} {vs : List V}, RDs K H (ns.map DV.int) vs → vs = ns.map V.int
  | [], _, h => by cases h; rfl
  | n :: r, _, h => by
    cases h with
    | cons h1 h2 => cases h1; rw [RDs.ints h2]; rfl
theorem RDs.ofInts : ∀ ns : List Int, RDs K H (ns.map DV.int) (ns.map V.int)
  | [] => .nil
  | n :: r => .cons (.int n) (RDs.ofInts r)
theorem RDs.bls : ∀ {ns : List Bool} {vs : List V}, RDs K H (ns.map DV.bl) vs → vs = ns.map V.bl
  | [], _, h => by cases h; rfl
  | n :: r, _, h => by
    cases h with
    | cons h1 h2 => cases h1; rw [RDs.bls h2]; rfl
theorem RDs.inj1 {d : DV} {vs : List V} (h : RDs K H [d] vs) : ∃ v, vs = [v] ∧ RD K H d v := by
  cases h with
  | cons h1 h2 => cases h2; exact ⟨_, rfl, h1⟩
end

/-- the slots that are set -/
def SlD (K : Fg) (H : Hp) (ds : List (Option DV)) (vs : List (Option V)) : Prop := ds.length = vs.length ∧ ∀ (i : Nat) (d : DV), ds[i]? = some (some d) → ∃ v, vs[i]? = some (some v) ∧ RD K H d v
theorem SlD.mono {K : Fg} {H H' : Hp} {ds : List (Option DV)} {vs : List (Option V)} (k : Kp H H') (h : SlD K H ds vs) : SlD K H' ds vs := ⟨h.1, fun i d e => by
  obtain ⟨v, h1, h2⟩ := h.2 i d e
  exact ⟨v, h1, h2.mono k⟩⟩
def RO (K : Fg) (H : Hp) (a : Addr) : DO → Prop
  | .lst ds => ∃ vs, H a = some (.lst vs) ∧ RDs K H ds vs
  | .dK ks ds => ∃ kvs, H a = some (.dK kvs) ∧ kvs.map (·.1) = ks ∧ RDs K H ds (kvs.map (·.2))
  | .dT ks ds => ∃ kvs, H a = some (.dT kvs) ∧ kvs.map (·.1) = ks ∧ RDs K H ds (kvs.map (·.2))
  | .ins C ds => ∃ dx vs, dx ≠ a ∧ SlX.Slt H a C dx vs ∧ SlD K H ds vs
  | .tbl q => LamX.TabS H a q
/-- what g may tell of -/
def Trk (p : Addr) : Option HO → Prop
  | some (.lst _) => True
  | some (.dK _) => True
  | some (.dT _) => True
  | some (.set _ _) => True
  | some (.ins _ _ _) => True
  | some (.tbl _) => True
  | some (.ext f) => ∀ q, HO.ext f ≠ LamX.CodeO p q
  | _ => False
/-- what tells the class of the object at a is no code object -/
theorem code_ne {a : Addr} {q : Str} {φ : Heap → Prop} (hc : ∀ hp o, φ hp → hp.get? a = some o → o.cls ≠ .none) : HO.ext φ ≠ LamX.CodeO a q := fun z => by
  unfold LamX.CodeO at z
  injection z with z
  let ob : Obj := { cls := .none, data := .fields #[.none, .str q 0] }
  have hg : (⟨(List.replicate (a + 1) ob).toArray, {}⟩ : Heap).get? a = some ob := by
    unfold Heap.get?
    have e : ((List.replicate (a + 1) ob).toArray)[a]? = some ob := by simp
    rw [show (⟨(List.replicate (a + 1) ob).toArray, {}⟩ : Heap).objs = (List.replicate (a + 1) ob).toArray from rfl, e]
  have h2 := congrFun z ⟨(List.replicate (a + 1) ob).toArray, {}⟩
  have h3 : ∃ (oc : Obj) (vs : Array Value) (t : Tok), (⟨(List.replicate (a + 1) ob).toArray, {}⟩ : Heap).get? a = some oc ∧ oc.data = .fields vs ∧ vs[1]? = some (.str q t) := ⟨ob, _, 0, hg, rfl, rfl⟩
  rw [← h2] at h3
  exact hc _ _ h3 hg rfl
theorem slO_trk {a C dx : Addr} {vs : List (Option V)} : Trk a (some (SlX.SlO a C dx vs)) := fun q => code_ne fun hp o ⟨sl, e, _⟩ e2 z => by
  rw [e] at e2
  have e3 := congrArg Obj.cls (Option.some.inj e2)
  rw [z] at e3
  have e4 : Value.ref C = Value.none := e3
  cases e4
/-- the dict of an instance that has no slot yet -/
def OwnO : HO → Prop
  | .own _ => True
  | .tbl _ => True
  | _ => False
def RG (K : Fg) (H : Hp) (g : DG) : Prop := ∀ a o, g a = some o → RO K H a o
/-- behind a step: what was tracked and is no one's of g stands as it was, and is no one's of g' -/
def Ext (g : DG) (H : Hp) (g' : DG) (H' : Hp) : Prop := ∀ a o, H a = some o → g a = none → ¬ OwnO o → H' a = some o ∧ g' a = none
section
variable {K : Fg} {g g' g1 g2 : DG} {H H' H1 H2 : Hp} {p : Addr}
theorem RO.some {a : Addr} {o : DO} (r : RO K H a o) : ∃ u, H a = some u ∧ Trk a (Option.some u) := by
  cases o with
  | lst ds => obtain ⟨vs, e, _⟩ := r; exact ⟨_, e, trivial⟩
  | dK ks ds => obtain ⟨vs, e, _⟩ := r; exact ⟨_, e, trivial⟩
  | dT ks ds => obtain ⟨vs, e, _⟩ := r; exact ⟨_, e, trivial⟩
  | ins C ds =>
    obtain ⟨dx, vs, _, h | h, _⟩ := r
    · exact ⟨_, h.1, trivial⟩
    · exact ⟨_, h.1, slO_trk⟩
  | tbl q => obtain ⟨ps, e, _⟩ := r; exact ⟨_, e, trivial⟩
theorem RG.none (r : RG K H g) (h : H p = Option.none) : g p = Option.none := by
  cases e : g p with
  | none => rfl
  | some o => obtain ⟨vs, q, _⟩ := (r p o e).some; rw [h] at q; cases q
theorem Ext.refl : Ext g H g H := fun _ _ h n _ => ⟨h, n⟩
theorem Ext.trans (a : Ext g H g1 H1) (b : Ext g1 H1 g2 H2) : Ext g H g2 H2 := fun c o h n w => by
  obtain ⟨h1, n1⟩ := a c o h n w
  exact b c o h1 n1 w
theorem Ext.kp (e : Ext g H g' H') (r : RG K H g) : Kp H H' := by
  have nt : ∀ b o, H b = some o → ¬ Trk b (Option.some o) → g b = Option.none := fun b o q n => by
    cases z : g b with
    | none => rfl
    | some u => obtain ⟨vs, q', m⟩ := (r b u z).some; rw [q] at q'; cases q'; exact absurd m n
  exact ⟨fun b xs q => (e b _ q (nt b _ q fun z => z) fun z => z).1, fun b o u q => (e b _ q (nt b _ q fun z => z) fun z => z).1, fun b fs q => (e b _ q (nt b _ q fun z => z) fun z => z).1, fun b n q => (e b _ q (nt b _ q fun z => z n rfl) fun z => z).1⟩
theorem Kp.fresh {o : HO} (h : H p = Option.none) : Kp H (upd H p o) :=
  ⟨fun b xs q => by rw [upd_ne (ne_of_none q h)]; exact q, fun b x u q => by rw [upd_ne (ne_of_none q h)]; exact q, fun b fs q => by rw [upd_ne (ne_of_none q h)]; exact q, fun b n q => by rw [upd_ne (ne_of_none q h)]; exact q⟩
theorem Kp.refl : Kp H H := ⟨fun _ _ h => h, fun _ _ _ h => h, fun _ _ h => h, fun _ _ h => h⟩
theorem Kp.trans (a : Kp H H1) (b : Kp H1 H2) : Kp H H2 := ⟨fun c xs h => b.t _ _ (a.t c xs h), fun c o u h => b.f _ _ _ (a.f c o u h), fun c fs h => b.x _ _ (a.x c fs h), fun c n h => b.e _ _ (a.e c n h)⟩
theorem RO.keep {a : Addr} {o : DO} (k : Kp H H') (e : H' a = H a) (r : RO K H a o) : RO K H' a o := by
  cases o with
  | lst ds => obtain ⟨vs, q, r⟩ := r; exact ⟨vs, e.trans q, r.mono k⟩
  | dK ks ds => obtain ⟨vs, q, x, r⟩ := r; exact ⟨vs, e.trans q, x, r.mono k⟩
  | dT ks ds => obtain ⟨vs, q, x, r⟩ := r; exact ⟨vs, e.trans q, x, r.mono k⟩
  | ins C ds =>
    obtain ⟨dx, vs, ne, h | h, r⟩ := r
    · exact ⟨dx, vs, ne, .inl ⟨e.trans h.1, h.2⟩, r.mono k⟩
    · exact ⟨dx, vs, ne, .inr ⟨e.trans h.1, k.x _ _ h.2⟩, r.mono k⟩
  | tbl q =>
    obtain ⟨ps, e1, e2, e3⟩ := r
    refine ⟨ps, e.trans e1, e2, fun pos cv hc => ?_⟩
    obtain ⟨c, z1, z2⟩ := e3 pos cv hc
    exact ⟨c, z1, k.e _ _ z2⟩
theorem RG.fresh {o : HO} (r : RG K H g) (h : H p = Option.none) : RG K (upd H p o) g := fun a u e => by
  obtain ⟨vs, q, _⟩ := (r a u e).some
  exact (r a u e).keep (Kp.fresh h) (upd_ne (ne_of_none q h))
theorem Ext.fresh {o : HO} (r : RG K H g) (h : H p = Option.none) : Ext g H g (upd H p o) := fun a u e n _ => ⟨by rw [upd_ne (ne_of_none e h)]; exact e, n⟩
/-- a new thing that changes -/
theorem RG.new {ds : List DV} {vs : List V} (r : RG K H g) (h : H p = Option.none) (rd : RDs K H ds vs) : RG K (upd H p (.lst vs)) (gup g p (.lst ds)) := fun a u e => by
  by_cases ha : a = p
  · subst ha
    rw [gup_same] at e; cases e
    exact ⟨vs, upd_same, rd.mono (Kp.fresh h)⟩
  · rw [gup_ne ha] at e
    exact (r a u e).keep (Kp.fresh h) (upd_ne ha)
theorem Ext.new {u : DO} {o : HO} (h : H p = Option.none) : Ext g H (gup g p u) (upd H p o) := fun a x e n _ => by
  have ha := ne_of_none e h
  exact ⟨by rw [upd_ne ha]; exact e, by rw [gup_ne ha]; exact n⟩
/-- a thing changed -/
theorem Kp.mut {o : HO} (mu : Trk p (H p)) : Kp H (upd H p o) :=
  ⟨fun b xs q => by rw [upd_ne (fun z => by subst z; rw [q] at mu; exact mu)]; exact q, fun b x u q => by rw [upd_ne (fun z => by subst z; rw [q] at mu; exact mu)]; exact q, fun b fs q => by rw [upd_ne (fun z => by subst z; rw [q] at mu; exact mu)]; exact q, fun b n q => by rw [upd_ne (fun z => by subst z; rw [q] at mu; exact mu n rfl)]; exact q⟩
theorem RG.set {xs ds : List DV} {vs : List V} (r : RG K H g) (h : g p = Option.some (.lst xs)) (rd : RDs K H ds vs) : RG K (upd H p (.lst vs)) (gup g p (.lst ds)) := fun a u e => by
  obtain ⟨ws, q, m⟩ := (r p _ h).some
  have k : Kp H (upd H p (.lst vs)) := Kp.mut (by rw [q]; exact m)
  by_cases ha : a = p
  · subst ha
    rw [gup_same] at e; cases e
    exact ⟨vs, upd_same, rd.mono k⟩
  · rw [gup_ne ha] at e
    exact (r a u e).keep k (upd_ne ha)
theorem RG.setT {v : DO} {ks : List (List Key)} {ds : List DV} {kvs : List (List Key × V)} (r : RG K H g) (h : g p = Option.some v) (ek : kvs.map (·.1) = ks) (rd : RDs K H ds (kvs.map (·.2))) :
    RG K (upd H p (.dT kvs)) (gup g p (.dT ks ds)) := fun a u e => by
  obtain ⟨ws, q, m⟩ := (r p _ h).some
  have k : Kp H (upd H p (.dT kvs)) := Kp.mut (by rw [q]; exact m)
  by_cases ha : a = p
  · subst ha
    rw [gup_same] at e; cases e
    exact ⟨kvs, upd_same, ek, rd.mono k⟩
  · rw [gup_ne ha] at e
    exact (r a u e).keep k (upd_ne ha)
theorem RG.newT {ks : List (List Key)} {ds : List DV} {kvs : List (List Key × V)} (r : RG K H g) (h : H p = Option.none) (ek : kvs.map (·.1) = ks) (rd : RDs K H ds (kvs.map (·.2))) :
    RG K (upd H p (.dT kvs)) (gup g p (.dT ks ds)) := fun a u e => by
  by_cases ha : a = p
  · subst ha
    rw [gup_same] at e; cases e
    exact ⟨kvs, upd_same, ek, rd.mono (Kp.fresh h)⟩
  · rw [gup_ne ha] at e
    exact (r a u e).keep (Kp.fresh h) (upd_ne ha)
theorem Ext.set {u v : DO} {o : HO} (h : g p = Option.some v) : Ext g H (gup g p u) (upd H p o) := fun a x e n _ => by
  have ha : a ≠ p := fun z => by rw [z, h] at n; cases n
  exact ⟨by rw [upd_ne ha]; exact e, by rw [gup_ne ha]; exact n⟩
/-- a smaller heap -/
def Sub (g' g : DG) : Prop := ∀ a, g' a = g a ∨ g' a = Option.none
theorem Sub.refl : Sub g g := fun _ => .inl rfl
theorem Sub.trans (a : Sub g2 g1) (b : Sub g1 g) : Sub g2 g := fun c => by
  rcases a c with h | h
  · rcases b c with h' | h'
    · exact .inl (h.trans h')
    · exact .inr (h.trans h')
  · exact .inr h
theorem Sub.rg (s : Sub g' g) (r : RG K H g) : RG K H g' := fun a o e => by
  rcases s a with h | h
  · exact r a o (h.symm.trans e)
  · rw [h] at e; cases e
theorem Sub.ext (s : Sub g2 g1) (e : Ext g H g1 H1) : Ext g H g2 H1 := fun a o h n w => by
  obtain ⟨h1, n1⟩ := e a o h n w
  refine ⟨h1, ?_⟩
  rcases s a with q | q
  · rw [q]; exact n1
  · exact q
end
def RS (K : Fg) (H : Hp) (δ : DS) (σ : L2.St) : Prop := δ.length = σ.length ∧ ∀ (i : Nat) (d : DV), δ[i]? = some (some d) → ∃ v, σ[i]? = some (some v) ∧ RD K H d v
section
variable {K : Fg} {H H' : Hp} {δ : DS} {σ : L2.St}
theorem RS.mono (k : Kp H H') (r : RS K H δ σ) : RS K H' δ σ := ⟨r.1, fun i d e => by
  obtain ⟨v, h1, h2⟩ := r.2 i d e
  exact ⟨v, h1, h2.mono k⟩⟩
theorem RS.set {d : DV} {v : V} (r : RS K H δ σ) (i : Nat) (rd : RD K H d v) : RS K H (δ.set i (some d)) (σ.set i (some v)) := by
  refine ⟨by rw [List.length_set, List.length_set]; exact r.1, fun j e h => ?_⟩
  by_cases hj : i = j
  · subst hj
    by_cases hi : i < δ.length
    · rw [List.getElem?_set_self hi] at h; cases h
      exact ⟨v, by rw [List.getElem?_set_self (by rw [← r.1]; exact hi)], rd⟩
    · rw [List.getElem?_eq_none (by rw [List.length_set]; omega)] at h; cases h
  · rw [List.getElem?_set_ne hj] at h ⊢
    exact r.2 j e h
theorem RS.unset (r : RS K H δ σ) (i : Nat) : RS K H (δ.set i none) (σ.set i none) := by
  refine ⟨by rw [List.length_set, List.length_set]; exact r.1, fun j e h => ?_⟩
  by_cases hj : i = j
  · subst hj
    by_cases hi : i < δ.length
    · rw [List.getElem?_set_self hi] at h; cases h
    · rw [List.getElem?_eq_none (by rw [List.length_set]; omega)] at h; cases h
  · rw [List.getElem?_set_ne hj] at h ⊢
    exact r.2 j e h
end
/-- slots by number, to be reckoned -/
def nth : DS → Nat → Option DV
  | [], _ => none
  | x :: _, 0 => x
  | _ :: r, n + 1 => nth r n
theorem nth_get : ∀ {δ : DS} {i : Nat} {d : DV}, nth δ i = some d → δ[i]? = some (some d)
  | [], _, _, h => by simp [nth] at h
  | x :: _, 0, d, h => by simpa [nth] using h
  | _ :: r, n + 1, d, h => by simpa using nth_get (δ := r) (i := n) (by simpa [nth] using h)

/-! ### transformers over contents -/
abbrev TDE := DS → DG → (DV → DG → Prop) → Prop
abbrev TDT := DS → DG → (Bool → DG → Prop) → Prop
abbrev TDA := DS → DG → (List DV → DG → Prop) → Prop
structure DEnds where
  nx : DS → DG → Prop
  rt : DV → DG → Prop
  bk : DS → DG → Prop := fun _ _ => False
  ct : DS → DG → Prop := fun _ _ => False
abbrev TDS := DEnds → DS → DG → Prop
abbrev TDI := DS → DG → (List DV → DG → Prop) → Prop
abbrev SpD := List DV → DG → (DV → DG → Prop) → Prop

def upE (K : Fg) (t : TDE) : TE := fun σ H Q => ∃ δ g P, RS K H δ σ ∧ RG K H g ∧ t δ g P ∧ ∀ d g' v H', Ext g H g' H' → RG K H' g' → RD K H' d v → P d g' → Q v H'
def upT (K : Fg) (t : TDT) : TT := fun σ H Q => ∃ δ g P, RS K H δ σ ∧ RG K H g ∧ t δ g P ∧ ∀ b g' H', Ext g H g' H' → RG K H' g' → P b g' → Q b H'
def upA (K : Fg) (t : TDA) : TA := fun σ H Q => ∃ δ g P, RS K H δ σ ∧ RG K H g ∧ t δ g P ∧ ∀ ds g' vs H', Ext g H g' H' → RG K H' g' → RDs K H' ds vs → P ds g' → Q vs H'
def upS (K : Fg) (t : TDS) : TS := fun D σ H => ∃ δ g E, RS K H δ σ ∧ RG K H g ∧ t E δ g ∧
  (∀ δ' g' σ' H', Ext g H g' H' → RG K H' g' → RS K H' δ' σ' → E.nx δ' g' → D.nx σ' H') ∧
  (∀ d g' v H', Ext g H g' H' → RG K H' g' → RD K H' d v → E.rt d g' → D.rt v H') ∧
  (∀ δ' g' σ' H', Ext g H g' H' → RG K H' g' → RS K H' δ' σ' → E.bk δ' g' → D.bk σ' H') ∧
  (∀ δ' g' σ' H', Ext g H g' H' → RG K H' g' → RS K H' δ' σ' → E.ct δ' g' → D.ct σ' H')
def upSp (K : Fg) (sp : SpD) : Sp := fun vs H Q _ => ∃ ds g P, RDs K H ds vs ∧ RG K H g ∧ sp ds g P ∧ ∀ d g' v H', Ext g H g' H' → RG K H' g' → RD K H' d v → P d g' → Q v H'
/-- a step of a walk lays one new object, or two, or none -/
inductive Grw (H H' : Hp) : Prop where
  | inl (h : H' = H)
  | inr (h : ∃ p o, H p = Option.none ∧ H' = upd H p o)
  | two (h : ∃ p o p2 o2, H p = Option.none ∧ H p2 = Option.none ∧ p2 ≠ p ∧ H' = upd (upd H p o) p2 o2)
/-- what a walk gives, from the heap H0 on -/
structure DWalk (K : Fg) (J : It) (ds : List DV) (H0 : Hp) : Prop where
  goes : ∀ i H, i < ds.length → Kp H0 H → J.go i H
  stops : ∀ H, Kp H0 H → J.stop ds.length H
  yields : ∀ i H x H' d, ds[i]? = some d → Kp H0 H → J.yld i H x H' → Grw H H' ∧ RD K H' d x
def upI (K : Fg) (t : TDI) : TI := fun σ H R => ∃ δ g P, RS K H δ σ ∧ RG K H g ∧ t δ g P ∧ ∀ ds g' J H', Ext g H g' H' → RG K H' g' → DWalk K J ds H' → P ds g' → R J H'

theorem PE_weak {X : Cx} {e : Expr} {t t' : TE} (h : PE X e t) (w : ∀ σ H Q, t' σ H Q → t σ H Q) : PE X e t' := ⟨fun pins s σ H Q I q => h.run pins s σ H Q I (w σ H Q q)⟩
theorem PT_weak {X : Cx} {e : Expr} {t t' : TT} (h : PT X e t) (w : ∀ σ H Q, t' σ H Q → t σ H Q) : PT X e t' := ⟨fun pins s σ H Q I q => h.run pins s σ H Q I (w σ H Q q)⟩
theorem PW_weak {X : Cx} {e : Expr} {t t' : TT} (h : PW X e t) (w : ∀ σ H Q, t' σ H Q → t σ H Q) : PW X e t' := ⟨fun wh pins s σ H Q I q => h.run wh pins s σ H Q I (w σ H Q q)⟩
theorem PA_weak {X : Cx} {e : List Expr} {t t' : TA} (h : PA X e t) (w : ∀ σ H Q, t' σ H Q → t σ H Q) : PA X e t' := ⟨fun ps pins s σ H Q I q => h.run ps pins s σ H Q I (w σ H Q q)⟩
theorem PS_weak {X : Cx} {e : Stmt} {t t' : TS} (h : PS X e t) (w : ∀ D σ H, t' D σ H → t D σ H) : PS X e t' := ⟨fun pins s σ H D I q => h.run pins s σ H D I (w D σ H q)⟩
theorem PSs_weak {X : Cx} {e : List Stmt} {t t' : TS} (h : PSs X e t) (w : ∀ D σ H, t' D σ H → t D σ H) : PSs X e t' := ⟨fun pins s σ H D I q => h.run pins s σ H D I (w D σ H q)⟩
theorem PI_weak {X : Cx} {tg e : Expr} {t t' : TI} (h : PI X tg e t) (w : ∀ σ H Q, t' σ H Q → t σ H Q) : PI X tg e t' := ⟨fun pins s σ H Q I q => h.run pins s σ H Q I (w σ H Q q)⟩

/-! ### a new list may be locked at once -/
def fz (Q : VK) : VK := fun v H => Q v H ∨ ∃ p u, v = .ref p ∧ H p = some u ∧ Mut (some u) ∧ ∀ o, Q v (upd H p (.frz o u))
section
variable {X : Cx}
theorem EP_fz {pins : List (Addr × Obj)} {σ : L2.St} {Q : VK} {u : Value} {s : Shared} (h : EP X pins σ (fz Q) u s) : EP X pins σ Q u s := by
  obtain ⟨v, H, I, r, q⟩ := h
  rcases q with q | ⟨p, vs, rfl, hp, m, q⟩
  · exact ⟨v, H, I, r, q⟩
  · obtain ⟨o, I'⟩ := I.lock hp m
    exact ⟨_, _, I', r, q o⟩
theorem PE_fz {e : Expr} {t : TE} (h : PE X e t) : PE X e (fun σ H Q => t σ H (fz Q)) := ⟨fun pins s σ H Q I q => thn (h.run pins s σ H (fz Q) I q) fun _ _ z => EP_fz z⟩
theorem OpR_fz {f : Value → Value → Sem Value} {r : R2} (h : OpR X f r) : OpR X f (fun x y H Q => r x y H (fz Q)) := fun pins s σ H x y v u Q I rx ry q => thn (h pins s σ H x y v u (fz Q) I rx ry q) fun _ _ z => EP_fz z
theorem CallR_fz {f : Value} {r : List V → Hp → VK → Prop} (h : CallR X f r) : CallR X f (fun xs H Q => r xs H (fz Q)) := fun pins s σ H xs us Q I rx q => thn (h pins s σ H xs us (fz Q) I rx q) fun _ _ z => EP_fz z
theorem SlR_fz {r : V → Option Int → Option Int → Hp → VK → Prop} (h : SlR X r) : SlR X (fun x lo hi H Q => r x lo hi H (fz Q)) := by
  intro pins s σ H x v vl vu lo hi sl Q I rx hs pl pu q
  obtain ⟨T, id, h1, h2, h3⟩ := h pins s σ H x v vl vu lo hi sl (fz Q) I rx hs pl pu q
  exact ⟨T, id, h1, h2, thn h3 fun _ _ z => EP_fz z⟩
end
/-- a fresh list, locked: by content -/
theorem fz_new {K : Fg} {g : DG} {H : Hp} {p : Addr} {ds : List DV} {vs : List V} {Q : VK} {P : DV → DG → Prop} (rg : RG K H g) (hp : H p = none) (rd : RDs K H ds vs)
    (k : ∀ d g' v H', Ext g H g' H' → RG K H' g' → RD K H' d v → P d g' → Q v H') (h : P (.lst ds) g) : fz Q (.ref p) (upd H p (.lst vs)) := by
  refine .inr ⟨p, .lst vs, rfl, upd_same, trivial, fun o => ?_⟩
  rw [upd_upd]
  exact k _ g _ _ (Ext.fresh rg hp) (rg.fresh hp) (.lst ⟨o, upd_same⟩ (rd.mono (Kp.fresh hp))) h
theorem tup_new {K : Fg} {g : DG} {H : Hp} {p : Addr} {ds : List DV} {vs : List V} {Q : VK} {P : DV → DG → Prop} (rg : RG K H g) (hp : H p = none) (rd : RDs K H ds vs)
    (k : ∀ d g' v H', Ext g H g' H' → RG K H' g' → RD K H' d v → P d g' → Q v H') (h : P (.tup ds) g) : Q (.ref p) (upd H p (.tup vs)) :=
  k _ g _ _ (Ext.fresh rg hp) (rg.fresh hp) (.tup upd_same (rd.mono (Kp.fresh hp))) h
end DL

/-! Deep layer B: the rules for expressions over contents. -/
namespace DL
open PySem PySem.Spec PyProof.Rows L2
section
variable {X : Cx} {pos : Pos}

/-! ### names, constants -/
def dVar (i : Nat) : TDE := fun δ g Q => match nth δ i with | some d => Q d g | none => False
def dC (d : DV) : TDE := fun _ g Q => Q d g
theorem pdv (i : Nat) {x : Str} {p : Pos} (hN : X.N[i]? = some x := by rfl) (hv : Vis X.env.scope x := by first | exact Or.inl rfl | exact Or.inr (Or.inl rfl) | exact Or.inr (Or.inr rfl)) (hd : (x == ("__debug__" : Str)) = false := by decide)
    (hcd : (x == ("__classdict__" : Str)) = false := by decide) : PE X (.Name x p) (upE X.K (dVar i)) := by
  refine PE_weak (pv i hN hv hd hcd) fun σ H Q ⟨δ, g, P, rs, rg, h, k⟩ => ?_
  unfold dVar at h
  split at h
  · rename_i d e
    obtain ⟨v, hv, rd⟩ := rs.2 i d (nth_get e)
    exact ⟨v, hv, k d g v H Ext.refl rg rd h⟩
  · exact h.elim
theorem pd_c {e : Expr} {v : V} {d : DV} (h : PE X e (tC v)) (rd : ∀ H, RD X.K H d v) : PE X e (upE X.K (dC d)) :=
  PE_weak h fun _ H _ ⟨_, g, _, _, rg, h, k⟩ => k d g v H Ext.refl rg (rd H) h
theorem pd_int {i j} : PE X (.Constant (.int i) j pos) (upE X.K (dC (.int i))) := pd_c pe_int fun _ => .int i
theorem pd_bl {i j} : PE X (.Constant (.bool i) j pos) (upE X.K (dC (.bl i))) := pd_c pe_bl fun _ => .bl i
/-- a module's name: an int, a text, a def, a class -/
theorem pd_glob {x : Str} {d : DV} {v : V} {u : Value} (hg : Gl X x) (hm : X.mg x = some u) (r : RelV v u) (rd : ∀ H, RD X.K H d v) (hd : (x == ("__debug__" : Str)) = false := by decide) : PE X (.Name x pos) (upE X.K (dC d)) := pd_c (pe_glob hg hm r hd) rd
theorem pd_globI {x : Str} {i : Int} {t : Tok} (hm : X.mg x = some (.int i t)) (hg : Gl X x := by rfl) (hd : (x == ("__debug__" : Str)) = false := by decide) : PE X (.Name x pos) (upE X.K (dC (.int i))) := pd_glob (v := .int i) hg hm ⟨t, rfl⟩ (fun _ => .int i) hd
theorem pd_globR {x : Str} {a : Addr} (hm : X.mg x = some (.ref a)) (hg : Gl X x := by rfl) (hd : (x == ("__debug__" : Str)) = false := by decide) : PE X (.Name x pos) (upE X.K (dC (.ref a))) := pd_glob (v := .ref a) hg hm rfl (fun _ => .ref a) hd
/-- a built-in class as a value -/
theorem pd_ty {x : Str} {n : String} (hm : X.mg x = none) (hv : bootBuiltins x = some (.type n)) (hg : Gl X x := by rfl) (hn : x ≠ "__name__" := by decide) (hd : (x == ("__debug__" : Str)) = false := by decide) : PE X (.Name x pos) (upE X.K (dC (.ty n))) :=
  pd_c (pe_bltn hg hm hv (v := .ty n) rfl hn hd) fun _ => .ty n

/-! ### operators -/
abbrev RR2 := DV → DV → DG → (DV → Prop) → Prop
abbrev RR1 := DV → DG → (DV → Prop) → Prop
abbrev RRs := List DV → DG → (DV → Prop) → Prop
def dOp (r : RR2) (a b : TDE) : TDE := fun δ g Q => a δ g fun x g1 => b δ g1 fun y g2 => r x y g2 fun z => Q z g2
def RefOp (K : Fg) (r : RR2) (R : R2) : Prop := ∀ (x y : DV) (P : DV → Prop) (v u : V) (H : Hp) (g : DG) (Q : VK), RG K H g → RD K H x v → RD K H y u →
  (∀ z w H', Ext g H g H' → RG K H' g → RD K H' z w → P z → Q w H') → r x y g P → R v u H (fz Q)
variable {a b c : Expr} {ta tb tc : TDE}
theorem op_up {r : RR2} {R : R2} {δ : DS} {g : DG} {σ : L2.St} {H : Hp} {Q : VK} {P : DV → DG → Prop} {K : Fg} (rf : RefOp K r R) (rs : RS K H δ σ) (rg : RG K H g) (h : dOp r ta tb δ g P)
    (k : ∀ d g' v H', Ext g H g' H' → RG K H' g' → RD K H' d v → P d g' → Q v H') : tOp (fun x y H Q => R x y H (fz Q)) (upE K ta) (upE K tb) σ H Q :=
  ⟨δ, g, _, rs, rg, h, fun d g1 v H1 e1 rg1 rd1 h1 => ⟨δ, g1, _, rs.mono (e1.kp rg), rg1, h1, fun d2 g2 u H2 e2 rg2 rd2 h2 =>
    rf d d2 _ v u H2 g2 Q rg2 (rd1.mono (e2.kp rg1)) rd2 (fun z w H' e rg' rd' pz => k z g2 w H' ((e1.trans e2).trans e) rg' rd' pz) h2⟩⟩
theorem pd_op {op : Operator} {r : RR2} {R : R2} (ho : OpR X (binaryOp op) R) (rf : RefOp X.K r R) (ha : PE X a (upE X.K ta)) (hb : PE X b (upE X.K tb)) : PE X (.BinOp a op b pos) (upE X.K (dOp r ta tb)) :=
  PE_weak (pe_op (OpR_fz ho) ha hb) fun _ _ _ ⟨_, _, _, rs, rg, h, k⟩ => op_up rf rs rg h k
theorem pd_cmp {op : CmpOp} {r : RR2} {R : R2} (ho : OpR X (compareOp op) R) (rf : RefOp X.K r R) (ha : PE X a (upE X.K ta)) (hb : PE X b (upE X.K tb)) (hm : behindInMarks op b = false) : PE X (.Compare a [op] [b] pos) (upE X.K (dOp r ta tb)) :=
  PE_weak (pe_cmpR (OpR_fz ho) ha hb hm) fun _ _ _ ⟨_, _, _, rs, rg, h, k⟩ => op_up rf rs rg h k
/-- a test out of a value that is a bool -/
def dB (t : TDE) : TDT := fun δ g Q => t δ g fun x g' => match x with | .bl c => Q c g' | _ => False
theorem tb_up {K : Fg} {t : TDE} {T : TE} {σ : L2.St} {H : Hp} {Q : Bool → Hp → Prop} (hT : ∀ σ H Q, upE K t σ H Q → T σ H Q) (h : upT K (dB t) σ H Q) : T σ H (fun x H' => ∃ k, x = .bl k ∧ Q k H') := by
  obtain ⟨δ, g, P, rs, rg, h, k⟩ := h
  refine hT _ _ _ ⟨δ, g, _, rs, rg, h, fun d g' v H' e rg' rd p => ?_⟩
  cases d <;> first
    | exact False.elim p
    | (cases rd; exact ⟨_, rfl, k _ _ _ e rg' p⟩)
theorem pt_cmpD {op : CmpOp} {r : RR2} {R : R2} (ho : OpR X (compareOp op) R) (rf : RefOp X.K r R) (ha : PE X a (upE X.K ta)) (hb : PE X b (upE X.K tb)) (hm : behindInMarks op b = false) : PT X (.Compare a [op] [b] pos) (upT X.K (dB (dOp r ta tb))) :=
  PT_weak (pt_cmpR (OpR_fz ho) ha hb hm) fun σ H Q h => tb_up (T := tOp (fun x y H Q => R x y H (fz Q)) (upE X.K ta) (upE X.K tb)) (fun _ _ _ ⟨_, _, _, rs, rg, h, k⟩ => op_up rf rs rg h k) h
/-- a < b < c -/
def dChain (r r' : RR2) (a b c : TDE) : TDE := fun δ g Q => a δ g fun x g1 => b δ g1 fun y g2 => r x y g2 fun z => match z with
  | .bl k => if k = true then c δ g2 fun u g3 => r' y u g3 fun w => Q w g3 else Q (.bl false) g2
  | _ => False
/-- the answers of a comparison keep the heap: by values -/
def RefCmp (K : Fg) (r : RR2) (R : R2) : Prop := ∀ (x y : DV) (P : DV → Prop) (v u : V) (H : Hp) (g : DG) (Q : VK), RG K H g → RD K H x v → RD K H y u → (∀ b, P (.bl b) → Q (.bl b) H) → r x y g P → R v u H Q
theorem RefCmp.op {K : Fg} {r : RR2} {R : R2} (h : RefCmp K r R) : RefOp K r R := fun x y P v u H g Q rg rx ry k q => h x y P v u H g (fz Q) rg rx ry (fun b p => .inl (k _ _ H Ext.refl rg (.bl b) p)) q
theorem chain_up {r r' : RR2} {R R' : R2} {δ : DS} {g : DG} {σ : L2.St} {H : Hp} {Q : VK} {P : DV → DG → Prop} {K : Fg} (rf : RefCmp K r R) (rf' : RefCmp K r' R') (rs : RS K H δ σ) (rg : RG K H g) (h : dChain r r' ta tb tc δ g P)
    (k : ∀ d g' v H', Ext g H g' H' → RG K H' g' → RD K H' d v → P d g' → Q v H') : tChain R R' (upE K ta) (upE K tb) (upE K tc) σ H Q := by
  refine ⟨δ, g, _, rs, rg, h, fun d g1 v H1 e1 rg1 rd1 h1 => ⟨δ, g1, _, rs.mono (e1.kp rg), rg1, h1, fun d2 g2 u H2 e2 rg2 rd2 h2 => ?_⟩⟩
  refine rf d d2 _ v u H2 g2 _ rg2 (rd1.mono (e2.kp rg1)) rd2 (fun b p => ?_) h2
  refine ⟨b, rfl, ?_⟩
  dsimp only at p
  cases b with
  | true =>
    rw [if_pos rfl] at p ⊢
    refine ⟨δ, g2, _, rs.mono ((e1.trans e2).kp rg), rg2, p, fun d3 g3 w H3 e3 rg3 rd3 h3 => ?_⟩
    exact rf' d2 d3 _ u w H3 g3 _ rg3 (rd2.mono (e3.kp rg2)) rd3 (fun b p' => k _ _ _ _ ((e1.trans e2).trans e3) rg3 (.bl b) p') h3
  | false =>
    rw [if_neg Bool.false_ne_true] at p ⊢
    exact k _ _ _ _ (e1.trans e2) rg2 (.bl false) p
theorem pd_chain {op op' : CmpOp} {r r' : RR2} {R R' : R2} (ho : OpR X (compareOp op) R) (rf : RefCmp X.K r R) (ho' : OpR X (compareOp op') R') (rf' : RefCmp X.K r' R') (ha : PE X a (upE X.K ta)) (hb : PE X b (upE X.K tb)) (hc : PE X c (upE X.K tc))
    (hm : lastMarks [op, op'] [b, c] = false := by with_unfolding_all rfl) : PE X (.Compare a [op, op'] [b, c] pos) (upE X.K (dChain r r' ta tb tc)) :=
  PE_weak (pe_chain ho ho' ha hb hc hm) fun _ _ _ ⟨_, _, _, rs, rg, h, k⟩ => chain_up rf rf' rs rg h k
/-! ### truth, and, or, not, if -/
/-- the items of a list or tuple -/
def lstD (g : DG) : DV → Option (List DV)
  | .lst ds => some ds
  | .ref p => match g p with | some (.lst ds) => some ds | _ => none
  | _ => none
def seqD (g : DG) : DV → Option (List DV)
  | .tup ds => some ds
  | .lst ds => some ds
  | .ref p => match g p with | some (.lst ds) => some ds | _ => none
  | .scr ns => some (ns.map .int)
  | _ => none
/-- of a plain tuple, too -/
def seqP (g : DG) : DV → Option (List DV)
  | .tpl ds => some ds
  | x => seqD g x
theorem seqP_of {g : DG} {x : DV} {ds : List DV} (h : seqD g x = some ds) : seqP g x = some ds := by
  cases x with
  | tpl _ => cases h
  | _ => exact h
theorem lstD_of {K : Fg} {H : Hp} {g : DG} {d : DV} {v : V} {ds : List DV} (rg : RG K H g) (r : RD K H d v) (h : lstD g d = some ds) : ∃ a vs, v = .ref a ∧ SqL K H a vs ∧ RDs K H ds vs ∧ Rd H a (.lst vs) := by
  cases r with
  | lst hs hr =>
    cases h
    obtain ⟨o, e⟩ := hs
    exact ⟨_, _, rfl, .inl (.inr ⟨o, e⟩), hr, .inr ⟨o, e⟩⟩
  | ref a =>
    unfold lstD at h
    split at h <;> first | cases h | skip
    all_goals (try (rename_i q; cases q))
    all_goals (split at h <;> first | (cases h; rename_i e; obtain ⟨vs, q, rd⟩ := rg _ _ e; exact ⟨_, vs, rfl, SqL.of q, rd, .inl q⟩) | cases h)
  | _ => cases h
theorem seqD_of {K : Fg} {H : Hp} {g : DG} {d : DV} {v : V} {ds : List DV} (rg : RG K H g) (r : RD K H d v) (h : seqD g d = some ds) : ∃ a vs, v = .ref a ∧ (SqL K H a vs ∨ SqT K H a vs) ∧ RDs K H ds vs := by
  cases r with
  | tup hs hr => cases h; exact ⟨_, _, rfl, .inr (SqT.of hs), hr⟩
  | lst hs hr => cases h; exact ⟨_, _, rfl, .inl hs.sq, hr⟩
  | scr hs => cases h; exact ⟨_, _, rfl, .inl hs.sq, RDs.ofInts _⟩
  | ref a =>
    obtain ⟨a, vs, e, q, r, _⟩ := lstD_of (d := .ref a) rg (.ref a) (show lstD g (.ref a) = some ds from h)
    exact ⟨a, vs, e, .inl q, r⟩
  | _ => cases h
theorem seqP_rd {K : Fg} {H : Hp} {g : DG} {d : DV} {v : V} {ds : List DV} (rg : RG K H g) (r : RD K H d v) (h : seqP g d = some ds) : ∃ a vs, v = .ref a ∧ (SqL K H a vs ∨ SqT K H a vs) ∧ RDs K H ds vs := by
  cases r with
  | tpl hs hr => cases h; exact ⟨_, _, rfl, .inr hs.sq, hr⟩
  | tup hs hr => exact seqD_of rg (.tup hs hr) h
  | lst hs hr => exact seqD_of rg (.lst hs hr) h
  | scr hs => exact seqD_of rg (.scr hs) h
  | ref a => exact seqD_of rg (.ref a) h
  | _ => cases h
theorem seqD_ofX {K : Fg} {H : Hp} {g : DG} {d : DV} {v : V} {ds : List DV} (rg : RG K H g) (r : RD K H d v) (h : seqD g d = some ds) : ∃ a vs, v = .ref a ∧ (SqL K H a vs ∨ H a = some (.tup vs)) ∧ RDs K H ds vs := by
  cases r with
  | tup hs hr => cases h; exact ⟨_, _, rfl, .inr hs, hr⟩
  | lst hs hr => cases h; exact ⟨_, _, rfl, .inl hs.sq, hr⟩
  | scr hs => cases h; exact ⟨_, _, rfl, .inl hs.sq, RDs.ofInts _⟩
  | ref a =>
    obtain ⟨a, vs, e, q, r, _⟩ := lstD_of (d := .ref a) rg (.ref a) (show lstD g (.ref a) = some ds from h)
    exact ⟨a, vs, e, .inl q, r⟩
  | _ => cases h
/-- the truth of a value (texts: told where it is asked) -/
def truD (g : DG) : DV → Option Bool
  | .non => some false
  | .bl b => some b
  | .int i => some (i != 0)
  | .tup ds => some (!ds.isEmpty)
  | .lst ds => some (!ds.isEmpty)
  | .ref p => match g p with | some (.lst ds) => some (!ds.isEmpty) | _ => none
  | .scr ns => some (!ns.isEmpty)
  | .str x => if x.length ≤ 16777216 then some ((x.length : Int) != 0) else none
  | _ => none
theorem truV_of {K : Fg} {H : Hp} {g : DG} {d : DV} {v : V} {k : Bool} (rg : RG K H g) (r : RD K H d v) (h : truD g d = some k) : TruV K v H k := by
  cases r with
  | non => cases h; rfl
  | bl b => cases h; rfl
  | int i => cases h; rfl
  | str x =>
    have h' : (if x.length ≤ 16777216 then some ((x.length : Int) != 0) else none) = some k := h
    split at h'
    · rename_i hl
      cases h'
      exact ⟨by rw [sizeLine_eq]; exact hl, rfl⟩
    · cases h'
  | dK hs hr => cases h
  | dT hs hr => cases h
  | ins hs hr => cases h
  | exc hs hr => cases h
  | lam hs hr => cases h
  | tpl hs hr => cases h
  | @scr _ ns hs => cases h; refine .inl ⟨_, hs.sq, ?_⟩; cases ns <;> rfl
  | ref a =>
    have h' : (match g a with | some (.lst ds) => some (!ds.isEmpty) | _ => none) = some k := h
    split at h'
    · cases h'
      rename_i e
      obtain ⟨vs, q, rd⟩ := rg _ _ e
      refine .inl ⟨_, SqL.of q, ?_⟩
      cases rd <;> rfl
    · cases h'
  | ty n => cases h
  | tup hs hr =>
    cases h
    refine .inr (.inl ⟨_, SqT.of hs, ?_⟩)
    cases hr <;> rfl
  | lst hs hr =>
    cases h
    refine .inl ⟨_, hs.sq, ?_⟩
    cases hr <;> rfl
def dTru (t : TDE) : TDT := fun δ g Q => t δ g fun x g' => match truD g' x with | some b => Q b g' | none => False
theorem pt_truD {e : Expr} {t : TDE} (h : PE X e (upE X.K t)) (he : ∀ whole, isTrue e X.env whole = (do let v ← whole; standAt e.pos; holding [v] (truthy v)) := by intro _; rfl) : PT X e (upT X.K (dTru t)) := by
  refine PT_weak (pt_truth h he) fun σ H Q ⟨δ, g, P, rs, rg, h, k⟩ => ⟨δ, g, _, rs, rg, h, fun d g' v H' e rg' rd p => ?_⟩
  split at p
  · rename_i b eb
    exact ⟨b, truV_of rg' rd eb, k _ _ _ e rg' p⟩
  · exact p.elim
def dAnd (t u : TDT) : TDT := fun δ g Q => t δ g fun c g1 => if c = true then u δ g1 Q else Q false g1
def dOr (t u : TDT) : TDT := fun δ g Q => t δ g fun c g1 => if c = true then Q true g1 else u δ g1 Q
def dNot (t : TDT) : TDT := fun δ g Q => t δ g fun c g1 => Q (!c) g1
variable {tA tB' : TDT} {rest : List Expr}
theorem pwd_and1 (ha : PT X a (upT X.K tA)) : PW X (.BoolOp .And [a] pos) (upT X.K tA) := pw_and1 ha
theorem pwd_or1 (ha : PT X a (upT X.K tA)) : PW X (.BoolOp .Or [a] pos) (upT X.K tA) := pw_or1 ha
theorem pwd_and (ha : PT X a (upT X.K tA)) (hb : PW X (.BoolOp .And (b :: rest) pos) (upT X.K tB')) : PW X (.BoolOp .And (a :: b :: rest) pos) (upT X.K (dAnd tA tB')) := by
  refine PW_weak (pw_and ha hb) fun σ H Q ⟨δ, g, P, rs, rg, h, k⟩ => ⟨δ, g, _, rs, rg, h, fun c g1 H1 e rg1 p => ?_⟩
  cases c with
  | true =>
    rw [if_pos rfl] at p ⊢
    exact ⟨δ, g1, _, rs.mono (e.kp rg), rg1, p, fun b g2 H2 e2 rg2 p2 => k _ _ _ (e.trans e2) rg2 p2⟩
  | false =>
    rw [if_neg Bool.false_ne_true] at p ⊢
    exact k _ _ _ e rg1 p
theorem pwd_or (ha : PT X a (upT X.K tA)) (hb : PW X (.BoolOp .Or (b :: rest) pos) (upT X.K tB')) : PW X (.BoolOp .Or (a :: b :: rest) pos) (upT X.K (dOr tA tB')) := by
  refine PW_weak (pw_or ha hb) fun σ H Q ⟨δ, g, P, rs, rg, h, k⟩ => ⟨δ, g, _, rs, rg, h, fun c g1 H1 e rg1 p => ?_⟩
  cases c with
  | false =>
    rw [if_neg Bool.false_ne_true] at p ⊢
    exact ⟨δ, g1, _, rs.mono (e.kp rg), rg1, p, fun b g2 H2 e2 rg2 p2 => k _ _ _ (e.trans e2) rg2 p2⟩
  | true =>
    rw [if_pos rfl] at p ⊢
    exact k _ _ _ e rg1 p
theorem pwd_pt {e : Expr} {t : TDT} (h : PW X e (upT X.K t)) : PT X e (upT X.K t) := h.pt
theorem pt_notD (ha : PT X a (upT X.K tA)) : PT X (.UnaryOp .Not a pos) (upT X.K (dNot tA)) :=
  PT_weak (pt_not ha) fun σ H Q ⟨δ, g, P, rs, rg, h, k⟩ => ⟨δ, g, _, rs, rg, h, fun c g1 H1 e rg1 p => k _ _ _ e rg1 p⟩
/-- and, or as values: by truth -/
def dAndV (t u : TDE) : TDE := fun δ g Q => t δ g fun x g1 => match truD g1 x with | some k => if k = true then u δ g1 Q else Q x g1 | none => False
def dOrV (t u : TDE) : TDE := fun δ g Q => t δ g fun x g1 => match truD g1 x with | some k => if k = true then Q x g1 else u δ g1 Q | none => False
def dNotV (t : TDE) : TDE := fun δ g Q => t δ g fun x g1 => match truD g1 x with | some b => Q (.bl (!b)) g1 | none => False
theorem pd_one {op} {t : TDE} (h : PE X a (upE X.K t)) : PE X (.BoolOp op [a] pos) (upE X.K t) := pe_one h
theorem pd_and (ha : PE X a (upE X.K ta)) (hb : PE X (.BoolOp .And (b :: rest) pos) (upE X.K tb)) : PE X (.BoolOp .And (a :: b :: rest) pos) (upE X.K (dAndV ta tb)) := by
  refine PE_weak (pe_andT ha hb) fun σ H Q ⟨δ, g, P, rs, rg, h, k⟩ => ⟨δ, g, _, rs, rg, h, fun c g1 v H1 e rg1 rd p => ?_⟩
  split at p
  · rename_i q eb
    refine ⟨q, truV_of rg1 rd eb, ?_⟩
    cases q with
    | true => rw [if_pos rfl] at p ⊢; exact ⟨δ, g1, _, rs.mono (e.kp rg), rg1, p, fun b g2 v2 H2 e2 rg2 rd2 p2 => k _ _ _ _ (e.trans e2) rg2 rd2 p2⟩
    | false => rw [if_neg Bool.false_ne_true] at p ⊢; exact k _ _ _ _ e rg1 rd p
  · exact p.elim
theorem pd_or (ha : PE X a (upE X.K ta)) (hb : PE X (.BoolOp .Or (b :: rest) pos) (upE X.K tb)) : PE X (.BoolOp .Or (a :: b :: rest) pos) (upE X.K (dOrV ta tb)) := by
  refine PE_weak (pe_orT ha hb) fun σ H Q ⟨δ, g, P, rs, rg, h, k⟩ => ⟨δ, g, _, rs, rg, h, fun c g1 v H1 e rg1 rd p => ?_⟩
  split at p
  · rename_i q eb
    refine ⟨q, truV_of rg1 rd eb, ?_⟩
    cases q with
    | true => rw [if_pos rfl] at p ⊢; exact k _ _ _ _ e rg1 rd p
    | false => rw [if_neg Bool.false_ne_true] at p ⊢; exact ⟨δ, g1, _, rs.mono (e.kp rg), rg1, p, fun b g2 v2 H2 e2 rg2 rd2 p2 => k _ _ _ _ (e.trans e2) rg2 rd2 p2⟩
  · exact p.elim
theorem pd_not (ha : PE X a (upE X.K ta)) : PE X (.UnaryOp .Not a pos) (upE X.K (dNotV ta)) := by
  refine PE_weak (pe_notT ha) fun σ H Q ⟨δ, g, P, rs, rg, h, k⟩ => ⟨δ, g, _, rs, rg, h, fun c g1 v H1 e rg1 rd p => ?_⟩
  split at p
  · rename_i b eb
    exact ⟨b, truV_of rg1 rd eb, k _ _ _ _ e rg1 (.bl _) p⟩
  · exact p.elim
def dIfE (c : TDT) (t u : TDE) : TDE := fun δ g Q => c δ g fun b g1 => if b = true then t δ g1 Q else u δ g1 Q
theorem pd_ifExp {c : Expr} (hc : PT X c (upT X.K tA)) (ha : PE X a (upE X.K ta)) (hb : PE X b (upE X.K tb)) : PE X (.IfExp c a b pos) (upE X.K (dIfE tA ta tb)) := by
  refine PE_weak (pe_ifExp hc ha hb) fun σ H Q ⟨δ, g, P, rs, rg, h, k⟩ => ⟨δ, g, _, rs, rg, h, fun c g1 H1 e rg1 p => ?_⟩
  cases c with
  | true =>
    rw [if_pos rfl] at p ⊢
    exact ⟨δ, g1, _, rs.mono (e.kp rg), rg1, p, fun b g2 v2 H2 e2 rg2 rd2 p2 => k _ _ _ _ (e.trans e2) rg2 rd2 p2⟩
  | false =>
    rw [if_neg Bool.false_ne_true] at p ⊢
    exact ⟨δ, g1, _, rs.mono (e.kp rg), rg1, p, fun b g2 v2 H2 e2 rg2 rd2 p2 => k _ _ _ _ (e.trans e2) rg2 rd2 p2⟩
def dUn (r : RR1) (a : TDE) : TDE := fun δ g Q => a δ g fun x g1 => r x g1 fun z => Q z g1
def rrNeg : RR1 := fun x _ P => match x with | .int i => P (.int (-i)) | _ => False
theorem pd_neg (ha : PE X a (upE X.K ta)) : PE X (.UnaryOp .USub a pos) (upE X.K (dUn rrNeg ta)) := by
  refine PE_weak (pe_un un_neg ha) fun σ H Q ⟨δ, g, P, rs, rg, h, k⟩ => ⟨δ, g, _, rs, rg, h, fun c g1 v H1 e rg1 rd p => ?_⟩
  cases c <;> first
    | exact False.elim p
    | (cases rd; exact ⟨_, rfl, k _ _ _ _ e rg1 (.int _) p⟩)

/-! ### arguments, displays -/
def dNil : TDA := fun _ g Q => Q [] g
def dCons (t : TDE) (r : TDA) : TDA := fun δ g Q => t δ g fun x g1 => r δ g1 fun xs g2 => Q (x :: xs) g2
variable {es : List Expr} {te : TDE} {t : TDA} {e : Expr}
theorem pda_nil : PA X [] (upA X.K dNil) := PA_weak pa_nil fun σ H Q ⟨δ, g, P, rs, rg, h, k⟩ => k _ _ _ _ Ext.refl rg .nil h
theorem pda_cons (ha : PE X e (upE X.K te)) (hr : PA X es (upA X.K t)) (hs : starEach (e :: es) X.env = (false, eval e X.env) :: starEach es X.env := by rfl) : PA X (e :: es) (upA X.K (dCons te t)) :=
  PA_weak (pa_cons ha hr hs) fun σ H Q ⟨δ, g, P, rs, rg, h, k⟩ => ⟨δ, g, _, rs, rg, h, fun d g1 v H1 e1 rg1 rd1 h1 => ⟨δ, g1, _, rs.mono (e1.kp rg), rg1, h1, fun ds g2 vs H2 e2 rg2 rd2 h2 =>
    k _ _ _ _ (e1.trans e2) rg2 (.cons (rd1.mono (e2.kp rg1)) rd2) h2⟩⟩
def dTup (t : TDA) : TDE := fun δ g Q => t δ g fun ds g1 => ds.length ≤ sizeLine ∧ Q (.tup ds) g1
/-- a list that no one will change -/
def dLst (t : TDA) : TDE := fun δ g Q => t δ g fun ds g1 => ds.length ≤ sizeLine ∧ Q (.lst ds) g1
/-- a list that will be changed -/
def dLstM (t : TDA) : TDE := fun δ g Q => t δ g fun ds g1 => ds.length ≤ sizeLine ∧ ∀ p, g1 p = none → Q (.ref p) (gup g1 p (.lst ds))
theorem pd_tup {x1} (h : PA X es (upA X.K t)) : PE X (.Tuple es x1 pos) (upE X.K (dTup t)) :=
  PE_weak (pe_tup h) fun σ H Q ⟨δ, g, P, rs, rg, h, k⟩ => ⟨δ, g, _, rs, rg, h, fun ds g1 vs H1 e1 rg1 rd1 h1 => ⟨by rw [← rd1.length]; exact h1.1, fun p hp =>
    tup_new (P := P) rg1 hp rd1 (fun d g' v H' e rg' rd' p' => k d g' v H' (e1.trans e) rg' rd' p') h1.2⟩⟩
theorem pd_lst (h : PA X es (upA X.K t)) : PE X (.List es pos) (upE X.K (dLst t)) :=
  PE_weak (PE_fz (pe_lst h)) fun σ H Q ⟨δ, g, P, rs, rg, h, k⟩ => ⟨δ, g, _, rs, rg, h, fun ds g1 vs H1 e1 rg1 rd1 h1 => ⟨by rw [← rd1.length]; exact h1.1, fun p hp =>
    fz_new (P := P) rg1 hp rd1 (fun d g' v H' e rg' rd' p' => k d g' v H' (e1.trans e) rg' rd' p') h1.2⟩⟩
theorem pd_lstM (h : PA X es (upA X.K t)) : PE X (.List es pos) (upE X.K (dLstM t)) :=
  PE_weak (pe_lst h) fun σ H Q ⟨δ, g, P, rs, rg, h, k⟩ => ⟨δ, g, _, rs, rg, h, fun ds g1 vs H1 e1 rg1 rd1 h1 => ⟨by rw [← rd1.length]; exact h1.1, fun p hp =>
    k _ _ _ _ (e1.trans (Ext.new hp)) (rg1.new hp rd1) (.ref p) (h1.2 p (rg1.none hp))⟩⟩

/-! ### calls -/
/-- a built-in, by values -/
def RefCall (K : Fg) (r : RRs) (R : List V → Hp → VK → Prop) : Prop := ∀ (xs : List DV) (P : DV → Prop) (vs : List V) (H : Hp) (g : DG) (Q : VK), RG K H g → RDs K H xs vs →
  (∀ z w H', Ext g H g H' → RG K H' g → RD K H' z w → P z → Q w H') → r xs g P → R vs H (fz Q)
def dCB (r : RRs) (t : TDA) : TDE := fun δ g Q => t δ g fun xs g1 => r xs g1 fun z => Q z g1
variable {x : Str} {p : Pos}
theorem cb_up {r : RRs} {R : List V → Hp → VK → Prop} {σ : L2.St} {H : Hp} {Q : VK} {K : Fg} (rf : RefCall K r R) (h : upE K (dCB r t) σ H Q) : tCB (fun xs H Q => R xs H (fz Q)) (upA K t) σ H Q := by
  obtain ⟨δ, g, P, rs, rg, h, k⟩ := h
  exact ⟨δ, g, _, rs, rg, h, fun ds g1 vs H1 e1 rg1 rd1 h1 => rf ds _ vs H1 g1 Q rg1 rd1 (fun z w H' e rg' rd' pz => k z g1 w H' (e1.trans e) rg' rd' pz) h1⟩
theorem pd_callB {id : String} {r : RRs} {R : List V → Hp → VK → Prop} (hc : CallR X (.builtin id) R) (rf : RefCall X.K r R) (hm : X.mg x = none) (hv : bootBuiltins x = some (.builtin id)) (ha : PA X (e :: es) (upA X.K t)) (hg : Gl X x := by rfl) (hn : x ≠ "__name__" := by decide) (hdb : (x == ("__debug__" : Str)) = false := by decide)
    (he : starEach (e :: es) X.env = (false, eval e X.env) :: starEach es X.env := by rfl) (hpl : (backTo pos (starEach es X.env)).any (·.1) = false := by rfl) : PE X (.Call (.Name x p) (e :: es) [] pos) (upE X.K (dCB r t)) :=
  PE_weak (pe_callB (CallR_fz hc) hg hm hv ha hn hdb he hpl) fun _ _ _ h => cb_up rf h
theorem pd_callTy {T : String} {r : RRs} {R : List V → Hp → VK → Prop} (hc : CallR X (.type T) R) (rf : RefCall X.K r R) (hm : X.mg x = none) (hv : bootBuiltins x = some (.type T)) (ha : PA X (e :: es) (upA X.K t)) (hg : Gl X x := by rfl) (hn : x ≠ "__name__" := by decide) (hdb : (x == ("__debug__" : Str)) = false := by decide)
    (he : starEach (e :: es) X.env = (false, eval e X.env) :: starEach es X.env := by rfl) (hpl : (backTo pos (starEach es X.env)).any (·.1) = false := by rfl) : PE X (.Call (.Name x p) (e :: es) [] pos) (upE X.K (dCB r t)) :=
  PE_weak (pe_callTy (CallR_fz hc) hg hm hv ha hn hdb he hpl) fun _ _ _ h => cb_up rf h
/-- a def of the text -/
def dCall (sp : SpD) (t : TDA) : TDE := fun δ g Q => t δ g fun xs g1 => sp xs g1 Q
theorem pd_call {CX : CXT} {k : Nat} {f : Addr} {fd : FuncData} {ps : List Str} {sp : SpD} {E : XK} (F : FnOk X.prog X.w X.K X.mg X.base CX k f fd ps (upSp X.K sp)) (hr : Room k X.A) (hm : X.mg x = some (.ref f)) (hk : PySem.W.keepIn X.K (.ref f) = true) (hb : Binds X.K fd ps []) (hx : Passes CX X E)
    (ha : PA X (e :: es) (upA X.K t)) (hg : Gl X x := by rfl) (hdb : (x == ("__debug__" : Str)) = false := by decide) (he : starEach (e :: es) X.env = (false, eval e X.env) :: starEach es X.env := by rfl) (hpl : (backTo pos (starEach es X.env)).any (·.1) = false := by rfl) :
    PE X (.Call (.Name x p) (e :: es) [] pos) (upE X.K (dCall sp t)) := by
  refine PE_weak (pe_call F hr hg hm hk hb .nil hx ha hdb he hpl) fun σ H Q ⟨δ, g, P, rs, rg, h, k⟩ => ⟨δ, g, _, rs, rg, h, fun ds g1 vs H1 e1 rg1 rd1 h1 => ?_⟩
  show upSp X.K sp (vs ++ []) H1 Q E
  rw [List.append_nil]
  exact ⟨ds, g1, P, rd1, rg1, h1, fun d g' v H' e rg' rd' p' => k d g' v H' (e1.trans e) rg' rd' p'⟩
/-! ### subscripts, slices -/
def optD (o : Option DV) (P : DV → Prop) : Prop := match o with | some d => P d | none => False
def ixD : RR2 := fun x y g P => match y with
  | .int i => match seqD g x with | some ds => optD (atI ds i) P | none => False
  | _ => False
theorem atI_rd {K : Fg} {H : Hp} {ds : List DV} {vs : List V} {i : Int} {d : DV} (r : RDs K H ds vs) (h : atI ds i = some d) : ∃ v, atI vs i = some v ∧ RD K H d v := by
  unfold atI at h ⊢
  rw [← r.length]
  cases e : ixN ds.length i with
  | none => rw [e] at h; cases h
  | some j =>
    rw [e] at h
    obtain ⟨v, h1, h2⟩ := r.get (show ds[j]? = some d from h)
    exact ⟨v, h1, h2⟩
theorem pd_ix (ha : PE X a (upE X.K ta)) (hb : PE X b (upE X.K tb)) (hs : PlainIx b := by intro _ _; rfl) : PE X (.Subscript a b pos) (upE X.K (dOp ixD ta tb)) := by
  refine PE_weak (pe_ix ix_seq ha hb hs) fun σ H Q ⟨δ, g, P, rs, rg, h, k⟩ => ⟨δ, g, _, rs, rg, h, fun d g1 v H1 e1 rg1 rd1 h1 => ⟨δ, g1, _, rs.mono (e1.kp rg), rg1, h1, fun d2 g2 u H2 e2 rg2 rd2 h2 => ?_⟩⟩
  have rd1' := rd1.mono (e2.kp rg1)
  unfold ixD at h2
  split at h2 <;> first | exact h2.elim | skip
  cases rd2
  split at h2 <;> first | exact h2.elim | skip
  rename_i ds es
  obtain ⟨p, vs, rfl, hq, hr⟩ := seqD_of rg2 rd1' es
  unfold optD at h2
  split at h2 <;> first | exact h2.elim | skip
  rename_i z ez
  obtain ⟨w, hw, rw'⟩ := atI_rd hr ez
  rcases hq with hq | hq
  · exact .inl ⟨p, vs, _, w, rfl, rfl, hq, hw, k _ _ _ _ (e1.trans e2) rg2 rw' h2⟩
  · exact .inr (.inl ⟨p, vs, _, w, rfl, rfl, hq, hw, k _ _ _ _ (e1.trans e2) rg2 rw' h2⟩)
end
end DL

/-! Deep layer C: statements, targets, loops, comprehensions, defs. -/
namespace DL
open PySem PySem.Spec PyProof.Rows L2
section
variable {X : Cx} {pos : Pos} {st : Stmt} {rest : List Stmt} {t u : TDS} {e : Expr} {te : TDE}
/-! ### statements -/
def dNext : TDS := fun E δ g => E.nx δ g
def dSeq (t u : TDS) : TDS := fun E δ g => t { E with nx := u E } δ g
theorem up_nx {K : Fg} {D : Ends} {σ : L2.St} {H : Hp} (h : upS K dNext D σ H) : D.nx σ H := by
  obtain ⟨δ, g, E, rs, rg, h, k1, _⟩ := h
  exact k1 _ _ _ _ Ext.refl rg rs h
theorem pds_nil : PSs X [] (upS X.K dNext) := PSs_weak pss_nil fun _ _ _ h => up_nx h
/-- the ends behind a further step -/
theorem up_go {K : Fg} {D : Ends} {E : DEnds} {t : TDS} {δ1 : DS} {g g1 : DG} {σ1 : L2.St} {H H1 : Hp} (e : Ext g H g1 H1) (rs : RS K H1 δ1 σ1) (rg : RG K H1 g1) (h : t E δ1 g1)
    (k : (∀ δ' g' σ' H', Ext g H g' H' → RG K H' g' → RS K H' δ' σ' → E.nx δ' g' → D.nx σ' H') ∧ (∀ d g' v H', Ext g H g' H' → RG K H' g' → RD K H' d v → E.rt d g' → D.rt v H') ∧
      (∀ δ' g' σ' H', Ext g H g' H' → RG K H' g' → RS K H' δ' σ' → E.bk δ' g' → D.bk σ' H') ∧ (∀ δ' g' σ' H', Ext g H g' H' → RG K H' g' → RS K H' δ' σ' → E.ct δ' g' → D.ct σ' H')) : upS K t D σ1 H1 :=
  ⟨δ1, g1, E, rs, rg, h, fun _ _ _ _ e' => k.1 _ _ _ _ (e.trans e'), fun _ _ _ _ e' => k.2.1 _ _ _ _ (e.trans e'), fun _ _ _ _ e' => k.2.2.1 _ _ _ _ (e.trans e'), fun _ _ _ _ e' => k.2.2.2 _ _ _ _ (e.trans e')⟩
theorem pds_cons (h1 : PS X st (upS X.K t)) (h2 : PSs X rest (upS X.K u)) : PSs X (st :: rest) (upS X.K (dSeq t u)) :=
  PSs_weak (pss_cons h1 h2) fun D σ H ⟨δ, g, E, rs, rg, h, k1, k2, k3, k4⟩ =>
    ⟨δ, g, { E with nx := u E }, rs, rg, h, fun δ' g' σ' H' e rg' rs' q => up_go e rs' rg' q ⟨k1, k2, k3, k4⟩, k2, k3, k4⟩
theorem pds_one (h1 : PS X st (upS X.K t)) : PSs X [st] (upS X.K t) := pss_one h1
def dBreak : TDS := fun E δ g => E.bk δ g
def dCont : TDS := fun E δ g => E.ct δ g
def dNever : TDS := fun _ _ _ => False
theorem pds_never : PS X st (upS X.K dNever) := PS_weak ps_never fun _ _ _ ⟨_, _, _, _, _, h, _⟩ => h
def dDrop (te : TDE) : TDS := fun E δ g => te δ g fun _ g1 => E.nx δ g1
theorem pds_expr (he : PE X e (upE X.K te)) (hs : swapsWith e none pos.line X.env = pure false := by rfl) : PS X (.Expr e pos) (upS X.K (dDrop te)) :=
  PS_weak (ps_expr he hs) fun D σ H ⟨δ, g, E, rs, rg, h, k⟩ => ⟨δ, g, _, rs, rg, h, fun d g' v H' e rg' rd p => k.1 _ _ _ _ e rg' (rs.mono (e.kp rg)) p⟩
def dRet (te : TDE) : TDS := fun E δ g => te δ g E.rt
theorem pds_ret (he : PE X e (upE X.K te)) : PS X (.Return (some e) pos) (upS X.K (dRet te)) :=
  PS_weak (ps_ret he) fun D σ H ⟨δ, g, E, rs, rg, h, k⟩ => ⟨δ, g, _, rs, rg, h, fun d g' v H' e rg' rd p => k.2.1 _ _ _ _ e rg' rd p⟩
def dRetN : TDS := fun E _ g => E.rt .non g
def dIf (c : TDT) (t u : TDS) : TDS := fun E δ g => c δ g fun b g1 => if b = true then t E δ g1 else u E δ g1
theorem pds_if {c : Expr} {a b : List Stmt} {tc : TDT} (hc : PT X c (upT X.K tc)) (ha : PSs X a (upS X.K t)) (hb : PSs X b (upS X.K u)) : PS X (.If c a b pos) (upS X.K (dIf tc t u)) :=
  PS_weak (ps_if hc ha hb) fun D σ H ⟨δ, g, E, rs, rg, h, k⟩ => ⟨δ, g, _, rs, rg, h, fun b g' H' e rg' p => by
    cases b with
    | true => rw [if_pos rfl] at p ⊢; exact up_go e (rs.mono (e.kp rg)) rg' p k
    | false => rw [if_neg Bool.false_ne_true] at p ⊢; exact up_go e (rs.mono (e.kp rg)) rg' p k⟩

/-! ### targets -/
/-- a name's slot, or a tuple of names -/
inductive Tg where
  | nm (i : Nat)
  | tp (is : List Nat)
  /-- x, (y, ..) -/
  | nq (i : Nat) (js : List Nat)
  /-- (x, ..), y -/
  | qn (is : List Nat) (j : Nat)
def setAll : List Nat → List DV → DS → Option DS
  | [], [], δ => some δ
  | i :: is, d :: ds, δ => setAll is ds (δ.set i (some d))
  | _, _, _ => none
def bindT : Tg → DV → DS → Option DS
  | .nm i, d, δ => some (δ.set i (some d))
  | .tp is, .tup ds, δ => setAll is ds δ
  | .tp _, _, _ => none
  | .nq i js, .tup [a, .tup ds], δ => setAll js ds (δ.set i (some a))
  | .nq _ _, _, _ => none
  | .qn is j, .tup [.tup ds, b], δ => (setAll is ds δ).map fun δ => δ.set j (some b)
  | .qn _ _, _, _ => none
def gAll : List Nat → TGs
  | [] => gNil
  | i :: is => gCons (gName i) (gAll is)
def tgG (K : Fg) : Tg → TG
  | .nm i => gName i
  | .tp is => gTup K is.length (gAll is)
  | .nq i js => gTup K 2 (gCons (gName i) (gCons (gTup K js.length (gAll js)) gNil))
  | .qn is j => gTup K 2 (gCons (gTup K is.length (gAll is)) (gCons (gName j) gNil))
def Tg.ix : Tg → List Nat
  | .nm i => [i]
  | .tp is => is
  | .nq i js => i :: js
  | .qn is j => is ++ [j]
theorem wipe_set {σ : L2.St} {i : Nat} {v : Option V} : ∀ {vs : List Nat}, i ∈ vs → wipe (σ.set i v) vs = wipe σ vs
  | [], h => by cases h
  | w :: vs, h => by
    unfold wipe
    by_cases hw : i = w
    · subst hw
      by_cases hv : i ∈ vs
      · rw [wipe_set hv]
      · rw [wipe_comm hv, List.set_set]
    · have hv : i ∈ vs := by
        rcases List.mem_cons.mp h with h | h
        · exact absurd h hw
        · exact h
      rw [wipe_set hv]
where wipe_comm {σ : L2.St} {i : Nat} {v : Option V} : ∀ {vs : List Nat}, i ∉ vs → wipe (σ.set i v) vs = (wipe σ vs).set i v
  | [], _ => rfl
  | w :: vs, h => by
    unfold wipe
    rw [wipe_comm (fun z => h (List.mem_cons_of_mem _ z)), List.set_comm _ _ (fun z => h (by rw [z]; exact List.mem_cons_self))]
theorem gAll_run {K : Fg} {H : Hp} {Q : L2.St → Hp → Prop} : ∀ {is : List Nat} {ds : List DV} {vs : List V} {δ δ' : DS} {σ : L2.St}, RDs K H ds vs → RS K H δ σ → setAll is ds δ = some δ' →
    (∀ σ', RS K H δ' σ' → (∀ ws, (∀ i ∈ is, i ∈ ws) → wipe σ' ws = wipe σ ws) → Q σ' H) → gAll is vs σ H Q
  | [], _, _, δ, δ', σ, .nil, rs, e, k => by
    cases e
    exact ⟨rfl, k σ rs fun _ _ => rfl⟩
  | i :: is, _, _, δ, δ', σ, .cons r t, rs, e, k => by
    refine ⟨_, _, rfl, ?_⟩
    show gAll is _ (σ.set i _) H Q
    refine gAll_run t (rs.set i r) e fun σ' rs' hw => k σ' rs' fun ws hws => ?_
    rw [hw ws fun j hj => hws j (List.mem_cons_of_mem _ hj)]
    exact wipe_set (hws i List.mem_cons_self)
  | [], _, _, _, _, _, .cons _ _, _, e, _ => by cases e
  | _ :: _, _, _, _, _, _, .nil, _, e, _ => by cases e
theorem setAll_len : ∀ {is : List Nat} {ds : List DV} {δ δ' : DS}, setAll is ds δ = some δ' → ds.length = is.length
  | [], [], _, _, _ => rfl
  | _ :: is, _ :: ds, _, _, e => by rw [List.length_cons, List.length_cons, setAll_len (is := is) (ds := ds) e]
  | [], _ :: _, _, _, e => by cases e
  | _ :: _, [], _, _, e => by cases e
theorem tg_run {K : Fg} {H : Hp} {Q : L2.St → Hp → Prop} {tg : Tg} {d : DV} {v : V} {δ δ' : DS} {σ : L2.St} (r : RD K H d v) (rs : RS K H δ σ) (e : bindT tg d δ = some δ')
    (k : ∀ σ', RS K H δ' σ' → (∀ ws, (∀ i ∈ tg.ix, i ∈ ws) → wipe σ' ws = wipe σ ws) → Q σ' H) : tgG K tg v σ H Q := by
  cases tg with
  | nm i =>
    cases e
    exact k _ (rs.set i r) fun ws hw => wipe_set (hw i (by simp [Tg.ix]))
  | tp is =>
    cases r with
    | tup hs hr =>
      refine ⟨_, _, rfl, SqT.of hs, ?_, gAll_run hr rs e k⟩
      rw [← hr.length]
      exact setAll_len e
    | _ => cases e
  | nq i js =>
    cases r with
    | tup hs hr =>
      cases hr with
      | nil => cases e
      | cons r1 hr =>
        cases hr with
        | nil => cases e
        | cons r2 hr =>
          cases hr with
          | cons r3 hr => cases r2 <;> cases e
          | nil =>
            cases r2 with
            | tup hs2 hr2 =>
              refine ⟨_, _, rfl, SqT.of hs, rfl, _, _, rfl, _, _, rfl, _, _, rfl, SqT.of hs2, ?_, gAll_run hr2 (rs.set i r1) e fun σ' rs' hw => ⟨rfl, k σ' rs' fun ws hws => ?_⟩⟩
              · rw [← hr2.length]
                exact setAll_len e
              · rw [hw ws fun j hj => hws j (List.mem_cons_of_mem _ hj)]
                exact wipe_set (hws i List.mem_cons_self)
            | _ => cases e
    | _ => cases e
  | qn is j =>
    cases r with
    | tup hs hr =>
      cases hr with
      | nil => cases e
      | cons r1 hr =>
        cases hr with
        | nil => cases r1 <;> cases e
        | cons r2 hr =>
          cases hr with
          | cons r3 hr => cases r1 <;> cases e
          | nil =>
            cases r1 with
            | tup hs2 hr2 =>
              simp only [bindT] at e
              obtain ⟨δ1, e1, e2⟩ := Option.map_eq_some_iff.mp e
              subst e2
              refine ⟨_, _, rfl, SqT.of hs, rfl, _, _, rfl, _, _, rfl, SqT.of hs2, ?_, gAll_run hr2 rs e1 fun σ' rs' hw => ⟨_, _, rfl, rfl, k _ (rs'.set j r2) fun ws hws => ?_⟩⟩
              · rw [← hr2.length]
                exact setAll_len e1
              · rw [wipe_set (hws j (List.mem_append_right _ List.mem_cons_self)), hw ws fun i hi => hws i (List.mem_append_left _ hi)]
            | _ => cases e
    | _ => cases e
/-- target = value -/
def dAsg (tg : Tg) (te : TDE) : TDS := fun E δ g => te δ g fun d g1 => match bindT tg d δ with | some δ' => E.nx δ' g1 | none => False
theorem asg_up {K : Fg} {tg : Tg} {D : Ends} {σ : L2.St} {H : Hp} (h : upS K (dAsg tg te) D σ H) : tAsg (upE K te) (tgG K tg) D σ H := by
  obtain ⟨δ, g, E, rs, rg, h, k1, k⟩ := h
  refine ⟨δ, g, _, rs, rg, h, fun d g1 v H1 e rg1 rd p => ?_⟩
  split at p
  · rename_i δ' eb
    exact tg_run rd (rs.mono (e.kp rg)) eb fun σ' rs' _ => k1 _ _ _ _ e rg1 rs' p
  · exact p.elim
theorem pds_set {i : Nat} {x : Str} {pos' : Pos} (hN : X.N.Nodup) (he : PE X e (upE X.K te)) (hi : X.N[i]? = some x := by rfl) (hx : Loc X.env.scope x := by first | exact Or.inl rfl | exact Or.inr rfl) (hs : swapsWith e (some (.Name x pos')) pos.line X.env = pure false := by rfl)
    (hf : X.fn x = true ∨ X.env.scope.names.lookup x = some .local := by first | exact .inl rfl | exact .inr rfl | assumption) : PS X (.Assign [.Name x pos'] e pos) (upS X.K (dAsg (.nm i) te)) :=
  PS_weak (ps_set hN hi hx he hs hf) fun D σ H h => asg_up h
/-- a, b = e -/
theorem pds_setT {tgx : Expr} {tg : Tg} (hg : PG X tgx (tgG X.K tg)) (he : PE X e (upE X.K te)) (hs : swapsWithSole [tgx] e pos.line X.env = pure false := by rfl) (hw : swappedStores [tgx] e X.env = pure none := by rfl)
    (h1 : (assignEach [tgx] X.env).map (·.2) = [assign tgx X.env] := by rfl) : PS X (.Assign [tgx] e pos) (upS X.K (dAsg tg te)) :=
  PS_weak (ps_asg he hg hs hw h1) fun D σ H h => asg_up h
/-- a, b = x, y -/
def dPar (is : List Nat) (ta : TDA) : TDS := fun E δ g => ta δ g fun ds g1 => match setAll is ds δ with | some δ' => E.nx δ' g1 | none => False
theorem setAll_rs {K : Fg} {H : Hp} : ∀ {is : List Nat} {ds : List DV} {vs : List V} {δ δ' : DS} {σ : L2.St}, RDs K H ds vs → RS K H δ σ → setAll is ds δ = some δ' → ∃ σ', σ' = (is.zip vs).foldl (fun s p => s.set p.1 (some p.2)) σ ∧ RS K H δ' σ'
  | [], _, _, _, _, _, .nil, rs, e => by cases e; exact ⟨_, rfl, rs⟩
  | i :: is, d :: ds, v :: vs, δ, δ', σ, .cons r t, rs, e => by
    obtain ⟨s, e1, e2⟩ := setAll_rs (is := is) (δ := δ.set i (some d)) (σ := σ.set i (some v)) t (rs.set i r) e
    exact ⟨s, e1, e2⟩
  | [], _, _, _, _, _, .cons _ _, _, e => by cases e
  | _ :: _, _, _, _, _, _, .nil, _, e => by cases e
theorem pds_par {i j : Nat} {x y : Str} {a b : Expr} {ta : TDA} {px py pt : Pos} {kt k2 pt2} (hc : X.calm = true) (hN : X.N.Nodup) (ha : PA X [a, b] (upA X.K ta)) (hi : X.N[i]? = some x := by rfl) (hj : X.N[j]? = some y := by rfl) (hij : i ≠ j := by decide)
    (hx : X.env.scope.names.lookup x = some .local := by rfl) (hy : X.env.scope.names.lookup y = some .local := by rfl)
    (hw : swappedStores [.Tuple [.Name x px, .Name y py] kt pt] (.Tuple [a, b] k2 pt2) X.env = pure (some [x, y]) := by rfl)
    (hs : swapsWithSole [.Tuple [.Name x px, .Name y py] kt pt] (.Tuple [a, b] k2 pt2) pos.line X.env = pure false := by rfl) :
    PS X (.Assign [.Tuple [.Name x px, .Name y py] kt pt] (.Tuple [a, b] k2 pt2) pos) (upS X.K (dPar [i, j] ta)) := by
  refine PS_weak (ps_par hc hN hi hj hij hx hy ha hw hs) fun D σ H ⟨δ, g, E, rs, rg, h, k1, k⟩ => ⟨δ, g, _, rs, rg, h, fun ds g1 vs H1 e rg1 rd p => ?_⟩
  split at p
  · rename_i δ' es
    have hl := setAll_len es
    have hv : vs.length = 2 := by rw [← rd.length]; exact hl
    match vs, hv with
    | [v, w], _ =>
      obtain ⟨σ', e', rs'⟩ := setAll_rs rd (rs.mono (e.kp rg)) es
      subst e'
      exact ⟨v, w, rfl, k1 _ _ _ _ e rg1 rs' p⟩
  · exact p.elim
/-! ### loops -/
def dLoop (tg : Tg) (tb : TDS) (E : DEnds) : List DV → DS → DG → Prop
  | [], δ, g => E.nx δ g
  | d :: ds, δ, g => match bindT tg d δ with
    | some δ1 => tb { E with nx := dLoop tg tb E ds, ct := dLoop tg tb E ds, bk := E.nx } δ1 g
    | none => False
def dFor (wi : TDI) (tg : Tg) (tb : TDS) : TDS := fun E δ g => wi δ g fun ds g1 => dLoop tg tb E ds δ g1
/-- what a step of a walk leaves -/
theorem step_kp {H H' : Hp} (h : Grw H H') : Kp H H' := by
  rcases h with h | ⟨p, o, h, e⟩ | ⟨p, o, p2, o2, h, h2, n, e⟩
  · subst h; exact Kp.refl
  · subst e; exact Kp.fresh h
  · subst e; exact (Kp.fresh h).trans (Kp.fresh (by rw [upd_ne n]; exact h2))
theorem step_rg {K : Fg} {g : DG} {H H' : Hp} (h : Grw H H') (rg : RG K H g) : RG K H' g := by
  rcases h with h | ⟨p, o, h, e⟩ | ⟨p, o, p2, o2, h, h2, n, e⟩
  · subst h; exact rg
  · subst e; exact rg.fresh h
  · subst e; exact (rg.fresh h).fresh (by rw [upd_ne n]; exact h2)
theorem step_ext {K : Fg} {g : DG} {H H' : Hp} (h : Grw H H') (rg : RG K H g) : Ext g H g H' := by
  rcases h with h | ⟨p, o, h, e⟩ | ⟨p, o, p2, o2, h, h2, n, e⟩
  · subst h; exact Ext.refl
  · subst e; exact Ext.fresh rg h
  · subst e; exact (Ext.fresh rg h).trans (Ext.fresh (rg.fresh h) (by rw [upd_ne n]; exact h2))
theorem pds_for {iter tgx : Expr} {body : List Stmt} {wi : TDI} {tg : Tg} {tb : TDS} (hp : PassesOwn (model X.prog X.w) X.A X.env X.xe) (hc : X.calm = true) (hi : PI X tgx iter (upI X.K wi)) (hg : PG X tgx (tgG X.K tg)) (hb : PSs X body (upS X.K tb))
    (hs : ∀ x, foldedSetIterable iter X.env x = pure x := by intro _; rfl) : PS X (.For tgx iter body [] pos) (upS X.K (dFor wi tg tb)) := by
  refine PS_weak (ps_for hp hc hi hg hb hs) fun D σ H ⟨δ, g, E, rs, rg, h, k1, k2, k3, k4⟩ => ⟨δ, g, _, rs, rg, h, fun ds g1 J H1 e1 rg1 dw p => ?_⟩
  refine ⟨fun i m σ' H' => m = ds.length - i ∧ i ≤ ds.length ∧ ∃ δ' g', Ext g H g' H' ∧ Kp H1 H' ∧ RS X.K H' δ' σ' ∧ RG X.K H' g' ∧ dLoop tg tb E (ds.drop i) δ' g', ⟨ds.length, rfl, Nat.zero_le _, δ, g1, e1, Kp.refl, rs.mono (e1.kp rg), rg1, p⟩, ?_⟩
  rintro i m σ2 H2 ⟨rfl, hi, δ2, g2, e2, kp2, rs2, rg2, q⟩
  by_cases hlt : i < ds.length
  · have hd : ds.drop i = ds[i] :: ds.drop (i + 1) := List.drop_eq_getElem_cons hlt
    rw [hd] at q
    have q' : (match bindT tg ds[i] δ2 with
      | some δ1 => tb { E with nx := dLoop tg tb E (ds.drop (i + 1)), ct := dLoop tg tb E (ds.drop (i + 1)), bk := E.nx } δ1 g2
      | none => False) := q
    refine .inr ⟨dw.goes i H2 hlt kp2, fun σ' H' => ∃ δ' g', Ext g H g' H' ∧ Kp H1 H' ∧ RS X.K H' δ' σ' ∧ RG X.K H' g' ∧ dLoop tg tb E (ds.drop (i + 1)) δ' g', fun σ' H' z => ⟨ds.length - (i + 1), by omega, rfl, hlt, z⟩, fun x H3 y => ?_⟩
    obtain ⟨st, rd⟩ := dw.yields i H2 x H3 ds[i] (by simp [hlt]) kp2 y
    split at q'
    · rename_i δ3 eb
      refine tg_run rd (rs2.mono (step_kp st)) eb fun σ3 rs3 _ => ?_
      have rg3 := step_rg st rg2
      have e3 := step_ext st rg2
      refine ⟨δ3, g2, _, rs3, rg3, q', fun δ' g' σ' H' e rg' rs' z => ?_, fun d g' v H' e rg' rd' z => k2 _ _ _ _ ((e2.trans e3).trans e) rg' rd' z, fun δ' g' σ' H' e rg' rs' z => k1 _ _ _ _ ((e2.trans e3).trans e) rg' rs' z, fun δ' g' σ' H' e rg' rs' z => ?_⟩
      · exact ⟨δ', g', (e2.trans e3).trans e, (kp2.trans (step_kp st)).trans (e.kp rg3), rs', rg', z⟩
      · exact ⟨δ', g', (e2.trans e3).trans e, (kp2.trans (step_kp st)).trans (e.kp rg3), rs', rg', z⟩
    · exact q'.elim
  · have ei : i = ds.length := by omega
    subst ei
    rw [List.drop_length] at q
    exact .inl ⟨dw.stops H2 kp2, k1 _ _ _ _ e2 rg2 rs2 q⟩
def dWh (c : TDT) (tb : TDS) (E : DEnds) : Nat → DS → DG → Prop
  | 0, _, _ => False
  | n + 1, δ, g => c δ g fun b g1 => if b = true then tb { E with nx := dWh c tb E n, ct := dWh c tb E n, bk := E.nx } δ g1 else E.nx δ g1
def dWhile (c : TDT) (tb : TDS) : TDS := fun E δ g => ∃ n, dWh c tb E n δ g
theorem pds_while {c : Expr} {body : List Stmt} {tc : TDT} {tb : TDS} (hp : PassesOwn (model X.prog X.w) X.A X.env X.xe) (hc : PT X c (upT X.K tc)) (hb : PSs X body (upS X.K tb)) : PS X (.While c body [] pos) (upS X.K (dWhile tc tb)) := by
  refine PS_weak (ps_while hp hc hb) fun D σ H ⟨δ, g, E, rs, rg, ⟨n, h⟩, k1, k2, k3, k4⟩ => ?_
  refine ⟨fun m σ' H' => ∃ δ' g', Ext g H g' H' ∧ RS X.K H' δ' σ' ∧ RG X.K H' g' ∧ dWh tc tb E m δ' g', ⟨n, δ, g, Ext.refl, rs, rg, h⟩, ?_⟩
  rintro m σ2 H2 ⟨δ2, g2, e2, rs2, rg2, q⟩
  cases m with
  | zero => exact False.elim q
  | succ m =>
    refine ⟨δ2, g2, _, rs2, rg2, q, fun b g3 H3 e3 rg3 p => ?_⟩
    cases b with
    | false => rw [if_neg Bool.false_ne_true] at p ⊢; exact k1 _ _ _ _ (e2.trans e3) rg3 (rs2.mono (e3.kp rg2)) p
    | true =>
      rw [if_pos rfl] at p ⊢
      refine ⟨fun σ' H' => ∃ δ' g', Ext g H g' H' ∧ RS X.K H' δ' σ' ∧ RG X.K H' g' ∧ dWh tc tb E m δ' g', fun σ' H' z => ⟨m, Nat.lt_succ_self m, z⟩, δ2, g3, _, rs2.mono (e3.kp rg2), rg3, p, ?_, ?_, ?_, ?_⟩
      · exact fun δ' g' σ' H' e rg' rs' z => ⟨δ', g', (e2.trans e3).trans e, rs', rg', z⟩
      · exact fun d g' v H' e rg' rd' z => k2 _ _ _ _ ((e2.trans e3).trans e) rg' rd' z
      · exact fun δ' g' σ' H' e rg' rs' z => k1 _ _ _ _ ((e2.trans e3).trans e) rg' rs' z
      · exact fun δ' g' σ' H' e rg' rs' z => ⟨δ', g', (e2.trans e3).trans e, rs', rg', z⟩
end
end DL

/-! Deep layer D: walks, comprehensions, defs. -/
namespace DL
open PySem PySem.Spec PyProof.Rows L2
section
variable {X : Cx} {pos : Pos} {tgx e e2 : Expr} {te : TDE} {t : TDA}
/-! ### what is walked -/
def wSeq (te : TDE) : TDI := fun δ g R => te δ g fun x g1 => match x with | .tup ds => R ds g1 | .lst ds => R ds g1 | .scr ns => R (ns.map .int) g1 | .tpl ds => R ds g1 | _ => False
theorem dwalk_st {K : Fg} {a : Addr} {H : Hp} {ds : List DV} {vs : List V} (h : ∀ H', Kp H H' → SqL K H' a vs) (r : RDs K H ds vs) : DWalk K (Itl K a) ds H :=
  ⟨fun i H' hi k => ⟨vs, vs[i]'(by rw [← r.length]; exact hi), h _ k, by simp [show i < vs.length by rw [← r.length]; exact hi]⟩,
   fun H' k => ⟨vs, h _ k, by rw [r.length]; exact Nat.le_refl _⟩, fun i H1 x H' d hd k y => by
    obtain ⟨e, y⟩ := y
    subst e
    obtain ⟨v, hv, rv⟩ := r.get hd
    have := y vs (h _ k)
    rw [hv] at this; cases this
    exact ⟨.inl rfl, rv.mono k⟩⟩
theorem dwalk_list {K : Fg} {a : Addr} {H : Hp} {ds : List DV} {vs : List V} (h : FzL K H a vs) (r : RDs K H ds vs) : DWalk K (Itl K a) ds H := dwalk_st (fun _ k => (k.fz h).sq) r
theorem dwalk_tup {K : Fg} {a : Addr} {H : Hp} {ds : List DV} {vs : List V} (h : SqT K H a vs) (r : RDs K H ds vs) : DWalk K (Itt K a) ds H :=
  ⟨fun i H' hi k => ⟨vs, vs[i]'(by rw [← r.length]; exact hi), k.sqT h, by simp [show i < vs.length by rw [← r.length]; exact hi]⟩,
   fun H' k => ⟨vs, k.sqT h, by rw [r.length]; exact Nat.le_refl _⟩, fun i H1 x H' d hd k y => by
    obtain ⟨e, y⟩ := y
    subst e
    obtain ⟨v, hv, rv⟩ := r.get hd
    have := y vs (k.sqT h)
    rw [hv] at this; cases this
    exact ⟨.inl rfl, rv.mono k⟩⟩
def iSeq (K : Fg) (tl : TE) : TI := fun σ H R => tl σ H fun x H1 => ∃ a, x = .ref a ∧ (((∃ xs, SqL K H1 a xs) ∧ R (Itl K a) H1) ∨ ((∃ xs, SqT K H1 a xs) ∧ R (Itt K a) H1))
theorem pi_seq {l : Expr} {tl : TE} (hl : PE X l tl) : PI X tgx l (iSeq X.K tl) := by
  refine ⟨fun pins s σ H R I h => ?_⟩
  refine thn (hl.run pins s σ H _ I h) fun v s1 ⟨x, H1, I1, r1, q1⟩ => ?_
  obtain ⟨a, e, q1⟩ := q1
  subst e
  rcases q1 with ⟨⟨xs, hq⟩, q⟩ | ⟨⟨xs, hq⟩, q⟩
  · have h1 : PI { X with xe := X.xe } tgx l (iList X.K (fun σ H Q => Q (.ref a) H)) → True := fun _ => trivial
    cases r1
    obtain ⟨its, rv, p, hz⟩ := I1.list hq
    refine wpAny_pyIter_list p.isList ?_
    refine ⟨s1.heap.objs.size, [s1.heap.objs.size], _, _, H1, rfl, I1.kept (t' := s1.toks) fun b o e => Heap.get?_push_of_some _ e, turn_list a _, ⟨_, Heap.get?_push_size _ rfl, rfl, rfl⟩, fun b hb => ?_, q⟩
    have e : b = s1.heap.objs.size := by simpa using hb
    subst e
    exact I1.fpOk (Nat.le_refl _) (I1.hok.fresh (Nat.le_refl _))
  · cases r1
    obtain ⟨its, rv, p, hz⟩ := I1.tuple hq
    refine wpAny_pyIter_tuple (show s1.heap.IsTuple a its.toArray from p) ?_
    refine ⟨s1.heap.objs.size, [s1.heap.objs.size], _, _, H1, rfl, I1.kept (t' := s1.toks) fun b o e => Heap.get?_push_of_some _ e, turn_tuple a _, ⟨_, Heap.get?_push_size _ rfl, rfl, rfl⟩, fun b hb => ?_, q⟩
    have e : b = s1.heap.objs.size := by simpa using hb
    subst e
    exact I1.fpOk (Nat.le_refl _) (I1.hok.fresh (Nat.le_refl _))
theorem pid_seq (he : PE X e (upE X.K te)) : PI X tgx e (upI X.K (wSeq te)) := by
  refine PI_weak (pi_seq he) fun σ H R ⟨δ, g, P, rs, rg, h, k⟩ => ⟨δ, g, _, rs, rg, h, fun d g1 v H1 e1 rg1 rd p => ?_⟩
  cases rd with
  | tup hs hr => exact ⟨_, rfl, .inr ⟨⟨_, SqT.of hs⟩, k _ _ _ _ e1 rg1 (dwalk_tup (SqT.of hs) hr) p⟩⟩
  | lst hs hr => exact ⟨_, rfl, .inl ⟨⟨_, hs.sq⟩, k _ _ _ _ e1 rg1 (dwalk_list hs hr) p⟩⟩
  | scr hs => exact ⟨_, rfl, .inl ⟨⟨_, hs.sq⟩, k _ _ _ _ e1 rg1 (dwalk_st (fun _ k => (k.sc hs).sq) (RDs.ofInts _)) p⟩⟩
  | tpl hs hr => exact ⟨_, rfl, .inr ⟨⟨_, hs.sq⟩, k _ _ _ _ e1 rg1 (dwalk_tup hs.sq hr) p⟩⟩
  | _ => exact False.elim p
/-- lo, lo + 1, .. -/
def rangeD (lo : Int) (n : Nat) : List DV := (List.range n).map fun (i : Nat) => DV.int (lo + i)
theorem dwalk_range {K : Fg} {H : Hp} {lo : Int} {n : Nat} : DWalk K (Itr lo n) (rangeD lo n) H := by
  have hl : (rangeD lo n).length = n := by simp [rangeD]
  refine ⟨fun i H' hi _ => by rw [hl] at hi; exact hi, fun H' _ => by rw [hl]; exact Nat.le_refl _, fun i H1 x H' d hd _ y => ?_⟩
  obtain ⟨e, y⟩ := y
  subst e y
  have hi : i < n := by rw [← hl]; exact (List.getElem?_eq_some_iff.mp hd).1
  have : d = .int (lo + i) := by simp [rangeD, hi] at hd; exact hd.symm
  subst this
  exact ⟨.inl rfl, .int _⟩
def rngOk (i j : Int) : Prop := -(2 ^ 62) ≤ i ∧ i < 2 ^ 62 ∧ -(2 ^ 62) ≤ j ∧ j < 2 ^ 62
def one1 (F : DV → DG → Prop) : List DV → DG → Prop := fun xs g => match xs with | [x] => F x g | _ => False
def one2 (F : DV → DV → DG → Prop) : List DV → DG → Prop := fun xs g => match xs with | [x, y] => F x y g | _ => False
def one3 (F : DV → DV → DV → DG → Prop) : List DV → DG → Prop := fun xs g => match xs with | [x, y, z] => F x y z g | _ => False
theorem one1_of {K : Fg} {H : Hp} {F : DV → DG → Prop} {xs : List DV} {vs : List V} {g : DG} (r : RDs K H xs vs) (h : one1 F xs g) : ∃ x v, xs = [x] ∧ vs = [v] ∧ RD K H x v ∧ F x g := by
  match xs, vs, r with
  | [x], [v], .cons r .nil => exact ⟨x, v, rfl, rfl, r, h⟩
  | [], _, _ => exact False.elim h
  | _ :: _ :: _, _, _ => exact False.elim h
theorem one2_of {K : Fg} {H : Hp} {F : DV → DV → DG → Prop} {xs : List DV} {vs : List V} {g : DG} (r : RDs K H xs vs) (h : one2 F xs g) : ∃ x y v u, xs = [x, y] ∧ vs = [v, u] ∧ RD K H x v ∧ RD K H y u ∧ F x y g := by
  match xs, vs, r with
  | [x, y], [v, u], .cons r (.cons r' .nil) => exact ⟨x, y, v, u, rfl, rfl, r, r', h⟩
  | [], _, _ => exact False.elim h
  | [_], _, _ => exact False.elim h
  | _ :: _ :: _ :: _, _, _ => exact False.elim h
def wRng1 (t : TDA) : TDI := fun δ g R => t δ g (one1 fun x g1 => match x with | .int j => rngOk 0 j ∧ R (rangeD 0 j.toNat) g1 | _ => False)
def wRng2 (t : TDA) : TDI := fun δ g R => t δ g (one2 fun x y g1 => match x, y with | .int i, .int j => rngOk i j ∧ R (rangeD i (j - i).toNat) g1 | _, _ => False)
theorem pid_range1 {a : Expr} {p : Pos} (hm : X.mg "range" = none) (ha : PA X [a] (upA X.K t)) (hg : Gl X "range" := by rfl) (hs : starEach [a] X.env = [(false, eval a X.env)] := by rfl) : PI X tgx (.Call (.Name "range" p) [a] [] pos) (upI X.K (wRng1 t)) := by
  refine PI_weak (pi_range1 hg hm ha hs) fun σ H R ⟨δ, g, P, rs, rg, h, k⟩ => ⟨δ, g, _, rs, rg, h, fun xs g1 vs H1 e1 rg1 rd p => ?_⟩
  obtain ⟨x, v, rfl, rfl, r, p⟩ := one1_of rd p
  split at p
  · cases r
    exact ⟨_, rfl, p.1.2.2.1, p.1.2.2.2, k _ _ _ _ e1 rg1 dwalk_range p.2⟩
  · exact p.elim
theorem pid_range2 {a b : Expr} {p : Pos} (hm : X.mg "range" = none) (ha : PA X [a, b] (upA X.K t)) (hg : Gl X "range" := by rfl) (hs : starEach [a, b] X.env = [(false, eval a X.env), (false, eval b X.env)] := by rfl) (hs2 : starEach [b] X.env = [(false, eval b X.env)] := by rfl) : PI X tgx (.Call (.Name "range" p) [a, b] [] pos) (upI X.K (wRng2 t)) := by
  refine PI_weak (pi_range2 hg hm ha hs hs2) fun σ H R ⟨δ, g, P, rs, rg, h, k⟩ => ⟨δ, g, _, rs, rg, h, fun xs g1 vs H1 e1 rg1 rd p => ?_⟩
  obtain ⟨x, y, v, u, rfl, rfl, r, r', p⟩ := one2_of rd p
  split at p
  · cases r; cases r'
    exact ⟨_, _, rfl, p.1, k _ _ _ _ e1 rg1 dwalk_range p.2⟩
  · exact p.elim
/-- i, i - 1, .., j + 1 -/
def downD (i : Int) (n : Nat) : List DV := (List.range n).map fun (m : Nat) => DV.int (i + (m : Int) * (-1))
def wRngD (t : TDA) : TDI := fun δ g R => t δ g (one3 fun x y z g1 => match x, y, z with | .int i, .int j, .int c => (rngOk i j ∧ c = -1) ∧ R (downD i (i - j).toNat) g1 | _, _, _ => False)
/-- zip of two tuples or two lists -/
def zipD : List DV → List DV → List DV
  | x :: xs, y :: ys => .tup [x, y] :: zipD xs ys
  | _, _ => []
theorem zipD_len : ∀ xs ys : List DV, (zipD xs ys).length = min xs.length ys.length
  | [], _ => by simp [zipD]
  | _ :: _, [] => by simp [zipD]
  | x :: xs, y :: ys => by simp only [zipD, List.length_cons, zipD_len xs ys]; omega
theorem zipD_get : ∀ {xs ys : List DV} {i : Nat} {d : DV}, (zipD xs ys)[i]? = some d → ∃ x y, xs[i]? = some x ∧ ys[i]? = some y ∧ d = .tup [x, y]
  | [], _, _, _, h => by simp [zipD] at h
  | _ :: _, [], _, _, h => by simp [zipD] at h
  | x :: xs, y :: ys, 0, d, h => by simp [zipD] at h; exact ⟨x, y, rfl, rfl, h.symm⟩
  | x :: xs, y :: ys, i + 1, d, h => by
    obtain ⟨x', y', h1, h2, h3⟩ := zipD_get (xs := xs) (ys := ys) (i := i) (by simpa [zipD] using h)
    exact ⟨x', y', by simpa using h1, by simpa using h2, h3⟩
def wZip (t : TDA) : TDI := fun δ g R => t δ g (one2 fun x y g1 => match x, y with
  | .tup xs, .tup ys => R (zipD xs ys) g1
  | .lst xs, .lst ys => R (zipD xs ys) g1
  | .tpl xs, .tup ys => R (zipD xs ys) g1
  | .tpl xs, .tpl ys => R (zipD xs ys) g1
  | _, _ => False)
theorem dwalk_zipL {K : Fg} {H : Hp} {a b : Addr} {xs ys : List DV} {vs us : List V} (ha : FzL K H a vs) (hb : FzL K H b us) (ra : RDs K H xs vs) (rb : RDs K H ys us) : DWalk K (Itz K a b) (zipD xs ys) H := by
  have l1 := ra.length
  have l2 := rb.length
  have hl := zipD_len xs ys
  refine ⟨fun i H' hi k => ?_, fun H' k => ⟨vs, us, (k.fz ha).sq, (k.fz hb).sq, by omega⟩, fun i H1 x H' d hd k y => ?_⟩
  · have h1 : i < vs.length := by omega
    have h2 : i < us.length := by omega
    exact ⟨vs, us, vs[i], us[i], (k.fz ha).sq, (k.fz hb).sq, by simp [h1], by simp [h2]⟩
  · obtain ⟨T, v, u, h1, h2, h3, h4, h5⟩ := y
    obtain ⟨x, y, e1, e2, rfl⟩ := zipD_get hd
    have q1 := h4 vs (k.fz ha).sq
    have q2 := h5 us (k.fz hb).sq
    obtain ⟨v', e1', r1⟩ := ra.get e1
    obtain ⟨u', e2', r2⟩ := rb.get e2
    rw [q1] at e1'; cases e1'
    rw [q2] at e2'; cases e2'
    have kk : Kp H1 H' := by rw [h3]; exact Kp.fresh h2
    refine ⟨.inr ⟨T, _, h2, h3⟩, ?_⟩
    rw [h1]
    refine .tup (by rw [h3]; exact upd_same) (.cons ((r1.mono k).mono kk) (.cons ((r2.mono k).mono kk) .nil))
theorem dwalk_zipT {K : Fg} {H : Hp} {a b : Addr} {xs ys : List DV} {vs us : List V} (ha : SqT K H a vs) (hb : SqT K H b us) (ra : RDs K H xs vs) (rb : RDs K H ys us) : DWalk K (RZ.ItzT K a b) (zipD xs ys) H := by
  have l1 := ra.length
  have l2 := rb.length
  have hl := zipD_len xs ys
  refine ⟨fun i H' hi k => ?_, fun H' k => ⟨vs, us, k.sqT ha, k.sqT hb, by omega⟩, fun i H1 x H' d hd k y => ?_⟩
  · have h1 : i < vs.length := by omega
    have h2 : i < us.length := by omega
    exact ⟨vs, us, vs[i], us[i], k.sqT ha, k.sqT hb, by simp [h1], by simp [h2]⟩
  · obtain ⟨T, v, u, h1, h2, h3, h4, h5⟩ := y
    obtain ⟨x, y, e1, e2, rfl⟩ := zipD_get hd
    have q1 := h4 vs (k.sqT ha)
    have q2 := h5 us (k.sqT hb)
    obtain ⟨v', e1', r1⟩ := ra.get e1
    obtain ⟨u', e2', r2⟩ := rb.get e2
    rw [q1] at e1'; cases e1'
    rw [q2] at e2'; cases e2'
    have kk : Kp H1 H' := by rw [h3]; exact Kp.fresh h2
    refine ⟨.inr ⟨T, _, h2, h3⟩, ?_⟩
    rw [h1]
    refine .tup (by rw [h3]; exact upd_same) (.cons ((r1.mono k).mono kk) (.cons ((r2.mono k).mono kk) .nil))
theorem pid_zip {elts : List Expr} {kk : Nat} {p tpos : Pos} (hm : X.mg "zip" = none) (ha : PA X [e, e2] (upA X.K t)) (hg : Gl X "zip" := by rfl) (hs : starEach [e, e2] X.env = (false, eval e X.env) :: starEach [e2] X.env := by rfl) (hpl : (backTo pos (starEach [e2] X.env)).any (·.1) = false := by rfl) :
    PI X (.Tuple elts kk tpos) (.Call (.Name "zip" p) [e, e2] [] pos) (upI X.K (wZip t)) := by
  refine PI_weak (RZ.pi_zipA hg hm ha hs hpl) fun σ H R ⟨δ, g, P, rs, rg, h, k⟩ => ⟨δ, g, _, rs, rg, h, fun xs g1 vs H1 e1 rg1 rd p => ?_⟩
  obtain ⟨x, y, v, u, rfl, rfl, r, r', p⟩ := one2_of rd p
  split at p
  · cases r with
    | tup hs hr => cases r' with
      | tup hs' hr' => exact ⟨_, _, _, _, rfl, .inr ⟨SqT.of hs, SqT.of hs', k _ _ _ _ e1 rg1 (dwalk_zipT (SqT.of hs) (SqT.of hs') hr hr') p⟩⟩
  · cases r with
    | lst hs hr => cases r' with
      | lst hs' hr' => exact ⟨_, _, _, _, rfl, .inl ⟨hs.sq, hs'.sq, k _ _ _ _ e1 rg1 (dwalk_zipL hs hs' hr hr') p⟩⟩
  · cases r with
    | tpl hs hr => cases r' with
      | tup hs' hr' => exact ⟨_, _, _, _, rfl, .inr ⟨hs.sq, SqT.of hs', k _ _ _ _ e1 rg1 (dwalk_zipT hs.sq (SqT.of hs') hr hr') p⟩⟩
  · cases r with
    | tpl hs hr => cases r' with
      | tpl hs' hr' => exact ⟨_, _, _, _, rfl, .inr ⟨hs.sq, hs'.sq, k _ _ _ _ e1 rg1 (dwalk_zipT hs.sq hs'.sq hr hr') p⟩⟩
  · exact p.elim

/-! ### comprehensions -/
def wipeD (δ : DS) : List Nat → DS
  | [] => δ
  | v :: vs => (wipeD δ vs).set v none
theorem RS.wipe {K : Fg} {H : Hp} {δ : DS} {σ : L2.St} (r : RS K H δ σ) : ∀ vs : List Nat, RS K H (wipeD δ vs) (wipe σ vs)
  | [] => r
  | v :: vs => (RS.wipe r vs).unset v
def dComp (tg : Tg) (own : List Nat) (tt : TDT) (te : TDE) (δ : DS) : List DV → DG → (List DV → DG → Prop) → Prop
  | [], g, Q => Q [] g
  | d :: ds, g, Q => match bindT tg d (wipeD δ own) with
    | some δ2 => tt δ2 g fun b g3 => if b = true then te δ2 g3 fun y g4 => dComp tg own tt te δ ds g4 fun ys g5 => Q (y :: ys) g5 else dComp tg own tt te δ ds g3 Q
    | none => False
/-- the list that comes is changed by no one -/
def dLc (wi : TDI) (tg : Tg) (own : List Nat) (tt : TDT) (te : TDE) : TDE := fun δ g Q => wi δ g fun ds g1 => ds.length ≤ sizeLine ∧ dComp tg own tt te δ ds g1 fun ys g2 => Q (.lst ys) g2
/-- .. may be changed -/
def dLcM (wi : TDI) (tg : Tg) (own : List Nat) (tt : TDT) (te : TDE) : TDE := fun δ g Q => wi δ g fun ds g1 => ds.length ≤ sizeLine ∧ dComp tg own tt te δ ds g1 fun ys g2 => ∀ p, g2 p = none → Q (.ref p) (gup g2 p (.lst ys))
theorem wipe_wipe (σ : L2.St) : ∀ vs : List Nat, wipe (wipe σ vs) vs = wipe σ vs
  | [] => rfl
  | v :: vs => by
    show (wipe ((wipe σ vs).set v none) vs).set v none = (wipe σ vs).set v none
    by_cases h : v ∈ vs
    · rw [wipe_set h, wipe_wipe σ vs]
    · rw [wipe_set.wipe_comm h, wipe_wipe σ vs, List.set_set]
theorem lc_up {K : Fg} {wi : TDI} {tg : Tg} {own : List Nat} {tt : TDT} {tel : TDE} {δ : DS} {g : DG} {σ : L2.St} {H : Hp} {P : List DV → DG → Prop} {Q : VK} (hix : ∀ i ∈ tg.ix, i ∈ own) (rs : RS K H δ σ) (rg : RG K H g)
    (h : wi δ g fun ds g1 => ds.length ≤ sizeLine ∧ dComp tg own tt tel δ ds g1 P)
    (k : ∀ D ys vs g' H', Ext g H g' H' → RG K H' g' → g' D = none → (∀ o, H D = some o → g D = none → ¬ OwnO o → False) → H' D = some (.lst vs) → RDs K H' ys vs → P ys g' → Q (.ref D) H') :
    tLc (upI K wi) (tgG K tg) (upT K tt) (upE K tel) own σ H Q := by
  refine ⟨δ, g, _, rs, rg, h, fun ds g1 J H1 e1 rg1 dw p D hD => ?_⟩
  obtain ⟨hlen, p⟩ := p
  have hD0 : ∀ o, H D = some o → g D = none → ¬ OwnO o → False := fun o q n w => by
    have := (e1 D o q n w).1
    rw [hD] at this; cases this
  have k1 : Kp H1 (upd H1 D (.lst [])) := Kp.fresh hD
  refine ⟨fun i m H' => m = ds.length - i ∧ i ≤ ds.length ∧ Kp H1 H' ∧ ∃ (acc : List DV) (accV : List V) (g' : DG), Ext g H g' H' ∧ RG K H' g' ∧ g' D = none ∧ H' D = some (.lst accV) ∧ RDs K H' acc accV ∧ acc.length ≤ i ∧
    dComp tg own tt tel δ (ds.drop i) g' fun ys g2 => P (acc ++ ys) g2, ⟨ds.length, rfl, Nat.zero_le _, k1, [], [], g1, e1.trans (Ext.fresh rg1 hD), rg1.fresh hD, rg1.none hD, upd_same, .nil, Nat.le_refl _, p⟩, ?_⟩
  rintro i m H2 ⟨rfl, hi, kp2, acc, accV, g2, e2, rg2, gD, hD2, ra, hacc, q⟩
  by_cases hlt : i < ds.length
  · have hd : ds.drop i = ds[i] :: ds.drop (i + 1) := List.drop_eq_getElem_cons hlt
    rw [hd] at q
    have q' : (match bindT tg ds[i] (wipeD δ own) with
      | some δ2 => tt δ2 g2 fun b g3 => if b = true then tel δ2 g3 fun y g4 => dComp tg own tt tel δ (ds.drop (i + 1)) g4 fun ys g5 => P (acc ++ (y :: ys)) g5 else dComp tg own tt tel δ (ds.drop (i + 1)) g3 fun ys g2 => P (acc ++ ys) g2
      | none => False) := q
    refine .inr ⟨dw.goes i H2 hlt kp2, fun H' => Kp H1 H' ∧ ∃ (acc : List DV) (accV : List V) (g' : DG), Ext g H g' H' ∧ RG K H' g' ∧ g' D = none ∧ H' D = some (.lst accV) ∧ RDs K H' acc accV ∧ acc.length ≤ i + 1 ∧
      dComp tg own tt tel δ (ds.drop (i + 1)) g' fun ys g2 => P (acc ++ ys) g2, fun H' z => ⟨ds.length - (i + 1), by omega, rfl, hlt, z⟩, fun x H3 y => ?_⟩
    obtain ⟨st, rd⟩ := dw.yields i H2 x H3 ds[i] (by simp [hlt]) kp2 y
    split at q'
    · rename_i δ3 eb
      have rg3 := step_rg st rg2
      have e3 := step_ext st rg2
      have rs3 : RS K H3 (wipeD δ own) (wipe σ own) := ((rs.mono (e2.kp rg)).mono (step_kp st)).wipe own
      refine tg_run rd rs3 eb fun σ3 rsT hw => ⟨?_, ?_⟩
      · rw [hw own hix]
        exact wipe_wipe σ own
      · have hD3 : H3 D = some (.lst accV) := (e3 D _ hD2 gD fun z => z).1
        refine ⟨δ3, g2, _, rsT, rg3, q', fun b g4 H4 e4 rg4 z => ?_⟩
        have hD4 := e4 D _ hD3 gD fun z => z
        cases b with
        | false =>
          dsimp only
          rw [if_neg Bool.false_ne_true] at z ⊢
          exact ⟨(kp2.trans (step_kp st)).trans (e4.kp rg3), acc, accV, g4, (e2.trans e3).trans e4, rg4, hD4.2, hD4.1, (ra.mono (step_kp st)).mono (e4.kp rg3), by omega, z⟩
        | true =>
          dsimp only
          rw [if_pos rfl] at z ⊢
          refine ⟨δ3, g4, _, rsT.mono (e4.kp rg3), rg4, z, fun y g5 v H5 e5 rg5 rd5 w => ?_⟩
          have hD5 := e5 D _ hD4.1 hD4.2 fun z => z
          have la := ra.length
          refine ⟨accV, hD5.1, by omega, ?_⟩
          have km : Kp H5 (upd H5 D (.lst (accV ++ [v]))) := Kp.mut (by rw [hD5.1]; exact True.intro)
          refine ⟨(((kp2.trans (step_kp st)).trans (e4.kp rg3)).trans (e5.kp rg4)).trans km, acc ++ [y], accV ++ [v], g5, fun a o ha hn hw => ?_, fun a o ha => ?_, hD5.2, upd_same, ?_, by rw [List.length_append, List.length_singleton]; omega, ?_⟩
          · obtain ⟨z1, z2⟩ := ((e2.trans e3).trans (e4.trans e5)) a o ha hn hw
            refine ⟨?_, z2⟩
            rw [upd_ne (fun q => by subst q; exact hD0 o ha hn hw)]
            exact z1
          · have na : a ≠ D := fun q => by subst q; rw [hD5.2] at ha; cases ha
            exact (rg5 a o ha).keep km (upd_ne na)
          · exact ((((ra.mono (step_kp st)).mono (e4.kp rg3)).mono (e5.kp rg4)).mono km).append (.one (rd5.mono km))
          · have hw2 : (fun ys g2 => P (acc ++ [y] ++ ys) g2) = (fun ys g5 => P (acc ++ (y :: ys)) g5) := by
              funext ys g5
              rw [List.append_assoc]
              rfl
            rw [hw2]
            exact w
    · exact q'.elim
  · have ei : i = ds.length := by omega
    subst ei
    rw [List.drop_length] at q
    have q' : P (acc ++ []) g2 := q
    rw [List.append_nil] at q'
    exact .inl ⟨dw.stops H2 kp2, k D acc accV g2 H2 e2 rg2 gD hD0 hD2 ra q'⟩

theorem lock_ext {g g' : DG} {H H' : Hp} {D : Addr} {o : HO} (e : Ext g H g' H') (hD : ∀ o, H D = some o → g D = none → ¬ OwnO o → False) : Ext g H g' (upd H' D o) := fun a u ha hn hw => by
  obtain ⟨z1, z2⟩ := e a u ha hn hw
  exact ⟨by rw [upd_ne (fun q => by subst q; exact hD u ha hn hw)]; exact z1, z2⟩
theorem lock_rg {K : Fg} {g' : DG} {H' : Hp} {D : Addr} {o : HO} {vs : List V} (rg : RG K H' g') (gD : g' D = none) (hD : H' D = some (.lst vs)) : RG K (upd H' D o) g' := fun a u ha => by
  have na : a ≠ D := fun q => by subst q; rw [gD] at ha; cases ha
  exact (rg a u ha).keep (Kp.mut (by rw [hD]; exact True.intro)) (upd_ne na)
variable {elt iter : Expr} {ifs : List Expr} {scope : Scope} {own : List (Str × Nat)} {wi : TDI} {tg : Tg} {tt : TDT} {tel : TDE}
theorem pd_lc (hc : X.calm = true) (hN : X.N.Nodup) (hi : PI X tgx iter (upI X.K wi)) (ok : BlkOk X.N X.env.scope scope own)
    (hg : ∀ (s : Shared) (H : Hp) (C : Addr) (cl : List (Str × Addr)) (fp : List Addr), PG (X.blk s H scope (compEnvC scope cl C X.env) fp) tgx (tgG X.K tg)) (ht : ∀ (s : Shared) (H : Hp) (C : Addr) (cl : List (Str × Addr)) (fp : List Addr), PTs (X.blk s H scope (compEnvC scope cl C X.env) fp) ifs (upT X.K tt))
    (he : ∀ (s : Shared) (H : Hp) (C : Addr) (cl : List (Str × Addr)) (fp : List Addr), PE (X.blk s H scope (compEnvC scope cl C X.env) fp) elt (upE X.K tel)) (hix : ∀ i ∈ tg.ix, i ∈ own.map (·.2) := by decide) (hs : ∀ x, foldedSetIterable iter X.env x = pure x := by intro _; rfl) :
    PE X (.ListComp elt [⟨tgx, iter, ifs, 0⟩] scope pos) (upE X.K (dLc wi tg (own.map (·.2)) tt tel)) :=
  PE_weak (PE_fz (pe_lc hc hN hi ok hg ht he hs)) fun σ H Q ⟨δ, g, P, rs, rg, h, k⟩ => lc_up (P := fun ys g2 => P (.lst ys) g2) hix rs rg h fun D ys vs g' H' e rg' gD hD0 hD rd p =>
    .inr ⟨D, .lst vs, rfl, hD, trivial, fun o => k _ g' _ _ (lock_ext e hD0) (lock_rg rg' gD hD) (.lst ⟨o, upd_same⟩ (rd.mono (Kp.mut (by rw [hD]; exact True.intro)))) p⟩
theorem ext_newM {g g' : DG} {H H' : Hp} {D : Addr} {u : DO} (e : Ext g H g' H') (hD : ∀ o, H D = some o → g D = none → ¬ OwnO o → False) : Ext g H (gup g' D u) H' := fun a o ha hn hw => by
  obtain ⟨z1, z2⟩ := e a o ha hn hw
  exact ⟨z1, by rw [gup_ne (fun q => by subst q; exact hD o ha hn hw)]; exact z2⟩
theorem rg_newM {K : Fg} {g' : DG} {H' : Hp} {D : Addr} {ys : List DV} {vs : List V} (rg : RG K H' g') (hD : H' D = some (.lst vs)) (rd : RDs K H' ys vs) : RG K H' (gup g' D (.lst ys)) := fun a u ha => by
  by_cases q : a = D
  · subst q; rw [gup_same] at ha; cases ha; exact ⟨vs, hD, rd⟩
  · rw [gup_ne q] at ha; exact rg a u ha
theorem pd_lcM (hc : X.calm = true) (hN : X.N.Nodup) (hi : PI X tgx iter (upI X.K wi)) (ok : BlkOk X.N X.env.scope scope own)
    (hg : ∀ (s : Shared) (H : Hp) (C : Addr) (cl : List (Str × Addr)) (fp : List Addr), PG (X.blk s H scope (compEnvC scope cl C X.env) fp) tgx (tgG X.K tg)) (ht : ∀ (s : Shared) (H : Hp) (C : Addr) (cl : List (Str × Addr)) (fp : List Addr), PTs (X.blk s H scope (compEnvC scope cl C X.env) fp) ifs (upT X.K tt))
    (he : ∀ (s : Shared) (H : Hp) (C : Addr) (cl : List (Str × Addr)) (fp : List Addr), PE (X.blk s H scope (compEnvC scope cl C X.env) fp) elt (upE X.K tel)) (hix : ∀ i ∈ tg.ix, i ∈ own.map (·.2) := by decide) (hs : ∀ x, foldedSetIterable iter X.env x = pure x := by intro _; rfl) :
    PE X (.ListComp elt [⟨tgx, iter, ifs, 0⟩] scope pos) (upE X.K (dLcM wi tg (own.map (·.2)) tt tel)) :=
  PE_weak (pe_lc hc hN hi ok hg ht he hs) fun σ H Q ⟨δ, g, P, rs, rg, h, k⟩ => lc_up (P := fun ys g2 => ∀ p, g2 p = none → P (.ref p) (gup g2 p (.lst ys))) hix rs rg h fun D ys vs g' H' e rg' gD hD0 hD rd p =>
    k _ _ _ _ (ext_newM e hD0) (rg_newM rg' hD rd) (.ref D) (p D gD)
theorem PS_fz {st : Stmt} {t : TS} (h : PS X st t) : PS X st (fun D σ H => t { D with nx := fun σ' H' => D.nx σ' H' ∨ ∃ p u, H' p = some u ∧ Mut (some u) ∧ ∀ o, D.nx σ' (upd H' p (.frz o u)) } σ H) := by
  refine ⟨fun pins s σ H D I q => thn (h.run pins s σ H _ I q) fun f s' z => ?_⟩
  cases f with
  | next =>
    obtain ⟨σ', H', I', z⟩ := z
    rcases z with z | ⟨p, vs, hp, mu, z⟩
    · exact ⟨σ', H', I', z⟩
    · obtain ⟨o, I2⟩ := I'.lock hp mu
      exact ⟨σ', _, I2, z o⟩
  | ret v => exact z
  | brk => exact z
  | cont => exact z
/-- name = [..], on one line, the name a local -/
theorem pds_setLc {i : Nat} {y : Str} {py spos : Pos} (hc : X.calm = true) (hN : X.N.Nodup) (hsw : swapsWith (.ListComp elt [⟨tgx, iter, ifs, 0⟩] scope pos) (some (.Name y py)) spos.line X.env = pure true) (hi : PI X tgx iter (upI X.K wi)) (ok : BlkOk X.N X.env.scope scope own)
    (hg : ∀ (s : Shared) (H : Hp) (C : Addr) (cl : List (Str × Addr)) (fp : List Addr), PG (X.blk s H scope (compEnvC scope cl C X.env) fp) tgx (tgG X.K tg)) (ht : ∀ (s : Shared) (H : Hp) (C : Addr) (cl : List (Str × Addr)) (fp : List Addr), PTs (X.blk s H scope (compEnvC scope cl C X.env) fp) ifs (upT X.K tt))
    (he : ∀ (s : Shared) (H : Hp) (C : Addr) (cl : List (Str × Addr)) (fp : List Addr), PE (X.blk s H scope (compEnvC scope cl C X.env) fp) elt (upE X.K tel)) (hy : X.N[i]? = some y := by rfl) (hyl : X.env.scope.names.lookup y = some .local := by rfl)
    (hix : ∀ i ∈ tg.ix, i ∈ own.map (·.2) := by decide) (hs : ∀ x, foldedSetIterable iter X.env x = pure x := by intro _; rfl) :
    PS X (.Assign [.Name y py] (.ListComp elt [⟨tgx, iter, ifs, 0⟩] scope pos) spos) (upS X.K (dAsg (.nm i) (dLc wi tg (own.map (·.2)) tt tel))) :=
  PS_weak (PS_fz (ps_setLc hc hN hy hyl hsw hi ok hg ht he hs)) fun D σ H ⟨δ, g, E, rs, rg, h, k1, _⟩ => lc_up (P := fun ys g2 => E.nx (δ.set i (some (.lst ys))) g2) hix rs rg h fun L ys vs g' H' e rg' gD hD0 hD rd p =>
    .inr ⟨L, .lst vs, hD, trivial, fun o => k1 _ g' _ _ (lock_ext e hD0) (lock_rg rg' gD hD) ((rs.mono ((lock_ext e hD0).kp rg)).set i (.lst ⟨o, upd_same⟩ (rd.mono (Kp.mut (by rw [hD]; exact True.intro))))) p⟩
/-! ### ghost step: a list that no one will change any more is by content from now on -/
def dvOf : DO → DV
  | .lst ds => .lst ds
  | .dK ks ds => .dK ks ds
  | .dT ks ds => .dT ks ds
  | .ins C ds => .ins C (ds.filterMap id)
  | .tbl _ => .non
/-- what may be locked: of an instance all slots are set -/
def frzC : DO → Prop
  | .ins _ ds => ds ≠ [] ∧ ds.all (·.isSome) = true
  | .tbl _ => False
  | _ => True
theorem slots_all {K : Fg} {H : Hp} : ∀ {ds : List (Option DV)} {vs : List (Option V)}, SlD K H ds vs → ds.all (·.isSome) = true → ∃ us : List V, vs = us.map some ∧ RDs K H (ds.filterMap id) us
  | [], [], _, _ => ⟨[], rfl, .nil⟩
  | [], _ :: _, h, _ => by have := h.1; simp at this
  | _ :: _, [], h, _ => by have := h.1; simp at this
  | d :: ds, v :: vs, h, ha => by
    rw [List.all_cons, Bool.and_eq_true] at ha
    obtain ⟨x, rfl⟩ := Option.isSome_iff_exists.mp ha.1
    obtain ⟨u, hu, ru⟩ := h.2 0 x rfl
    have hv : v = some u := Option.some.inj hu
    subst hv
    obtain ⟨us, e, r⟩ := slots_all (ds := ds) (vs := vs) ⟨by have := h.1; simpa using this, fun i d e => by simpa using h.2 (i + 1) d (by simpa using e)⟩ ha.2
    subst e
    exact ⟨u :: us, rfl, .cons ru r⟩
theorem ro_lock {K : Fg} {H : Hp} {p : Addr} {o : DO} (r : RO K H p o) (c : frzC o) : ∃ u, H p = some u ∧ (Mut (some u) ∧ Trk p (some u)) ∧ ∀ od, RD K (upd H p (.frz od u)) (dvOf o) (.ref p) := by
  cases o with
  | lst ds => obtain ⟨vs, e, r⟩ := r; exact ⟨_, e, ⟨trivial, trivial⟩, fun od => .lst ⟨od, upd_same⟩ (r.mono (Kp.mut (by rw [e]; exact True.intro)))⟩
  | dK ks ds => obtain ⟨vs, e, x, r⟩ := r; exact ⟨_, e, ⟨trivial, trivial⟩, fun od => .dK ⟨od, vs, upd_same, x, rfl⟩ (r.mono (Kp.mut (by rw [e]; exact True.intro)))⟩
  | dT ks ds => obtain ⟨vs, e, x, r⟩ := r; exact ⟨_, e, ⟨trivial, trivial⟩, fun od => .dT ⟨od, vs, upd_same, x, rfl⟩ (r.mono (Kp.mut (by rw [e]; exact True.intro)))⟩
  | ins C ds =>
    obtain ⟨dx, vs, ne, h | h, r⟩ := r
    · have := r.1
      rw [h.2, List.length_nil] at this
      exact absurd (List.length_eq_zero_iff.mp this) c.1
    · obtain ⟨us, e, rs⟩ := slots_all r c.2
      subst e
      exact ⟨_, h.1, ⟨trivial, slO_trk⟩, fun od => .ins ⟨od, dx, upd_same, by rw [upd_ne ne]; exact h.2⟩ (rs.mono (Kp.mut (by rw [h.1]; exact slO_trk)))⟩
  | tbl q => exact c.elim
def dFz (i : Nat) (t : TDS) : TDS := fun E δ g => match nth δ i with
  | some (.ref p) => match g p with
    | some o => frzC o ∧ t E (δ.set i (some (dvOf o))) (gdel g p)
    | none => False
  | _ => False
theorem pds_fz (i : Nat) {st : List Stmt} {t : TDS} (h : PSs X st (upS X.K t)) : PSs X st (upS X.K (dFz i t)) := by
  refine ⟨fun pins s σ H D I ⟨δ, g, E, rs, rg, q, k1, k2, k3, k4⟩ => ?_⟩
  unfold dFz at q
  split at q <;> first | exact q.elim | skip
  rename_i p ep
  split at q <;> first | exact q.elim | skip
  rename_i ds eg
  obtain ⟨fc, q⟩ := q
  obtain ⟨vs, hp, mu, rd⟩ := ro_lock (rg p _ eg) fc
  obtain ⟨o, I2⟩ := I.lock hp mu.1
  have km : Kp H (upd H p (.frz o vs)) := Kp.mut (by rw [hp]; exact mu.2)
  have ex : Ext g H (gdel g p) (upd H p (.frz o vs)) := fun a u ha hn _ => by
    have na : a ≠ p := fun z => by rw [z, eg] at hn; cases hn
    exact ⟨by rw [upd_ne na]; exact ha, by unfold gdel; rw [if_neg na]; exact hn⟩
  have rg2 : RG X.K (upd H p (.frz o vs)) (gdel g p) := fun a u ha => by
    unfold gdel at ha
    by_cases na : a = p
    · rw [if_pos na] at ha; cases ha
    · rw [if_neg na] at ha; exact (rg a u ha).keep km (upd_ne na)
  obtain ⟨v, hv, rv⟩ := rs.2 i _ (nth_get ep)
  cases rv
  have rs2 : RS X.K (upd H p (.frz o vs)) (δ.set i (some (dvOf ds))) σ := by
    have z := (rs.mono km).set i (d := dvOf ds) (v := .ref p) (rd o)
    have e : σ.set i (some (.ref p)) = σ := by
      obtain ⟨h1, h2⟩ := List.getElem?_eq_some_iff.mp hv
      rw [← h2]
      exact List.set_getElem_self h1
    rw [e] at z
    exact z
  exact h.run pins s σ _ D I2 ⟨_, _, E, rs2, rg2, q, fun δ' g' σ' H' e => k1 _ _ _ _ (ex.trans e), fun d g' v H' e => k2 _ _ _ _ (ex.trans e), fun δ' g' σ' H' e => k3 _ _ _ _ (ex.trans e), fun δ' g' σ' H' e => k4 _ _ _ _ (ex.trans e)⟩
end

/-! ### defs -/
def startD (N : List Str) (ds : List DV) : DS := ds.map some ++ List.replicate (N.length - ds.length) none
theorem start_rs {K : Fg} {H : Hp} {N : List Str} {ds : List DV} {vs : List V} (r : RDs K H ds vs) : RS K H (startD N ds) (L2.start N vs) := by
  have hl := r.length
  refine ⟨by simp [startD, L2.start, hl], fun i d h => ?_⟩
  unfold startD at h
  unfold L2.start
  by_cases hi : i < ds.length
  · rw [List.getElem?_append_left (by simpa using hi)] at h
    rw [List.getElem?_append_left (by simpa [← hl] using hi)]
    rw [List.getElem?_map] at h
    cases e : ds[i]? with
    | none => rw [e] at h; cases h
    | some x =>
      rw [e] at h
      cases h
      obtain ⟨v, h1, h2⟩ := r.get e
      exact ⟨v, by rw [List.getElem?_map, h1]; rfl, h2⟩
  · rw [List.getElem?_append_right (by simpa using Nat.le_of_not_lt hi)] at h
    have := List.mem_of_getElem? h
    rw [List.mem_replicate] at this
    cases this.2
/-- what a def leaves: garbage is dropped -/
def DRet (P : DV → DG → Prop) : DV → DG → Prop := fun d g => ∃ g', Sub g' g ∧ P d g'
theorem dret {P : DV → DG → Prop} {d : DV} {g : DG} (h : P d g) : DRet P d g := ⟨g, Sub.refl, h⟩
def dEnds (P : DV → DG → Prop) : DEnds := { nx := fun _ g' => DRet P .non g', rt := DRet P }
theorem fun_okD {P : Program} {w : World} {K : Fg} {mg : Str → Option Value} {base : Heap} {x qual : Str} {st : Stmt} {f : Addr} {fd : FuncData} {N ps : List Str} {k : Nat} {sp : SpD} (F : Fun K x qual st f fd) (S : FnScope N ps (defScope st))
    (len : ∀ ds g Q, sp ds g Q → ds.length = ps.length)
    (hbody : ∀ (cdv : Value) (A : Around) (outer : List Env) (s : Shared) (H : Hp) (E : XK), Room k (A.deeper (envOfC qual (defScope st) s.heap.objs.size f cdv)) →
      ∃ t : TDS, PSs (cxOf CX0 P w K mg base N qual (defScope st) f cdv A outer s H E).nox (defBody st) (upS K t) ∧ ∀ ds g Q, sp ds g Q → t (dEnds Q) (startD N ds) g) :
    FnOk P w K mg base CX0 (k + 1) f fd ps (upSp K sp) := by
  refine F.ok S (fun vs H Q E ⟨ds, g, R, rd, rg, h, _⟩ => by rw [← rd.length]; exact len _ _ _ h) fun cdv A outer s H vs Q E hr ⟨ds, g, R, rd, rg, h, k⟩ => ?_
  obtain ⟨t, ht, hq⟩ := hbody cdv A outer s H E hr
  refine ⟨_, ht, startD N ds, g, dEnds R, start_rs rd, rg, hq ds g R h, fun δ' g' σ' H' e rg' _ z => ?_, fun d g' v H' e rg' rv z => ?_, fun _ _ _ _ _ _ _ z => z, fun _ _ _ _ _ _ _ z => z⟩
  · obtain ⟨g2, su, z⟩ := z
    exact k _ g2 _ _ (su.ext e) (su.rg rg') .non z
  · obtain ⟨g2, su, z⟩ := z
    exact k _ g2 _ _ (su.ext e) (su.rg rg') rv z
end DL

/-! Deep layer E: operators and built-ins over contents. -/
namespace DL
open PySem PySem.Spec PyProof.Rows L2

/-! ### content as data -/
mutual
def DV.py : DV → PyData
  | .non => .none
  | .bl b => .bool b
  | .int i => .int i
  | .str x => .str x
  | .tup ds => .tuple (pyAll ds)
  | .lst ds => .list (pyAll ds)
  | .ref _ => .none
  | .ty _ => .none
  | .scr _ => .none
  | .dK _ _ => .none
  | .dT _ _ => .none
  | .ins _ _ => .none
  | .exc _ _ _ _ => .none
  | .lam _ _ _ _ _ => .none
  | .tpl ds => .tuple (pyAll ds)
def pyAll : List DV → List PyData
  | [] => []
  | d :: ds => d.py :: pyAll ds
end
mutual
/-- no address, no class within -/
def DV.pl : DV → Bool
  | .tup ds => plAll ds
  | .lst ds => plAll ds
  | .ref _ => false
  | .ty _ => false
  | .scr _ => false
  | .dK _ _ => false
  | .dT _ _ => false
  | .ins _ _ => false
  | .exc _ _ _ _ => false
  | .lam _ _ _ _ _ => false
  | .tpl ds => plAll ds
  | _ => true
def plAll : List DV → Bool
  | [] => true
  | d :: ds => d.pl && plAll ds
end
mutual
theorem RD.dp {K : Fg} {H : Hp} : ∀ {d : DV} {v : V}, RD K H d v → d.pl = true → Dp K H v d.py
  | _, _, .non, _ => .non
  | _, _, .bl b, _ => .bl b
  | _, _, .int i, _ => .int i
  | _, _, .str x, _ => .str x
  | _, _, .ref a, h => by cases h
  | _, _, .ty n, h => by cases h
  | _, _, .scr _, h => by cases h
  | _, _, .dK _ _, h => by cases h
  | _, _, .dT _ _, h => by cases h
  | _, _, .ins _ _, h => by cases h
  | _, _, .tup hs r, h => .tup (SqT.of hs) (RDs.dp r h)
  | _, _, .lst hs r, h => .lst hs.sq (RDs.dp r h)
  | _, _, .exc _ _, h => by cases h
  | _, _, .lam _ _, h => by cases h
  | _, _, .tpl hs r, h => .tup hs.sq (RDs.dp r h)
theorem RDs.dp {K : Fg} {H : Hp} : ∀ {ds : List DV} {vs : List V}, RDs K H ds vs → plAll ds = true → DpAll K H vs (pyAll ds)
  | _, _, .nil, _ => .nil
  | _, _, .cons r t, h => by
    rw [plAll, Bool.and_eq_true] at h
    exact .cons (RD.dp r h.1) (RDs.dp t h.2)
end
/-- == of content -/
def eqD (x y : DV) : Bool := PyData.eqv x.py y.py
def okD (x : DV) : Bool := x.pl && SeqAt.shaped x.py

section
variable {X : Cx}
/-! ### arithmetic -/
def rrAdd : RR2 := fun x y g P => match x, y with
  | .int i, .int j => P (.int (i + j))
  | .str i, .str j => i.length + j.length ≤ sizeLine ∧ P (.str (i ++ j))
  | .tup xs, .tup ys => xs.length + ys.length ≤ sizeLine ∧ P (.tup (xs ++ ys))
  | .lst xs, .lst ys => xs.length + ys.length ≤ sizeLine ∧ P (.lst (xs ++ ys))
  | _, _ => False
theorem Inv.lstR {pins : List (Addr × Obj)} {σ : L2.St} {H : Hp} {s : Shared} {l : Addr} {xs : List V} (I : Inv X pins σ H s) (h : Rd H l (.lst xs)) : xs.length ≤ sizeLine ∧ ∃ (its : List Value) (n : Nat), Vals xs its ∧ xs.length = its.length ∧ s.heap.get? l = some { cls := .type "list", data := .seq its.toArray n } := by
  obtain ⟨z, its, n, r, e⟩ := h.ok I.hok
  exact ⟨z, its, n, r, r.length, e⟩
def rCatF : R2 := fun x y H Q => ∃ l b xs zs, x = .ref l ∧ y = .ref b ∧ Rd H l (.lst xs) ∧ Rd H b (.lst zs) ∧ xs.length + zs.length ≤ sizeLine ∧ ∀ p, H p = none → Q (.ref p) (upd H p (.lst (xs ++ zs)))
theorem op_catF : OpR X (binaryOp .Add) rCatF := by
  intro pins s σ H x y v u Q I rx ry h
  obtain ⟨l, b, xs, zs, rfl, rfl, hH, hB, hz, q⟩ := h
  cases rx
  cases ry
  obtain ⟨z, its, n, r, hl, e⟩ := Inv.lstR I hH
  obtain ⟨z2, its2, n2, r2, hl2, e2⟩ := Inv.lstR I hB
  refine PySem.P.add_list e e2 ?_ (by rw [List.size_toArray, List.size_toArray]; omega)
  have ea : its.toArray ++ its2.toArray = (its ++ its2).toArray := by simp
  rw [ea]
  exact ⟨.ref _, _, I.lnew (t' := s.toks) (r.append r2) (by rw [List.length_append]; omega), rfl, q _ I.fresh⟩
theorem fz_lift {g : DG} {H : Hp} {Q : VK} {P : DV → Prop} {K : Fg} (rg : RG K H g) (k : ∀ z w H', Ext g H g H' → RG K H' g → RD K H' z w → P z → Q w H') {ds : List DV} {vs : List V} (rd : RDs K H ds vs) (h : P (.lst ds)) (p : Addr) (hp : H p = none) :
    fz Q (.ref p) (upd H p (.lst vs)) := .inr ⟨p, .lst vs, rfl, upd_same, trivial, fun o => by
  rw [upd_upd]
  exact k _ _ _ (Ext.fresh rg hp) (rg.fresh hp) (.lst ⟨o, upd_same⟩ (rd.mono (Kp.fresh hp))) h⟩
theorem tup_lift {g : DG} {H : Hp} {Q : VK} {P : DV → Prop} {K : Fg} (rg : RG K H g) (k : ∀ z w H', Ext g H g H' → RG K H' g → RD K H' z w → P z → Q w H') {ds : List DV} {vs : List V} (rd : RDs K H ds vs) (h : P (.tup ds)) (p : Addr) (hp : H p = none) :
    fz Q (.ref p) (upd H p (.tup vs)) := .inl (k _ _ _ (Ext.fresh rg hp) (rg.fresh hp) (.tup upd_same (rd.mono (Kp.fresh hp))) h)
def RAdd (K : Fg) : R2 := fun x y H Q => (rI0 (fun i j => .int (i + j)) x y H Q ∨ (∃ i j, x = .str i ∧ y = .str j ∧ i.length + j.length ≤ sizeLine ∧ Q (.str (i ++ j)) H)) ∨ (rCatA K x y H Q ∨ rCatF x y H Q)
theorem op_addD : OpR X (binaryOp .Add) (RAdd X.K) := (op_add.or op_add_str).or (op_catA.or op_catF)
theorem ref_add {K : Fg} : RefOp K rrAdd (RAdd K) := by
  intro x y P v u H g Q rg rx ry k h
  unfold rrAdd at h
  split at h
  · cases rx; cases ry
    exact .inl (.inl ⟨_, _, rfl, rfl, .inl (k _ _ H Ext.refl rg (.int _) h)⟩)
  · cases rx; cases ry
    exact .inl (.inr ⟨_, _, rfl, rfl, h.1, .inl (k _ _ H Ext.refl rg (.str _) h.2)⟩)
  · cases rx with
    | tup hs hr =>
    cases ry with
    | tup hs' hr' =>
    rename_i ds es a vs b us
    refine .inr (.inl ⟨_, _, vs, us, rfl, rfl, SqT.of hs, SqT.of hs', by rw [← hr.length, ← hr'.length]; exact h.1, fun e => ?_, fun ne e => ?_, fun _ _ p hp => tup_lift rg k (hr.append hr') h.2 p hp⟩)
    · subst e
      cases hr
      exact .inl (k _ _ H Ext.refl rg (.tup hs' hr') h.2)
    · subst e
      cases hr'
      refine .inl (k _ _ H Ext.refl rg (.tup hs hr) ?_)
      have := h.2
      rw [List.append_nil] at this
      exact this
  · cases rx with
    | lst hs hr =>
    cases ry with
    | lst hs' hr' =>
    obtain ⟨o, e⟩ := hs
    obtain ⟨o', e'⟩ := hs'
    exact .inr (.inr ⟨_, _, _, _, rfl, rfl, .inr ⟨o, e⟩, .inr ⟨o', e'⟩, by rw [← hr.length, ← hr'.length]; exact h.1, fun p hp => fz_lift rg k (hr.append hr') h.2 p hp⟩)
  · exact h.elim
/-- two ints under a condition -/
def rrI (C : Int → Int → Prop) (f : Int → Int → DV) : RR2 := fun x y _ P => match x, y with
  | .int i, .int j => C i j ∧ P (f i j)
  | _, _ => False
theorem ref_rI {K : Fg} {C : Int → Int → Prop} {f : Int → Int → Int} : RefOp K (rrI C fun i j => .int (f i j)) (rI C fun i j => .int (f i j)) := by
  intro x y P v u H g Q rg rx ry k h
  unfold rrI at h
  split at h
  · cases rx; cases ry
    exact ⟨_, _, rfl, rfl, h.1, .inl (k _ _ H Ext.refl rg (.int _) h.2)⟩
  · exact h.elim
def TT2 (_ _ : Int) : Prop := True
theorem op_subC : OpR X (binaryOp .Sub) (rI TT2 fun i j => .int (i - j)) := fun pins s σ H x y v u Q I rx ry ⟨i, j, h1, h2, _, q⟩ => op_sub pins s σ H x y v u Q I rx ry ⟨i, j, h1, h2, q⟩
abbrev rrSub : RR2 := rrI TT2 fun i j => .int (i - j)
abbrev rrMul : RR2 := rrI CMulW fun i j => .int (i * j)
abbrev rrFdiv : RR2 := rrI CDivW fun i j => .int (i / j)
abbrev rrMod : RR2 := rrI (fun _ j => 0 < j) fun i j => .int (i % j)
def CPowW (i j : Int) : Prop := 0 ≤ j ∧ (Builtin.Int.intBits i : Int) * j ≤ 2 ^ 27
theorem op_powW : OpR X (binaryOp .Pow) (rI CPowW fun i j => .int (i ^ j.toNat)) := opI fun _ _ _ _ _ _ _ hc q => PyProof.Rows.pow_int hc.1 hc.2 q
abbrev rrPow : RR2 := rrI CPowW fun i j => .int (i ^ j.toNat)
variable {pos : Pos} {a b : Expr} {ta tb : TDE}
theorem pd_add (ha : PE X a (upE X.K ta)) (hb : PE X b (upE X.K tb)) : PE X (.BinOp a .Add b pos) (upE X.K (dOp rrAdd ta tb)) := pd_op op_addD ref_add ha hb
theorem pd_sub (ha : PE X a (upE X.K ta)) (hb : PE X b (upE X.K tb)) : PE X (.BinOp a .Sub b pos) (upE X.K (dOp rrSub ta tb)) := pd_op op_subC ref_rI ha hb
theorem pd_fdiv (ha : PE X a (upE X.K ta)) (hb : PE X b (upE X.K tb)) : PE X (.BinOp a .FloorDiv b pos) (upE X.K (dOp rrFdiv ta tb)) := pd_op op_fdivW ref_rI ha hb
theorem pd_mod (ha : PE X a (upE X.K ta)) (hb : PE X b (upE X.K tb)) : PE X (.BinOp a .Mod b pos) (upE X.K (dOp rrMod ta tb)) := pd_op op_mod ref_rI ha hb
theorem pd_pow (ha : PE X a (upE X.K ta)) (hb : PE X b (upE X.K tb)) : PE X (.BinOp a .Pow b pos) (upE X.K (dOp rrPow ta tb)) := pd_op op_powW ref_rI ha hb
theorem pd_mulI (ha : PE X a (upE X.K ta)) (hb : PE X b (upE X.K tb)) : PE X (.BinOp a .Mult b pos) (upE X.K (dOp rrMul ta tb)) := pd_op op_mulW ref_rI ha hb

/-! ### comparisons -/
def rrCmp (f : Int → Int → Bool) : RR2 := fun x y _ P => match x, y with
  | .int i, .int j => P (.bl (f i j))
  | _, _ => False
theorem ref_cmp {K : Fg} {f : Int → Int → Bool} : RefCmp K (rrCmp f) (rI0 fun i j => .bl (f i j)) := by
  intro x y P v u H g Q rg rx ry k h
  unfold rrCmp at h
  split at h
  · cases rx; cases ry
    exact ⟨_, _, rfl, rfl, k _ h⟩
  · exact h.elim
def rrEq : RR2 := fun x y _ P => okD x = true ∧ okD y = true ∧ P (.bl (eqD x y))
def rrNe : RR2 := fun x y _ P => okD x = true ∧ okD y = true ∧ P (.bl (!eqD x y))
theorem ref_eq {K : Fg} : RefCmp K rrEq (rEqD K) := by
  intro x y P v u H g Q rg rx ry k ⟨h1, h2, h⟩
  unfold okD at h1 h2
  rw [Bool.and_eq_true] at h1 h2
  exact ⟨_, _, rx.dp h1.1, ry.dp h2.1, h1.2, h2.2, k _ h⟩
theorem ref_ne {K : Fg} : RefCmp K rrNe (rNeD K) := by
  intro x y P v u H g Q rg rx ry k ⟨h1, h2, h⟩
  unfold okD at h1 h2
  rw [Bool.and_eq_true] at h1 h2
  exact ⟨_, _, rx.dp h1.1, ry.dp h2.1, h1.2, h2.2, k _ h⟩
def rrIsN : RR2 := fun x y _ P => match y with | .non => P (.bl (match x with | .non => true | _ => false)) | _ => False
def rrNotN : RR2 := fun x y _ P => match y with | .non => P (.bl (match x with | .non => false | _ => true)) | _ => False
/-! ### built-ins -/
def intsD : List DV → Option (List Int)
  | [] => some []
  | .int i :: ds => (intsD ds).map (i :: ·)
  | _ :: _ => none
theorem intsD_map : ∀ ns : List Int, intsD (ns.map DV.int) = some ns
  | [] => rfl
  | n :: ns => by rw [List.map_cons, intsD, intsD_map ns]; rfl
theorem intsD_of : ∀ {ds : List DV} {ns : List Int}, intsD ds = some ns → ds = ns.map DV.int
  | [], _, h => by cases h; rfl
  | d :: ds, ns, h => by
    cases d <;> first
      | (rename_i i; rw [intsD] at h
         cases e : intsD ds with
         | none => rw [e] at h; cases h
         | some ms => rw [e] at h; cases h; rw [intsD_of e]; rfl)
      | cases h
def blsD : List DV → Option (List Bool)
  | [] => some []
  | .bl i :: ds => (blsD ds).map (i :: ·)
  | _ :: _ => none
theorem blsD_map : ∀ ns : List Bool, blsD (ns.map DV.bl) = some ns
  | [] => rfl
  | n :: ns => by rw [List.map_cons, blsD, blsD_map ns]; rfl
theorem blsD_of : ∀ {ds : List DV} {ns : List Bool}, blsD ds = some ns → ds = ns.map DV.bl
  | [], _, h => by cases h; rfl
  | d :: ds, ns, h => by
    cases d <;> first
      | (rename_i i; rw [blsD] at h
         cases e : blsD ds with
         | none => rw [e] at h; cases h
         | some ms => rw [e] at h; cases h; rw [blsD_of e]; rfl)
      | cases h
def rr1 (f : DV → DG → (DV → Prop) → Prop) : RRs := fun xs g P => match xs with | [x] => f x g P | _ => False
def rr2 (f : DV → DV → DG → (DV → Prop) → Prop) : RRs := fun xs g P => match xs with | [x, y] => f x y g P | _ => False
theorem rr1_of {K : Fg} {H : Hp} {f : DV → DG → (DV → Prop) → Prop} {xs : List DV} {vs : List V} {g : DG} {P : DV → Prop} (r : RDs K H xs vs) (h : rr1 f xs g P) : ∃ x v, xs = [x] ∧ vs = [v] ∧ RD K H x v ∧ f x g P := by
  match xs, vs, r with
  | [x], [v], .cons r .nil => exact ⟨x, v, rfl, rfl, r, h⟩
  | [], _, _ => exact False.elim h
  | _ :: _ :: _, _, _ => exact False.elim h
theorem rr2_of {K : Fg} {H : Hp} {f : DV → DV → DG → (DV → Prop) → Prop} {xs : List DV} {vs : List V} {g : DG} {P : DV → Prop} (r : RDs K H xs vs) (h : rr2 f xs g P) : ∃ x y v u, xs = [x, y] ∧ vs = [v, u] ∧ RD K H x v ∧ RD K H y u ∧ f x y g P := by
  match xs, vs, r with
  | [x, y], [v, u], .cons r (.cons r' .nil) => exact ⟨x, y, v, u, rfl, rfl, r, r', h⟩
  | [], _, _ => exact False.elim h
  | [_], _, _ => exact False.elim h
  | _ :: _ :: _ :: _, _, _ => exact False.elim h
def rrLen : RRs := rr1 fun x g P => match seqP g x with | some ds => P (.int ds.length) | none => False
theorem ref_len {K : Fg} : RefCall K rrLen (fun xs H Q => ∃ p ys, xs = [.ref p] ∧ (SqL K H p ys ∨ SqT K H p ys) ∧ Q (.int ys.length) H) := by
  intro xs P vs H g Q rg r k h
  obtain ⟨x, v, rfl, rfl, rx, h⟩ := rr1_of r h
  split at h
  · rename_i ds e
    obtain ⟨a, us, rfl, hq, hr⟩ := seqP_rd rg rx e
    exact ⟨a, us, rfl, hq, .inl (by rw [← hr.length]; exact k _ _ H Ext.refl rg (.int _) h)⟩
  · exact h.elim
def rrInt : RRs := rr1 fun x _ P => match x with | .int i => P (.int i) | .bl b => P (.int (if b then 1 else 0)) | _ => False
theorem ref_int {K : Fg} : RefCall K rrInt (fun xs H Q => (∃ i, xs = [.int i] ∧ Q (.int i) H) ∨ ∃ k, xs = [.bl k] ∧ Q (.int (if k then 1 else 0)) H) := by
  intro xs P vs H g Q rg r k h
  obtain ⟨x, v, rfl, rfl, rx, h⟩ := rr1_of r h
  split at h
  · cases rx; exact .inl ⟨_, rfl, .inl (k _ _ H Ext.refl rg (.int _) h)⟩
  · cases rx; exact .inr ⟨_, rfl, .inl (k _ _ H Ext.refl rg (.int _) h)⟩
  · exact h.elim
def rrAbs : RRs := rr1 fun x _ P => match x with | .int i => P (.int (if i < 0 then -i else i)) | _ => False
theorem ref_abs {K : Fg} : RefCall K rrAbs (fun xs H Q => ∃ i, xs = [.int i] ∧ Q (.int (if i < 0 then -i else i)) H) := by
  intro xs P vs H g Q rg r k h
  obtain ⟨x, v, rfl, rfl, rx, h⟩ := rr1_of r h
  split at h
  · cases rx; exact ⟨_, rfl, .inl (k _ _ H Ext.refl rg (.int _) h)⟩
  · exact h.elim
def rrII (f : Int → Int → Int) : RRs := rr2 fun x y _ P => match x, y with | .int i, .int j => P (.int (f i j)) | _, _ => False
theorem ref_II {K : Fg} {f : Int → Int → Int} : RefCall K (rrII f) (fun xs H Q => ∃ i j, xs = [.int i, .int j] ∧ Q (.int (f i j)) H) := by
  intro xs P vs H g Q rg r k h
  obtain ⟨x, y, v, u, rfl, rfl, rx, ry, h⟩ := rr2_of r h
  split at h
  · cases rx; cases ry; exact ⟨_, _, rfl, .inl (k _ _ H Ext.refl rg (.int _) h)⟩
  · exact h.elim
def rrSum : RRs := rr1 fun x g P => match lstD g x with | some ds => (match intsD ds with | some ns => P (.int ns.sum) | none => False) | none => False
def rrBs (f : List Bool → Bool) : RRs := rr1 fun x g P => match lstD g x with | some ds => (match blsD ds with | some ns => P (.bl (f ns)) | none => False) | none => False
theorem ref_bs {K : Fg} {f : List Bool → Bool} : RefCall K (rrBs f) (fun vs H Q => ∃ (a : Addr) (bs : List Bool), vs = [V.ref a] ∧ SqL K H a (bs.map V.bl) ∧ Q (.bl (f bs)) H) := by
  intro xs P vs H g Q rg r k h
  obtain ⟨x, v, rfl, rfl, rx, h⟩ := rr1_of r h
  split at h
  · rename_i ds e
    split at h
    · rename_i ns e2
      obtain ⟨a, us, rfl, hq, hr, _⟩ := lstD_of rg rx e
      rw [blsD_of e2] at hr
      rw [hr.bls] at hq
      exact ⟨a, ns, rfl, hq, .inl (k _ _ H Ext.refl rg (.bl _) h)⟩
    · exact h.elim
  · exact h.elim
def rrTuple : RRs := rr1 fun x g P => match seqD g x with | some ds => P (.tup ds) | none => False
theorem ref_tuple {K : Fg} : RefCall K rrTuple (fun xs H Q => ∃ p ys, xs = [.ref p] ∧ ((SqL K H p ys ∧ ∀ l, H l = none → Q (.ref l) (upd H l (.tup ys))) ∨ (SqT K H p ys ∧ Q (.ref p) H))) := by
  intro xs P vs H g Q rg r k h
  obtain ⟨x, v, rfl, rfl, rx, h⟩ := rr1_of r h
  split at h
  · rename_i ds e
    obtain ⟨a, us, rfl, hq, hr⟩ := seqD_ofX rg rx e
    rcases hq with hq | hq
    · exact ⟨a, us, rfl, .inl ⟨hq, fun p hp => tup_lift rg k hr h p hp⟩⟩
    · exact ⟨a, us, rfl, .inr ⟨SqT.of hq, .inl (k _ _ H Ext.refl rg (.tup hq hr) h)⟩⟩
  · exact h.elim
def rrList : RRs := rr1 fun x g P => match seqD g x with | some ds => P (.lst ds) | none => False
theorem ref_list {K : Fg} : RefCall K rrList (fun xs H Q => ∃ p ys, xs = [.ref p] ∧ (SqL K H p ys ∨ SqT K H p ys) ∧ ∀ l, H l = none → Q (.ref l) (upd H l (.lst ys))) := by
  intro xs P vs H g Q rg r k h
  obtain ⟨x, v, rfl, rfl, rx, h⟩ := rr1_of r h
  split at h
  · rename_i ds e
    obtain ⟨a, us, rfl, hq, hr⟩ := seqD_of rg rx e
    exact ⟨a, us, rfl, hq, fun p hp => fz_lift rg k hr h p hp⟩
  · exact h.elim
end
end DL

/-! Deep layer F: methods of lists, slices, sorted, isinstance, stars. -/
namespace DL
open PySem PySem.Spec PyProof.Rows L2
section
variable {X : Cx} {pos apos cpos : Pos} {o e : Expr} {es : List Expr} {to te : TDE} {t : TDA} {name : Str} {id : String} {R : V → List V → Hp → VK → Prop}
/-! ### methods of lists -/
abbrev RRm := DV → List DV → DG → (DV → DG → Prop) → Prop
def dMt (r : RRm) (to : TDE) (t : TDA) : TDE := fun δ g Q => to δ g fun x g1 => (lstD g1 x).isSome = true ∧ t δ g1 fun xs g2 => r x xs g2 Q
def dMt0 (r : RRm) (to : TDE) : TDE := fun δ g Q => to δ g fun x g1 => (lstD g1 x).isSome = true ∧ r x [] g1 Q
def RefMt (K : Fg) (r : RRm) (R : V → List V → Hp → VK → Prop) : Prop := ∀ (x : DV) (xs : List DV) (P : DV → DG → Prop) (v : V) (vs : List V) (H : Hp) (g : DG) (Q : VK), RG K H g → RD K H x v → RDs K H xs vs →
  (∀ z g' w H', Ext g H g' H' → RG K H' g' → RD K H' z w → P z g' → Q w H') → r x xs g P → R v vs H Q
theorem lst_tyV {K : Fg} {H : Hp} {g : DG} {x : DV} {v : V} (rg : RG K H g) (r : RD K H x v) (h : (lstD g x).isSome = true) : tyV K "list" v H := by
  cases e : lstD g x with
  | none => rw [e] at h; cases h
  | some ds =>
    obtain ⟨a, vs, rfl, hq, _⟩ := lstD_of rg r e
    exact Or.inl ⟨rfl, vs, hq⟩
theorem pd_bm {r : RRm} (slot : Slot "list" name id) (hty : typeOf (.builtin id) = pure (.type "method_descriptor")) (hm : MtR X id R) (rf : RefMt X.K r R) (ho : PE X o (upE X.K to)) (ha : PA X (e :: es) (upA X.K t))
    (hbase : attributeBase o name X.env (eval o X.env) = eval o X.env := by rfl)
    (hfew : ((backTo cpos (starEach (e :: es) X.env)).all (fun x => !x.1) && (backToKw cpos (keywordEach [] X.env)).all (fun x => x.1.isSome)
      && decide ((e :: es).length + ([] : List Keyword).length + (if ([] : List Keyword).isEmpty then 0 else 1) < 30)) = true := by rfl)
    (hline : (apos.endLine == cpos.line) = true := by rfl) (hs : starEach (e :: es) X.env = (false, eval e X.env) :: starEach es X.env := by rfl) (hplain : (backTo cpos (starEach es X.env)).any (·.1) = false := by rfl) :
    PE X (.Call (.Attribute o name apos) (e :: es) [] cpos) (upE X.K (dMt r to t)) :=
  PE_weak (pe_bm PySem.F.plainAttrs_list slot hty hm ho ha hbase hfew hline hs hplain) fun σ H Q ⟨δ, g, P, rs, rg, h, k⟩ => ⟨δ, g, _, rs, rg, h, fun d g1 v H1 e1 rg1 rd1 h1 =>
    ⟨lst_tyV rg1 rd1 h1.1, δ, g1, _, rs.mono (e1.kp rg), rg1, h1.2, fun xs g2 vs H2 e2 rg2 rd2 h2 => rf d xs P v vs H2 g2 Q rg2 (rd1.mono (e2.kp rg1)) rd2 (fun z g' w H' e rg' rd' p => k z g' w H' ((e1.trans e2).trans e) rg' rd' p) h2⟩⟩
theorem pd_bm0 {r : RRm} (slot : Slot "list" name id) (hty : typeOf (.builtin id) = pure (.type "method_descriptor")) (hm : MtR X id R) (rf : RefMt X.K r R) (ho : PE X o (upE X.K to))
    (hbase : attributeBase o name X.env (eval o X.env) = eval o X.env := by rfl) (hline : (apos.endLine == cpos.line) = true := by rfl) : PE X (.Call (.Attribute o name apos) [] [] cpos) (upE X.K (dMt0 r to)) :=
  PE_weak (pe_bm0 PySem.F.plainAttrs_list slot hty hm ho hbase hline) fun σ H Q ⟨δ, g, P, rs, rg, h, k⟩ => ⟨δ, g, _, rs, rg, h, fun d g1 v H1 e1 rg1 rd1 h1 =>
    ⟨lst_tyV rg1 rd1 h1.1, rf d [] P v [] H1 g1 Q rg1 rd1 .nil (fun z g' w H' e rg' rd' p => k z g' w H' (e1.trans e) rg' rd' p) h1.2⟩⟩
/-- a list that is changed: what stands at it, then what follows -/
def atL (x : DV) (g : DG) (F : Addr → List DV → Prop) : Prop := match x with | .ref p => (match g p with | some (.lst ds) => F p ds | _ => False) | _ => False
theorem atL_of {K : Fg} {H : Hp} {g : DG} {x : DV} {v : V} {F : Addr → List DV → Prop} (rg : RG K H g) (r : RD K H x v) (h : atL x g F) : ∃ p ds vs, x = .ref p ∧ v = .ref p ∧ g p = some (.lst ds) ∧ H p = some (.lst vs) ∧ RDs K H ds vs ∧ F p ds := by
  unfold atL at h
  split at h
  · cases r
    split at h
    · rename_i e
      obtain ⟨vs, q, rd⟩ := rg _ _ e
      exact ⟨_, _, vs, rfl, rfl, e, q, rd, h⟩
    · exact h.elim
  · exact h.elim
def rmAppend : RRm := fun x xs g P => match xs with | [y] => atL x g fun p ds => ds.length < sizeLine ∧ P .non (gup g p (.lst (ds ++ [y]))) | _ => False
theorem ref_append {K : Fg} : RefMt K rmAppend rAppend := by
  intro x xs P v vs H g Q rg rx rxs k h
  unfold rmAppend at h
  split at h
  · obtain ⟨u, rfl, ru⟩ := rxs.inj1
    obtain ⟨p, ds, ws, rfl, rfl, eg, eh, rd, hl, h⟩ := atL_of rg rx h
    exact ⟨p, ws, u, rfl, rfl, eh, by rw [← rd.length]; exact hl, k _ _ _ _ (Ext.set eg) (rg.set eg (rd.append (.one ru))) .non h⟩
  · exact h.elim
def rmExtend : RRm := fun x xs g P => match xs with | [y] => (match y with | .lst es => atL x g fun p ds => ds.length + es.length ≤ sizeLine ∧ P .non (gup g p (.lst (ds ++ es))) | _ => False) | _ => False
def rmPop : RRm := fun x xs g P => match xs with | [] => atL x g fun p ds => (match ds[ds.length - 1]? with | some y => P y (gup g p (.lst ds.dropLast)) | none => False) | _ => False
theorem ref_pop {K : Fg} : RefMt K rmPop rPop := by
  intro x xs P v vs H g Q rg rx rxs k h
  unfold rmPop at h
  split at h
  · cases rxs
    obtain ⟨p, ds, ws, rfl, rfl, eg, eh, rd, h⟩ := atL_of rg rx h
    split at h
    · rename_i y ey
      obtain ⟨u, hu, ru⟩ := rd.get ey
      rw [rd.length] at hu
      refine ⟨p, ws, u, rfl, rfl, eh, hu, k _ _ _ _ (Ext.set eg) (rg.set eg rd.dropLast) (ru.mono (Kp.mut (by rw [eh]; exact True.intro))) h⟩
    · exact h.elim
  · exact h.elim
theorem pd_append (ho : PE X o (upE X.K to)) (ha : PA X [e] (upA X.K t)) (hbase : attributeBase o "append" X.env (eval o X.env) = eval o X.env := by rfl)
    (hfew : ((backTo cpos (starEach [e] X.env)).all (fun x => !x.1) && (backToKw cpos (keywordEach [] X.env)).all (fun x => x.1.isSome)
      && decide ([e].length + ([] : List Keyword).length + (if ([] : List Keyword).isEmpty then 0 else 1) < 30)) = true := by rfl)
    (hline : (apos.endLine == cpos.line) = true := by rfl) (hs : starEach [e] X.env = (false, eval e X.env) :: starEach [] X.env := by rfl) : PE X (.Call (.Attribute o "append" apos) [e] [] cpos) (upE X.K (dMt rmAppend to t)) :=
  pd_bm PySem.F.slot_list_append PySem.F.type_list_append mt_append ref_append ho ha hbase hfew hline hs rfl
theorem pd_pop (ho : PE X o (upE X.K to)) (hbase : attributeBase o "pop" X.env (eval o X.env) = eval o X.env := by rfl) (hline : (apos.endLine == cpos.line) = true := by rfl) : PE X (.Call (.Attribute o "pop" apos) [] [] cpos) (upE X.K (dMt0 rmPop to)) :=
  pd_bm0 PySem.F.slot_list_pop PySem.F.type_list_pop mt_pop ref_pop ho hbase hline
/-- xs[i] = e -/
def dSetI (te to ti : TDE) : TDS := fun E δ g => te δ g fun y g1 => to δ g1 fun x g2 => ti δ g2 fun i g3 => match i with
  | .int k => atL x g3 fun p ds => (match ixN ds.length k with | some j => E.nx δ (gup g3 p (.lst (ds.set j y))) | none => False)
  | _ => False
theorem pds_setI {i : Expr} {ti : TDE} {spos : Pos} (he : PE X e (upE X.K te)) (ho : PE X o (upE X.K to)) (hi : PE X i (upE X.K ti))
    (ha : ∀ v, assign (.Subscript o i spos) X.env v = (do
      let ov ← holding [v] (eval o X.env)
      let iv ← holding [v, ov] (eval i X.env)
      standAt spos
      holding [v, ov, iv] (setItem ov iv v)
      release [v, ov, iv] []) := by intro _; rfl) (hs : swapsWithSole [.Subscript o i spos] e pos.line X.env = pure false := by rfl) (hw : swappedStores [.Subscript o i spos] e X.env = pure none := by rfl)
    (h1 : (assignEach [.Subscript o i spos] X.env).map (·.2) = [assign (.Subscript o i spos) X.env] := by rfl) : PS X (.Assign [.Subscript o i spos] e pos) (upS X.K (dSetI te to ti)) :=
  PS_weak (ps_asg he (pg_sub ho hi set_list ha) hs hw h1) fun D σ H ⟨δ, g, E, rs, rg, h, k1, _⟩ => ⟨δ, g, _, rs, rg, h, fun y g1 v H1 e1 rg1 rd1 h1 => ⟨δ, g1, _, rs.mono (e1.kp rg), rg1, h1, fun x g2 u H2 e2 rg2 rd2 h2 =>
    ⟨δ, g2, _, rs.mono ((e1.trans e2).kp rg), rg2, h2, fun z g3 w H3 e3 rg3 rd3 h3 => by
      split at h3
      · cases rd3
        obtain ⟨p, ds, ws, rfl, rfl, eg, eh, rd, h3⟩ := atL_of rg3 (rd2.mono (e3.kp rg2)) h3
        split at h3
        · rename_i j ej
          rw [rd.length] at ej
          have km : Kp H3 (upd H3 p (.lst (ws.set j v))) := Kp.mut (by rw [eh]; exact True.intro)
          exact ⟨p, ws, _, j, rfl, rfl, eh, ej, k1 _ _ _ _ ((e1.trans e2).trans (e3.trans (Ext.set eg))) (rg3.set eg (rd.set ((rd1.mono (e2.kp rg1)).mono (e3.kp rg2)) j)) ((rs.mono ((e1.trans (e2.trans e3)).kp rg)).mono km) h3⟩
        · exact h3.elim
      · exact h3.elim⟩⟩⟩

/-! ### slices -/
abbrev TDO := DS → DG → (Option Int → DG → Prop) → Prop
def upO (K : Fg) (t : TDO) : TO := fun σ H Q => ∃ δ g P, RS K H δ σ ∧ RG K H g ∧ t δ g P ∧ ∀ b g' H', Ext g H g' H' → RG K H' g' → P b g' → Q b H'
def dNoPart : TDO := fun _ g Q => Q none g
def dPart (t : TDE) : TDO := fun δ g Q => t δ g fun x g1 => match x with | .int i => Q (some i) g1 | _ => False
theorem PO_weak {X : Cx} {e : Option Expr} {t t' : TO} (h : PO X e t) (w : ∀ σ H Q, t' σ H Q → t σ H Q) : PO X e t' := ⟨fun pins s σ H Q I q => h.run pins s σ H Q I (w σ H Q q)⟩
theorem pod_none : PO X none (upO X.K dNoPart) := PO_weak po_none fun σ H Q ⟨δ, g, P, rs, rg, h, k⟩ => k _ _ _ Ext.refl rg h
theorem pod_some (h : PE X e (upE X.K te)) : PO X (some e) (upO X.K (dPart te)) := PO_weak (po_some h) fun σ H Q ⟨δ, g, P, rs, rg, h, k⟩ => ⟨δ, g, _, rs, rg, h, fun d g1 v H1 e1 rg1 rd p => by
  split at p
  · cases rd; exact ⟨_, rfl, k _ _ _ e1 rg1 p⟩
  · exact p.elim⟩
/-- the slice of a list of contents -/
def cutD (xs : List DV) (lo hi : Option Int) : List DV := (xs.drop (HT.sIx xs.length 0 lo)).take (HT.sIx xs.length xs.length hi - HT.sIx xs.length 0 lo)
theorem cut_rd {K : Fg} {H : Hp} {ds : List DV} {vs : List V} (r : RDs K H ds vs) (lo hi : Option Int) : RDs K H (cutD ds lo hi) (cutV vs lo hi) := by
  unfold cutD cutV
  rw [r.length]
  exact (r.drop _).take _
def dSl (te : TDE) (tl th : TDO) : TDE := fun δ g Q => te δ g fun x g1 => tl δ g1 fun lo g2 => th δ g2 fun hi g3 => match x with
  | .tup ds => Q (.tup (cutD ds lo hi)) g3
  | .lst ds => Q (.lst (cutD ds lo hi)) g3
  | .scr ns => Q (.lst (cutD (ns.map .int) lo hi)) g3
  | .ref p => (match g3 p with | some (.lst ds) => Q (.lst (cutD ds lo hi)) g3 | _ => False)
  | .tpl ds => (HT.sIx ds.length 0 lo = 0 ∧ HT.sIx ds.length ds.length hi = ds.length → Q (.tpl ds) g3) ∧ (¬ (HT.sIx ds.length 0 lo = 0 ∧ HT.sIx ds.length ds.length hi = ds.length) → Q (.tup (cutD ds lo hi)) g3)
  | _ => False
theorem pd_slice {lo hi : Option Expr} {tl th : TDO} {p2 : Pos} (he : PE X e (upE X.K te)) (hl : PO X lo (upO X.K tl)) (hu : PO X hi (upO X.K th)) : PE X (.Subscript e (.Slice lo hi none p2) pos) (upE X.K (dSl te tl th)) := by
  refine PE_weak (pe_slice ((SlR_fz sl_list).or (SlR_fz sl_tupA)) he hl hu) fun σ H Q ⟨δ, g, P, rs, rg, h, k⟩ => ⟨δ, g, _, rs, rg, h, fun x g1 v H1 e1 rg1 rd1 h1 => ⟨δ, g1, _, rs.mono (e1.kp rg), rg1, h1, fun l g2 H2 e2 rg2 h2 =>
    ⟨δ, g2, _, rs.mono ((e1.trans e2).kp rg), rg2, h2, fun u g3 H3 e3 rg3 h3 => ?_⟩⟩⟩
  have rd3 := (rd1.mono (e2.kp rg1)).mono (e3.kp rg2)
  have ee := (e1.trans e2).trans e3
  have kk : ∀ z w H', Ext g3 H3 g3 H' → RG X.K H' g3 → RD X.K H' z w → P z g3 → Q w H' := fun z w H' e rg' rd' p => k z g3 w H' (ee.trans e) rg' rd' p
  split at h3
  · cases rd3 with
    | tup hs hr =>
      refine .inr ⟨_, _, rfl, SqT.of hs, fun hw => .inl ?_, fun hw p hp => tup_lift (P := fun z => P z g3) rg3 kk (cut_rd hr l u) h3 p hp⟩
      refine k _ _ _ _ ee rg3 (.tup hs ?_) h3
      unfold cutD
      rw [← hr.length] at hw
      rw [hw.1, hw.2, List.drop_zero, Nat.sub_zero, List.take_length]
      exact hr
  · cases rd3 with
    | lst hs hr => exact .inl ⟨_, _, rfl, hs.sq, fun p hp => fz_lift (P := fun z => P z g3) rg3 kk (cut_rd hr l u) h3 p hp⟩
  · cases rd3 with
    | scr hs => exact .inl ⟨_, _, rfl, hs.sq, fun p hp => fz_lift (P := fun z => P z g3) rg3 kk (cut_rd (RDs.ofInts _) l u) h3 p hp⟩
  · cases rd3
    split at h3
    · rename_i eg
      obtain ⟨vs, q, rd⟩ := rg3 _ _ eg
      exact .inl ⟨_, _, rfl, SqL.of q, fun p hp => fz_lift (P := fun z => P z g3) rg3 kk (cut_rd rd l u) h3 p hp⟩
    · exact h3.elim
  · cases rd3 with
    | tpl hs hr =>
      rw [hr.length] at h3
      exact .inr ⟨_, _, rfl, hs.sq, fun hw => .inl (k _ _ _ _ ee rg3 (.tpl hs hr) (h3.1 hw)), fun hw p hp => tup_lift (P := fun z => P z g3) rg3 kk (cut_rd hr l u) (h3.2 hw) p hp⟩
  · exact h3.elim

/-! ### stars in displays -/
def dStar (te : TDE) (t : TDA) : TDA := fun δ g Q => te δ g fun x g1 => match seqD g1 x with | some ds => t δ g1 fun xs g2 => Q (ds ++ xs) g2 | none => False
theorem pda_star {p : Pos} (he : PE X e (upE X.K te)) (hr : PA X es (upA X.K t)) (hs : starEach (.Starred e p :: es) X.env = (true, eval e X.env) :: starEach es X.env := by rfl) : PA X (.Starred e p :: es) (upA X.K (dStar te t)) := by
  refine PA_weak (StX.pa_star he hr hs) fun σ H Q ⟨δ, g, P, rs, rg, h, k⟩ => ⟨δ, g, _, rs, rg, h, fun x g1 v H1 e1 rg1 rd1 h1 => ?_⟩
  split at h1
  · rename_i ds ed
    obtain ⟨a, vs, rfl, hq, hr⟩ := seqD_of rg1 rd1 ed
    exact ⟨a, vs, rfl, hq.symm, δ, g1, _, rs.mono (e1.kp rg), rg1, h1, fun xs g2 us H2 e2 rg2 rd2 h2 => k _ _ _ _ (e1.trans e2) rg2 ((hr.mono (e2.kp rg1)).append rd2) h2⟩
  · exact h1.elim

/-! ### isinstance -/
def tyNm (g : DG) : DV → Option String
  | .non => some "NoneType"
  | .bl _ => some "bool"
  | .int _ => some "int"
  | .str _ => some "str"
  | .tup _ => some "tuple"
  | .lst _ => some "list"
  | .ref p => (match g p with | some (.lst _) => some "list" | some (.dK _ _) => some "dict" | some (.dT _ _) => some "dict" | _ => none)
  | .ty _ => none
  | .scr _ => none
  | .dK _ _ => some "dict"
  | .dT _ _ => some "dict"
  | .ins _ _ => none
  | .exc _ _ _ _ => none
  | .lam _ _ _ _ _ => none
  | .tpl _ => some "tuple"
def isiN (a T : String) : Option Bool := if T ∈ ["int", "bool", "tuple", "str", "list", "dict"] then some (a == T || (a == "bool" && T == "int")) else none
theorem isiN_kit : ∀ a ∈ ["NoneType", "bool", "int", "str", "tuple", "list", "dict"], ∀ T ∈ ["int", "bool", "tuple", "str", "list", "dict"], kitB a T = some (a == T || (a == "bool" && T == "int")) := by decide +kernel
/-- a value's type, a locked dict of tuple keys too -/
def TyY (K : Fg) (H : Hp) (v : V) (t : Value) : Prop := TyX K H v t ∨ ∃ a o kvs, v = .ref a ∧ H a = some (.frz o (.dT kvs)) ∧ t = .type "dict"
theorem kitY_of {X : Cx} {pins : List (Addr × Obj)} {σ : L2.St} {H : Hp} {s : Shared} {x : V} {u t : Value} (I : Inv X pins σ H s) (rx : RelV x u) (ty : TyY X.K H x t) : ∃ P : Heap → Prop, PySem.W.KitX X.K u t P ∧ P s.heap ∧ u ≠ .builtin "__main__.__loader__#opaque" := by
  rcases ty with ty | ⟨a, ob, kvs, ex, ea, et⟩
  · exact kit_of I rx ty
  · subst ex et
    cases (show u = Value.ref a from rx)
    obtain ⟨_, _, _, xs, _, o, es, ep, h1, h2, _⟩ := (show ObjOk X.prog X.w H s.heap a (.frz ob (.dT kvs)) from I.hok a _ ea)
    exact ⟨_, PySem.W.kitx_dict, ⟨o, h1, h2.1⟩, fun z => nomatch z⟩
def rIsiY (K : Fg) : List V → Hp → VK → Prop := fun xs H Q => ∃ (x c : V) (t u : Value) (b : Bool), xs = [x, c] ∧ ClsV c u ∧ TyY K H x t ∧ PySem.W.kitOne K t u = some b ∧ Q (.bl b) H
theorem call_isiY {X : Cx} : CallR X (.builtin "isinstance") (rIsiY X.K) := by
  intro pins s σ H xs us Q I r h
  obtain ⟨x, c, t, u, b, rfl, k, ty, e, q⟩ := h
  obtain ⟨u1, u2, rfl, r1, r2⟩ := vals2 r
  have e2 := k.eq r2
  subst e2
  obtain ⟨P, Z, p, hx⟩ := kitY_of I r1 ty
  exact PySem.W.kia_one Z I.kIn p e hx fun tk => ⟨.bl b, H, I.tok tk, rfl, q⟩
theorem tyNm_of {K : Fg} {H : Hp} {g : DG} {x : DV} {v : V} {a : String} (rg : RG K H g) (r : RD K H x v) (h : tyNm g x = some a) : a ∈ ["NoneType", "bool", "int", "str", "tuple", "list", "dict"] ∧ TyY K H v (.type a) := by
  cases r with
  | non => cases h; exact ⟨by decide, .inl <| .base .non⟩
  | bl b => cases h; exact ⟨by decide, .inl <| .base (.bl b)⟩
  | int i => cases h; exact ⟨by decide, .inl <| .base (.int i)⟩
  | str z => cases h; exact ⟨by decide, .inl <| .base (.str z)⟩
  | ty n => cases h
  | scr _ => cases h
  | ref p =>
    have h' : (match g p with | some (.lst _) => some "list" | some (.dK _ _) => some "dict" | some (.dT _ _) => some "dict" | _ => none) = some a := h
    split at h'
    · cases h'
      rename_i o e
      obtain ⟨vs, q, _⟩ := rg _ _ e
      exact ⟨by decide, .inl <| .base (.lst q)⟩
    · cases h'
      rename_i e
      obtain ⟨vs, q, _⟩ := rg _ _ e
      exact ⟨by decide, .inl <| .base (.dK q)⟩
    · cases h'
      rename_i e
      obtain ⟨vs, q, _⟩ := rg _ _ e
      exact ⟨by decide, .inl <| .base (.dT q)⟩
    · cases h'
  | ins hs hr => cases h
  | exc hs hr => cases h
  | lam hs hr => cases h
  | tpl hs hr =>
    cases h
    obtain ⟨o, hs, _⟩ := hs
    exact ⟨by decide, .inl <| .fTuple hs⟩
  | dK hs hr =>
    cases h
    obtain ⟨o, kvs, hs, _⟩ := hs
    exact ⟨by decide, .inl <| .fDict hs⟩
  | dT hs hr =>
    cases h
    obtain ⟨o, kvs, hs, _⟩ := hs
    exact ⟨by decide, .inr ⟨_, o, kvs, rfl, hs, rfl⟩⟩
  | tup hs hr =>
    cases h
    exact ⟨by decide, .inl <| .base (.tup hs)⟩
  | lst hs hr =>
    cases h
    obtain ⟨o, hs⟩ := hs
    exact ⟨by decide, .inl <| .base (.frz hs)⟩
def rrIsi : RRs := rr2 fun x y g P => match y with | .ty T => (match tyNm g x with | some a => (match isiN a T with | some b => P (.bl b) | none => False) | none => False) | _ => False
theorem ref_isi {K : Fg} : RefCall K rrIsi (rIsiY K) := by
  intro xs P vs H g Q rg r k h
  obtain ⟨x, y, v, u, rfl, rfl, rx, ry, h⟩ := rr2_of r h
  split at h
  · cases ry
    split at h
    · rename_i a ea
      split at h
      · rename_i b eb
        obtain ⟨ma, ty⟩ := tyNm_of rg rx ea
        unfold isiN at eb
        split at eb
        · rename_i mT
          cases eb
          exact ⟨v, _, _, _, _, rfl, .ty _, ty, kit_ty (isiN_kit a ma _ mT), .inl (k _ _ H Ext.refl rg (.bl _) h)⟩
        · cases eb
      · exact h.elim
    · exact h.elim
  · exact h.elim
end
end DL

/-! Deep layer G: what the printed derivations and the readings lean on. -/
namespace DL
open PySem PySem.Spec PyProof.Rows L2
section
variable {X : Cx} {pos : Pos}
def dYes : TDT := fun _ g Q => Q true g
theorem ptsd_nil : PTs X [] (upT X.K dYes) := ⟨fun pins s σ H Q I ⟨δ, g, P, rs, rg, h, k⟩ => pts_nil.run pins s σ H Q I (k _ _ _ Ext.refl rg h)⟩
theorem ptsd_one {c : Expr} {t : TDT} (h : PT X c (upT X.K t)) : PTs X [c] (upT X.K t) := pts_one h
theorem pgd_nm {i : Nat} {x : Str} (hN : X.N.Nodup) (hi : X.N[i]? = some x := by rfl) (hx : Loc X.env.scope x := by first | exact Or.inl rfl | exact Or.inr rfl) (hf : X.fn x = true ∨ X.env.scope.names.lookup x = some .local := by first | exact .inl rfl | exact .inr rfl) : PG X (.Name x pos) (tgG X.K (.nm i)) := pg_name hN hi hx hf
theorem pgd_tp {es : List Expr} {k : Nat} {is : List Nat} (hc : X.calm = true) (h : PGs X es (gAll is)) (hn : (assignEach es X.env).length = is.length := by rfl) (hst : (assignEach es X.env).findIdx? (·.1) = none := by rfl) : PG X (.Tuple es k pos) (tgG X.K (.tp is)) := pg_tup hc h hn hst
theorem pgd_nil : PGs X [] (gAll []) := pgs_nil
theorem pgd_cons {i : Nat} {is : List Nat} {e : Expr} {es : List Expr} (h1 : PG X e (tgG X.K (.nm i))) (h2 : PGs X es (gAll is)) (hs : (assignEach (e :: es) X.env).map (·.2) = assign e X.env :: (assignEach es X.env).map (·.2) := by rfl) : PGs X (e :: es) (gAll (i :: is)) := pgs_cons h1 h2 hs
/-! ### sorted -/
def dleD (a b : DV) : Bool := !W.dataLt b.py a.py
def SortOk (ds : List DV) : Prop := plAll ds = true ∧ W.AllAlike (ds.map DV.py) ∧ W.Sortable (ds.map DV.py) ∧ ∀ d ∈ ds, d.py.depth ≤ 60
def rrSorted : RRs := rr1 fun x g P => match lstD g x with | some ds => SortOk ds ∧ P (.lst (ds.mergeSort dleD)) | none => False
def RSortD (K : Fg) : List V → Hp → VK → Prop := fun vs H Q => ∃ (a : Addr) (L : List (DV × V)), vs = [.ref a] ∧ SqL K H a (L.map Prod.snd) ∧ (∀ p ∈ L, RD K H p.1 p.2) ∧ SortOk (L.map Prod.fst) ∧
  ∀ p, H p = none → Q (.ref p) (upd H p (.lst ((L.mergeSort fun a b => dleD a.1 b.1).map Prod.snd)))
theorem each_L {K : Fg} {H : Hp} : ∀ {L : List (DV × V)} {its : List Value}, Vals (L.map Prod.snd) its → W.EachIs (fun (u : Value) (b : DV × V) => RelV b.2 u) its L
  | [], _, r => by cases r; exact .nil
  | _ :: _, _, r => by
    cases r with
    | cons r1 r2 => exact .cons r1 (each_L (K := K) (H := H) r2)
theorem vals_L : ∀ {L : List (DV × V)} {its : List Value}, W.EachIs (fun (u : Value) (b : DV × V) => RelV b.2 u) its L → Vals (L.map Prod.snd) its
  | _, _, .nil => .nil
  | _, _, .cons r1 r2 => .cons r1 (vals_L r2)
theorem reads_L {pins : List (Addr × Obj)} {σ : L2.St} {H : Hp} {s : Shared} (I : Inv X pins σ H s) : ∀ {L : List (DV × V)} {its : List Value}, (∀ p ∈ L, RD X.K H p.1 p.2) → plAll (L.map Prod.fst) = true → Vals (L.map Prod.snd) its →
    W.EachIs (fun (u : Value) (b : DV × V) => ∃ as, Reads s.heap u b.1.py as) its L
  | [], _, _, _, r => by cases r; exact .nil
  | b :: L, _, hr, hp, r => by
    cases r with
    | cons r1 r2 =>
      rw [List.map_cons, plAll, Bool.and_eq_true] at hp
      exact .cons (Dp.reads I _ _ _ ((hr b List.mem_cons_self).dp hp.1) r1) (reads_L I (fun p hp => hr p (List.mem_cons_of_mem _ hp)) hp.2 r2)
theorem cr_sortedD (hu : X.A.units + 64 < cLine) : CallR X (.builtin "sorted") (RSortD X.K) := by
  intro pins s σ H vs us Q I r h
  obtain ⟨a, L, rfl, hq, hr, ⟨s1, s2, s3, s4⟩, q⟩ := h
  rw [Vals.ref1 r]
  obtain ⟨its, rv, pl, hz⟩ := I.list hq
  have hlen : its.length = L.length := by rw [← rv.length, List.length_map]
  have e1 : L.map (fun b : DV × V => b.1.py) = (L.map Prod.fst).map DV.py := by rw [List.map_map]; rfl
  have hL : L.length ≤ sizeLine := by rw [List.length_map] at hz; exact hz
  refine PySem.W.sorted_data (bs := L) (enc := fun b : DV × V => b.1.py) (R := fun u b => RelV b.2 u) pl.isList (each_L (K := X.K) (H := H) rv) (reads_L I hr s1 rv) (by rw [e1]; exact s2) (by rw [e1]; exact s3) hL ?_ ?_
  · intro b hb
    have := s4 b.1 (List.mem_map.mpr ⟨b, hb, rfl⟩)
    omega
  · intro out ho eo
    have ev := vals_L eo
    rw [show PySem.W.dataLe false (fun b : DV × V => b.1.py) = fun a b => dleD a.1 b.1 from PySem.W.dataLe_eq false _] at ev
    obtain ⟨c, hc⟩ := sortedAll_at s.heap its (List.toArray out)
    have hn : H (s.heap.objs.size + 1) = none := I.hok.fresh (Nat.le_succ _)
    refine ⟨.ref _, _, I.laid (t' := s.toks) (fun _ _ z => sortedAll_old z) (Nat.le_succ _) (?_ : ObjOk X.prog X.w _ _ _ (.lst _)), rfl, q _ hn⟩
    exact ⟨by rw [List.length_map, List.length_mergeSort]; exact hL, out, c, ev, hc⟩
theorem zip_rd {K : Fg} {H : Hp} : ∀ {ds : List DV} {vs : List V}, RDs K H ds vs → (ds.zip vs).map Prod.fst = ds ∧ (ds.zip vs).map Prod.snd = vs ∧ ∀ p ∈ ds.zip vs, RD K H p.1 p.2
  | _, _, .nil => ⟨rfl, rfl, fun _ h => by cases h⟩
  | d :: _, v :: _, .cons r t => by
    obtain ⟨h1, h2, h3⟩ := zip_rd t
    refine ⟨by rw [List.zip_cons_cons, List.map_cons, h1], by rw [List.zip_cons_cons, List.map_cons, h2], fun p hp => ?_⟩
    rw [List.zip_cons_cons] at hp
    rcases List.mem_cons.mp hp with e | e
    · subst e; exact r
    · exact h3 p e
theorem rds_pairs {K : Fg} {H : Hp} : ∀ {L : List (DV × V)}, (∀ p ∈ L, RD K H p.1 p.2) → RDs K H (L.map Prod.fst) (L.map Prod.snd)
  | [], _ => .nil
  | b :: L, h => .cons (h b List.mem_cons_self) (rds_pairs fun p hp => h p (List.mem_cons_of_mem _ hp))
theorem ref_sorted {K : Fg} : RefCall K rrSorted (RSortD K) := by
  intro xs P vs H g Q rg r k h
  obtain ⟨x, v, rfl, rfl, rx, h⟩ := rr1_of r h
  split at h
  · rename_i ds e
    obtain ⟨a, us, rfl, hq, hr, _⟩ := lstD_of rg rx e
    obtain ⟨z1, z2, z3⟩ := zip_rd hr
    refine ⟨a, ds.zip us, rfl, by rw [z2]; exact hq, z3, by rw [z1]; exact h.1, fun p hp => ?_⟩
    have hm : ((ds.zip us).mergeSort fun a b => dleD a.1 b.1).map Prod.fst = ds.mergeSort dleD := by
      rw [List.map_mergeSort (s := dleD) (fun _ _ _ _ => rfl), z1]
    refine fz_lift rg k (ds := ds.mergeSort dleD) ?_ h.2 p hp
    rw [← hm]
    exact rds_pairs fun p hp => z3 p (List.mem_mergeSort.mp hp)
  · exact h.elim
end

/-! ### promises by the number of arguments -/
def sp1 (f : DV → DG → (DV → DG → Prop) → Prop) : SpD := fun ds g P => match ds with | [a] => f a g P | _ => False
def sp2 (f : DV → DV → DG → (DV → DG → Prop) → Prop) : SpD := fun ds g P => match ds with | [a, b] => f a b g P | _ => False
def sp3 (f : DV → DV → DV → DG → (DV → DG → Prop) → Prop) : SpD := fun ds g P => match ds with | [a, b, c] => f a b c g P | _ => False
def sp4 (f : DV → DV → DV → DV → DG → (DV → DG → Prop) → Prop) : SpD := fun ds g P => match ds with | [a, b, c, d] => f a b c d g P | _ => False
theorem sp1_of {f} {ds : List DV} {g : DG} {P : DV → DG → Prop} (h : sp1 f ds g P) : ∃ a, ds = [a] ∧ f a g P := by
  match ds, h with
  | [a], h => exact ⟨a, rfl, h⟩
theorem sp2_of {f} {ds : List DV} {g : DG} {P : DV → DG → Prop} (h : sp2 f ds g P) : ∃ a b, ds = [a, b] ∧ f a b g P := by
  match ds, h with
  | [a, b], h => exact ⟨a, b, rfl, h⟩
theorem sp3_of {f} {ds : List DV} {g : DG} {P : DV → DG → Prop} (h : sp3 f ds g P) : ∃ a b c, ds = [a, b, c] ∧ f a b c g P := by
  match ds, h with
  | [a, b, c], h => exact ⟨a, b, c, rfl, h⟩
theorem sp4_of {f} {ds : List DV} {g : DG} {P : DV → DG → Prop} (h : sp4 f ds g P) : ∃ a b c d, ds = [a, b, c, d] ∧ f a b c d g P := by
  match ds, h with
  | [a, b, c, d], h => exact ⟨a, b, c, d, rfl, h⟩
theorem len1 {f} {ds : List DV} {g : DG} {P : DV → DG → Prop} (h : sp1 f ds g P) : ds.length = 1 := by obtain ⟨_, rfl, _⟩ := sp1_of h; rfl
theorem len2 {f} {ds : List DV} {g : DG} {P : DV → DG → Prop} (h : sp2 f ds g P) : ds.length = 2 := by obtain ⟨_, _, rfl, _⟩ := sp2_of h; rfl
theorem len3 {f} {ds : List DV} {g : DG} {P : DV → DG → Prop} (h : sp3 f ds g P) : ds.length = 3 := by obtain ⟨_, _, _, rfl, _⟩ := sp3_of h; rfl
theorem len4 {f} {ds : List DV} {g : DG} {P : DV → DG → Prop} (h : sp4 f ds g P) : ds.length = 4 := by obtain ⟨_, _, _, _, rfl, _⟩ := sp4_of h; rfl

/-! ### a def of the module -/
structure Dfn (K : Fg) (mg : Str → Option Value) (x : Str) (st : Stmt) (ps : List Str) (f : Addr) (fd : FuncData) : Prop where
  fn : Fun K x x st f fd
  at_ : mg x = some (.ref f)
  bd : Binds K fd ps []

/-! ### comprehensions whose parts change nothing -/
/-- no test -/
theorem comp_map {tg : Tg} {own : List Nat} {te : TDE} {δ : DS} {g : DG} {f : DV → DV} : ∀ {ds : List DV} {Q : List DV → DG → Prop},
    (∀ d ∈ ds, ∃ δ2, bindT tg d (wipeD δ own) = some δ2 ∧ ∀ Q2 : DV → DG → Prop, Q2 (f d) g → te δ2 g Q2) → Q (ds.map f) g → dComp tg own dYes te δ ds g Q
  | [], Q, _, hq => hq
  | d :: ds, Q, h, hq => by
    obtain ⟨δ2, e, he⟩ := h d List.mem_cons_self
    unfold dComp
    rw [e]
    dsimp only [dYes]
    rw [if_pos rfl]
    exact he _ (comp_map (fun d hd => h d (List.mem_cons_of_mem _ hd)) hq)
/-- a test -/
theorem comp_fil {tg : Tg} {own : List Nat} {tt : TDT} {te : TDE} {δ : DS} {g : DG} {p : DV → Bool} {f : DV → DV} : ∀ {ds : List DV} {Q : List DV → DG → Prop},
    (∀ d ∈ ds, ∃ δ2, bindT tg d (wipeD δ own) = some δ2 ∧ (∀ Q' : Bool → DG → Prop, Q' (p d) g → tt δ2 g Q') ∧ (p d = true → ∀ Q2 : DV → DG → Prop, Q2 (f d) g → te δ2 g Q2)) → Q ((ds.filter p).map f) g → dComp tg own tt te δ ds g Q
  | [], Q, _, hq => hq
  | d :: ds, Q, h, hq => by
    obtain ⟨δ2, e, ht, he⟩ := h d List.mem_cons_self
    unfold dComp
    rw [e]
    refine ht _ ?_
    cases hp : p d with
    | true =>
      rw [if_pos rfl]
      refine he hp _ (comp_fil (fun d hd => h d (List.mem_cons_of_mem _ hd)) ?_)
      rw [List.filter_cons_of_pos hp] at hq
      exact hq
    | false =>
      rw [if_neg Bool.false_ne_true]
      refine comp_fil (fun d hd => h d (List.mem_cons_of_mem _ hd)) ?_
      rw [List.filter_cons_of_neg (by rw [hp]; exact Bool.false_ne_true)] at hq
      exact hq
end DL

/-! Deep layer H: t[::-1], dicts. -/
namespace L2.HT
open PySem PySem.Spec PyProof.Rows
section
variable {P : Program} {u : World} {A : Around} {E : Value → Shared → Prop} {s : Shared}
end
end L2.HT
namespace DL
open PySem PyProof.Rows PySem.Spec L2
section
variable {X : Cx} {pos : Pos} {e o i value : Expr} {te td ty tv : TDE}
/-! ### x[::-1] -/
/-! ### dicts: keys -/
def keyK : DV → Option Key
  | .int i => some (.inl i)
  | .str x => some (.inr x)
  | _ => none
theorem keyK_of {K : Fg} {H : Hp} {d : DV} {v : V} {k : Key} (r : RD K H d v) (h : keyK d = some k) : v = kV k := by
  cases r <;> first | (cases h; rfl) | cases h
def putKs {κ : Type} [DecidableEq κ] (ks : List κ) (k : κ) : List κ := if k ∈ ks then ks else ks ++ [k]
def setD {κ : Type} [DecidableEq κ] : List κ → List DV → κ → DV → List DV
  | k' :: ks, e :: ds, k, d => (if k' = k then d else e) :: setD ks ds k d
  | _, _, _, _ => []
def putDs {κ : Type} [DecidableEq κ] (ks : List κ) (ds : List DV) (k : κ) (d : DV) : List DV := if k ∈ ks then setD ks ds k d else ds ++ [d]
theorem setD_rd {κ : Type} [DecidableEq κ] {K : Fg} {H : Hp} {k : κ} {d : DV} {v : V} (r : RD K H d v) : ∀ {kvs : List (κ × V)} {ds : List DV}, RDs K H ds (kvs.map (·.2)) →
    RDs K H (setD (kvs.map (·.1)) ds k d) ((kvs.map fun kv => if kv.1 = k then (kv.1, v) else kv).map (·.2))
  | [], _, h => by cases h; exact .nil
  | p :: t, _, h => by
    cases h with
    | cons h1 h2 =>
      rw [List.map_cons, List.map_cons, List.map_cons]
      unfold setD
      refine .cons ?_ (setD_rd r h2)
      by_cases z : p.1 = k
      · rw [if_pos z, if_pos z]; exact r
      · rw [if_neg z, if_neg z]; exact h1
theorem putK_rd {κ : Type} [DecidableEq κ] {K : Fg} {H : Hp} {k : κ} {d : DV} {v : V} {kvs : List (κ × V)} {ds : List DV} (r : RD K H d v) (rd : RDs K H ds (kvs.map (·.2))) :
    (putK kvs k v).map (·.1) = putKs (kvs.map (·.1)) k ∧ RDs K H (putDs (kvs.map (·.1)) ds k d) ((putK kvs k v).map (·.2)) := by
  unfold putK putKs putDs
  have hm : (kvs.any fun kv => decide (kv.1 = k)) = true ↔ k ∈ kvs.map (·.1) := by
    simp [List.any_eq_true]
  by_cases z : k ∈ kvs.map (·.1)
  · rw [if_pos (hm.mpr z), if_pos z, if_pos z]
    refine ⟨?_, setD_rd r rd⟩
    rw [List.map_map]
    refine List.map_congr_left fun p _ => ?_
    show (if p.1 = k then (p.1, v) else p).1 = p.1
    split <;> rfl
  · rw [if_neg (fun y => z (hm.mp y)), if_neg z, if_neg z, List.map_append, List.map_append]
    exact ⟨rfl, rd.append (.one r)⟩
/-! ### {} -/
/-! ### d[k] = v -/
def dput (x y v : DV) (g : DG) (R : DG → Prop) : Prop := match x with
  | .ref p => (match g p with
    | some (.dK ks ds) => (match keyK y with | some k => ds.length < sizeLine ∧ R (gup g p (.dK (putKs ks k) (putDs ks ds k v))) | none => False)
    | _ => False)
  | _ => False
def dDPut (td ty tv : TDE) : TDS := fun E δ g => tv δ g fun v g1 => td δ g1 fun x g2 => ty δ g2 fun y g3 => dput x y v g3 fun g4 => E.nx δ g4
/-! ### sorted(d), its keys ints -/
/-- the keys and values of a dict -/
def dctK (g : DG) : DV → Option (List Key × List DV)
  | .dK ks ds => some (ks, ds)
  | .ref p => match g p with | some (.dK ks ds) => some (ks, ds) | _ => none
  | _ => none
theorem dctK_of {K : Fg} {H : Hp} {g : DG} {d : DV} {v : V} {ks : List Key} {ds : List DV} (rg : RG K H g) (r : RD K H d v) (h : dctK g d = some (ks, ds)) :
    ∃ a kvs, v = .ref a ∧ Rd H a (.dK kvs) ∧ kvs.map (·.1) = ks ∧ RDs K H ds (kvs.map (·.2)) := by
  cases r with
  | dK hs hr =>
    cases h
    obtain ⟨o, kvs, e, e1, e2⟩ := hs
    exact ⟨_, kvs, rfl, .inr ⟨o, e⟩, e1, by rw [e2]; exact hr⟩
  | ref a =>
    unfold dctK at h
    split at h <;> first | cases h | skip
    all_goals (try (rename_i q; cases q))
    all_goals (split at h <;> first | (cases h; rename_i e; obtain ⟨kvs, q, e1, rd⟩ := rg _ _ e; exact ⟨_, kvs, rfl, .inl q, e1, rd⟩) | cases h)
  | _ => cases h
/-! ### answers that are new things to be changed -/
abbrev RRsM := List DV → DG → (DV → DG → Prop) → Prop
def RefCallM (K : Fg) (r : RRsM) (R : List V → Hp → VK → Prop) : Prop := ∀ (xs : List DV) (P : DV → DG → Prop) (vs : List V) (H : Hp) (g : DG) (Q : VK), RG K H g → RDs K H xs vs →
  (∀ z g' w H', Ext g H g' H' → RG K H' g' → RD K H' z w → P z g' → Q w H') → r xs g P → R vs H (fz Q)
def dCBM (r : RRsM) (t : TDA) : TDE := fun δ g Q => t δ g fun xs g1 => r xs g1 Q
theorem cbM_up {r : RRsM} {R : List V → Hp → VK → Prop} {σ : L2.St} {H : Hp} {Q : VK} {K : Fg} {t : TDA} (rf : RefCallM K r R) (h : upE K (dCBM r t) σ H Q) : tCB (fun xs H Q => R xs H (fz Q)) (upA K t) σ H Q := by
  obtain ⟨δ, g, P, rs, rg, h, k⟩ := h
  exact ⟨δ, g, _, rs, rg, h, fun ds g1 vs H1 e1 rg1 rd1 h1 => rf ds _ vs H1 g1 Q rg1 rd1 (fun z g' w H' e rg' rd' pz => k z g' w H' (e1.trans e) rg' rd' pz) h1⟩
variable {x : Str} {p : Pos} {es : List Expr} {t : TDA}
theorem pd_callTyM {T : String} {r : RRsM} {R : List V → Hp → VK → Prop} (hc : CallR X (.type T) R) (rf : RefCallM X.K r R) (hm : X.mg x = none) (hv : bootBuiltins x = some (.type T)) (ha : PA X (e :: es) (upA X.K t)) (hg : Gl X x := by rfl) (hn : x ≠ "__name__" := by decide) (hdb : (x == ("__debug__" : Str)) = false := by decide)
    (he : starEach (e :: es) X.env = (false, eval e X.env) :: starEach es X.env := by rfl) (hpl : (backTo pos (starEach es X.env)).any (·.1) = false := by rfl) : PE X (.Call (.Name x p) (e :: es) [] pos) (upE X.K (dCBM r t)) :=
  PE_weak (pe_callTy (CallR_fz hc) hg hm hv ha hn hdb he hpl) fun _ _ _ h => cbM_up rf h
/-! ### tuple(range(n)), list(range(n)) -/
theorem rgV_rd {K : Fg} {H : Hp} (n : Int) : RDs K H (rangeD 0 n.toNat) (rgV 0 n) := by
  have e1 : rangeD 0 n.toNat = ((List.range n.toNat).map fun (i : Nat) => (0 : Int) + i).map DV.int := by rw [List.map_map]; rfl
  have e2 : rgV 0 n = ((List.range n.toNat).map fun (i : Nat) => (0 : Int) + i).map V.int := by rw [List.map_map]; unfold rgV; rw [Int.sub_zero]; rfl
  rw [e1, e2]
  exact RDs.ofInts _
def dLstRg (ta : TDE) : TDE := fun δ g Q => ta δ g fun x g1 => match x with | .int n => (0 ≤ n ∧ n ≤ 16777216) ∧ Q (.lst (rangeD 0 n.toNat)) g1 | _ => False
end
end DL

/-! Deep layer S: set(list of ints), sorted(set(list)). -/
namespace L2
open PyProof.Rows PySem.Spec PySem
section
variable {P : Program} {u : World} {A : Around} {E : Value → Shared → Prop} {s : Shared}
end
end L2
namespace DL
open PyProof.Rows PySem.Spec PySem L2
section
variable {X : Cx} {pos : Pos} {a : Expr} {ta : TDE}
end
end DL

/-! Deep layer T: small facts for readings. -/
namespace DL
open PySem L2
theorem atI_c0 (a : DV) (l : List DV) : atI (a :: l) 0 = some a := atI_nat (j := 0) rfl
theorem atI_c1 (a b : DV) (l : List DV) : atI (a :: b :: l) 1 = some b := atI_nat (j := 1) rfl
theorem atI_c2 (a b c : DV) (l : List DV) : atI (a :: b :: c :: l) 2 = some c := atI_nat (j := 2) rfl
theorem ixN_30 : ixN 3 0 = some 0 := by decide
theorem ixN_31 : ixN 3 1 = some 1 := by decide
theorem ixN_32 : ixN 3 2 = some 2 := by decide

theorem powW {i j : Int} (h : 0 ≤ j ∧ (Builtin.Int.intBits i : Int) * j ≤ 2 ^ 27) : CPowW i j := h
end DL

/-! Deep layer R: reading a derivation step by step, from the head on. -/
namespace DL
open PySem L2
section
variable {δ δ' : DS} {g : DG} {E : DEnds} {Q : DV → DG → Prop} {QB : Bool → DG → Prop} {QA : List DV → DG → Prop} {P : DV → Prop} {a b c : TDE} {ta : TDA} {t u : TDS} {x y d : DV} {ds es : List DV} {tc tc2 : TDT} {i j : Int} {p : Addr}
theorem rd_seq {n bk ct : DS → DG → Prop} {r : DV → DG → Prop} (h : t ⟨u ⟨n, r, bk, ct⟩, r, bk, ct⟩ δ g) : dSeq t u ⟨n, r, bk, ct⟩ δ g := h
theorem rd_seqE (h : t ⟨u ⟨fun _ g' => DRet Q .non g', DRet Q, (dEnds Q).bk, (dEnds Q).ct⟩, DRet Q, (dEnds Q).bk, (dEnds Q).ct⟩ δ g) : dSeq t u (dEnds Q) δ g := h
theorem rd_next (h : E.nx δ g) : dNext E δ g := h
theorem rd_nx {f bk ct : DS → DG → Prop} {rt : DV → DG → Prop} (h : f δ g) : (DEnds.mk f rt bk ct).nx δ g := h
theorem rd_bk {f bk ct : DS → DG → Prop} {rt : DV → DG → Prop} (h : bk δ g) : (DEnds.mk f rt bk ct).bk δ g := h
theorem rd_ct {f bk ct : DS → DG → Prop} {rt : DV → DG → Prop} (h : ct δ g) : (DEnds.mk f rt bk ct).ct δ g := h
theorem rd_rt {f bk ct : DS → DG → Prop} {rt : DV → DG → Prop} (h : rt d g) : (DEnds.mk f rt bk ct).rt d g := h
theorem rd_rtE (h : DRet Q d g) : (dEnds Q).rt d g := h
theorem rd_nxE (h : DRet Q .non g) : (dEnds Q).nx δ g := h
theorem rd_drop (h : a δ g fun _ g1 => E.nx δ g1) : dDrop a E δ g := h
theorem rd_ret (h : a δ g fun d g1 => E.rt d g1) : dRet a E δ g := h
theorem rd_dif (h : tc δ g fun k g1 => if k = true then t E δ g1 else u E δ g1) : dIf tc t u E δ g := h
def asgK (tg : Tg) (E : DEnds) (δ : DS) (d : DV) (g : DG) : Prop := match bindT tg d δ with | some δ' => E.nx δ' g | none => False
theorem rd_asg {tg : Tg} (h : a δ g fun d g1 => asgK tg E δ d g1) : dAsg tg a E δ g := h
theorem rd_asgK {tg : Tg} (e : bindT tg d δ = some δ') (h : E.nx δ' g) : asgK tg E δ d g := by unfold asgK; rw [e]; exact h
def parK (is : List Nat) (E : DEnds) (δ : DS) (ds : List DV) (g : DG) : Prop := match setAll is ds δ with | some δ' => E.nx δ' g | none => False
theorem rd_par {is : List Nat} (h : ta δ g fun d g1 => parK is E δ d g1) : dPar is ta E δ g := h
theorem rd_parK {is : List Nat} (e : setAll is ds δ = some δ') (h : E.nx δ' g) : parK is E δ ds g := by unfold parK; rw [e]; exact h
theorem rd_for {wi : TDI} {tg : Tg} (h : wi δ g fun ds g1 => dLoop tg t E ds δ g1) : dFor wi tg t E δ g := h
theorem rd_loop {tg : Tg} {n bk ct : DS → DG → Prop} {r : DV → DG → Prop} (e : bindT tg d δ = some δ') (h : t ⟨dLoop tg t ⟨n, r, bk, ct⟩ ds, r, n, dLoop tg t ⟨n, r, bk, ct⟩ ds⟩ δ' g) : dLoop tg t ⟨n, r, bk, ct⟩ (d :: ds) δ g := by unfold dLoop; rw [e]; exact h
theorem rd_fz {n : Nat} (e : nth δ n = some (.ref p)) (e2 : g p = some (.lst ds)) (h : t E (δ.set n (some (.lst ds))) (gdel g p)) : dFz n t E δ g := by unfold dFz; rw [e]; dsimp only; rw [e2]; exact ⟨trivial, h⟩
theorem rd_var {n : Nat} (e : nth δ n = some d) (h : Q d g) : dVar n δ g Q := by unfold dVar; rw [e]; exact h
theorem rd_c (h : Q d g) : dC d δ g Q := h
theorem rd_op {r : RR2} (h : a δ g fun x g1 => b δ g1 fun y g2 => r x y g2 fun z => Q z g2) : dOp r a b δ g Q := h
theorem rd_un {r : RR1} (h : a δ g fun x g1 => r x g1 fun z => Q z g1) : dUn r a δ g Q := h
def bK (Q : Bool → DG → Prop) (d : DV) (g : DG) : Prop := match d with | .bl c => Q c g | _ => False
theorem rd_b (h : a δ g fun d g1 => bK QB d g1) : dB a δ g QB := h
theorem rd_bK {k : Bool} (h : QB k g) : bK QB (.bl k) g := h
def tK (Q : Bool → DG → Prop) (d : DV) (g : DG) : Prop := match truD g d with | some b => Q b g | none => False
theorem rd_tru (h : a δ g fun d g1 => tK QB d g1) : dTru a δ g QB := h
theorem rd_tKb {k : Bool} (h : QB k g) : tK QB (.bl k) g := h
theorem rd_and (h : tc δ g fun k g1 => if k = true then tc2 δ g1 QB else QB false g1) : dAnd tc tc2 δ g QB := h
theorem rd_or (h : tc δ g fun k g1 => if k = true then QB true g1 else tc2 δ g1 QB) : dOr tc tc2 δ g QB := h
theorem rd_not (h : tc δ g fun k g1 => QB (!k) g1) : dNot tc δ g QB := h
def tvK (F : Bool → DV → DG → Prop) (x : DV) (g : DG) : Prop := match truD g x with | some k => F k x g | none => False
theorem rd_tvKb {F : Bool → DV → DG → Prop} {k : Bool} (h : F k (.bl k) g) : tvK F (.bl k) g := h
theorem rd_andV (h : a δ g fun x g1 => tvK (fun k x g1 => if k = true then b δ g1 Q else Q x g1) x g1) : dAndV a b δ g Q := h
theorem rd_orV (h : a δ g fun x g1 => tvK (fun k x g1 => if k = true then Q x g1 else b δ g1 Q) x g1) : dOrV a b δ g Q := h
theorem rd_ifE (h : tc δ g fun k g1 => if k = true then a δ g1 Q else b δ g1 Q) : dIfE tc a b δ g Q := h
theorem rd_nil (h : QA [] g) : dNil δ g QA := h
theorem rd_cons (h : a δ g fun x g1 => ta δ g1 fun xs g2 => QA (x :: xs) g2) : dCons a ta δ g QA := h
def zK (Q : List DV → DG → Prop) (ds : List DV) (g : DG) : Prop := ds.length ≤ sizeLine ∧ Q ds g
theorem rd_zK (e : ds.length ≤ 16777216) (h : QA ds g) : zK QA ds g := ⟨by rw [sizeLine_eq]; exact e, h⟩
theorem rd_tup (h : ta δ g fun ds g1 => zK (fun ds g1 => Q (.tup ds) g1) ds g1) : dTup ta δ g Q := h
theorem rd_lst (h : ta δ g fun ds g1 => zK (fun ds g1 => Q (.lst ds) g1) ds g1) : dLst ta δ g Q := h
theorem rd_lstM (h : ta δ g fun ds g1 => zK (fun ds g1 => ∀ p, g1 p = none → Q (.ref p) (gup g1 p (.lst ds))) ds g1) : dLstM ta δ g Q := h
theorem rd_cb {r : RRs} (h : ta δ g fun xs g1 => r xs g1 fun z => Q z g1) : dCB r ta δ g Q := h
theorem rd_call {sp : SpD} (h : ta δ g fun xs g1 => sp xs g1 Q) : dCall sp ta δ g Q := h
theorem rd_sp1 {f : DV → DG → (DV → DG → Prop) → Prop} (h : f x g Q) : sp1 f [x] g Q := h
theorem rd_sp2 {f : DV → DV → DG → (DV → DG → Prop) → Prop} (h : f x y g Q) : sp2 f [x, y] g Q := h
theorem rd_sp3 {f : DV → DV → DV → DG → (DV → DG → Prop) → Prop} (h : f x y d g Q) : sp3 f [x, y, d] g Q := h
theorem rd_len (e : seqD g x = some ds) (h : P (.int ds.length)) : rrLen [x] g P := by unfold rrLen rr1; dsimp only; rw [seqP_of e]; exact h
theorem rd_int (h : P (.int i)) : rrInt [.int i] g P := h
theorem rd_intb {k : Bool} (h : P (.int (if k then 1 else 0))) : rrInt [.bl k] g P := h
theorem rd_abs (h : P (.int (if i < 0 then -i else i))) : rrAbs [.int i] g P := h
theorem rd_ii {f : Int → Int → Int} (h : P (.int (f i j))) : rrII f [.int i, .int j] g P := h
theorem rd_bs {f : List Bool → Bool} {bs : List Bool} (e : lstD g x = some ds) (e2 : blsD ds = some bs) (h : P (.bl (f bs))) : rrBs f [x] g P := by unfold rrBs rr1; dsimp only; rw [e]; dsimp only; rw [e2]; exact h
theorem rd_tuple (e : seqD g x = some ds) (h : P (.tup ds)) : rrTuple [x] g P := by unfold rrTuple rr1; dsimp only; rw [e]; exact h
theorem rd_list (e : seqD g x = some ds) (h : P (.lst ds)) : rrList [x] g P := by unfold rrList rr1; dsimp only; rw [e]; exact h
theorem rd_sorted (e : lstD g x = some ds) (c : SortOk ds) (h : P (.lst (ds.mergeSort dleD))) : rrSorted [x] g P := by unfold rrSorted rr1; dsimp only; rw [e]; exact ⟨c, h⟩
theorem rd_isi {T s : String} {k : Bool} (e : tyNm g x = some s) (e2 : isiN s T = some k) (h : P (.bl k)) : rrIsi [x, .ty T] g P := by unfold rrIsi rr2; dsimp only; rw [e]; dsimp only; rw [e2]; exact h
theorem rd_add (h : P (.int (i + j))) : rrAdd (.int i) (.int j) g P := h
theorem rd_sub (h : P (.int (i - j))) : rrSub (.int i) (.int j) g P := ⟨trivial, h⟩
theorem rd_rI {C : Int → Int → Prop} {f : Int → Int → DV} (c : C i j) (h : P (f i j)) : rrI C f (.int i) (.int j) g P := ⟨c, h⟩
theorem rd_cmp {f : Int → Int → Bool} (h : P (.bl (f i j))) : rrCmp f (.int i) (.int j) g P := h
theorem rd_eq (c : okD x = true) (c2 : okD y = true) (h : P (.bl (eqD x y))) : rrEq x y g P := ⟨c, c2, h⟩
theorem rd_ne (c : okD x = true) (c2 : okD y = true) (h : P (.bl (!eqD x y))) : rrNe x y g P := ⟨c, c2, h⟩
theorem rd_ix (e : seqD g x = some ds) (e2 : atI ds i = some d) (h : P d) : ixD x (.int i) g P := by unfold ixD; dsimp only; rw [e]; dsimp only; unfold optD; rw [e2]; exact h
def setK (E : DEnds) (δ : DS) (y x i : DV) (g : DG) : Prop := match i with
  | .int k => atL x g fun p ds => (match ixN ds.length k with | some j => E.nx δ (gup g p (.lst (ds.set j y))) | none => False)
  | _ => False
theorem rd_setI (h : a δ g fun y g1 => b δ g1 fun x g2 => c δ g2 fun i g3 => setK E δ y x i g3) : dSetI a b c E δ g := h
theorem rd_setK {k : Nat} (e : g p = some (.lst ds)) (e2 : ixN ds.length i = some k) (h : E.nx δ (gup g p (.lst (ds.set k y)))) : setK E δ y (.ref p) (.int i) g := by unfold setK; dsimp only; unfold atL; dsimp only; rw [e]; dsimp only; rw [e2]; exact h
theorem rd_set30 {a b c y : DV} (e : g p = some (.lst [a, b, c])) (h : E.nx δ (gup g p (.lst [y, b, c]))) : setK E δ y (.ref p) (.int 0) g := by
  unfold setK; dsimp only; unfold atL; dsimp only; rw [e]; dsimp only; rw [show ixN [a, b, c].length 0 = some 0 from ixN_30]; exact h
theorem rd_set32 {a b c y : DV} (e : g p = some (.lst [a, b, c])) (h : E.nx δ (gup g p (.lst [a, b, y]))) : setK E δ y (.ref p) (.int 2) g := by
  unfold setK; dsimp only; unfold atL; dsimp only; rw [e]; dsimp only; rw [show ixN [a, b, c].length 2 = some 2 from ixN_32]; exact h
theorem rd_mt {r : RRm} (h : a δ g fun x g1 => (lstD g1 x).isSome = true ∧ ta δ g1 fun xs g2 => r x xs g2 Q) : dMt r a ta δ g Q := h
theorem rd_some (e : lstD g x = some ds) {R : Prop} (h : R) : (lstD g x).isSome = true ∧ R := ⟨by rw [e]; rfl, h⟩
theorem rd_append (e : g p = some (.lst ds)) (c : ds.length < 16777216) (h : Q .non (gup g p (.lst (ds ++ [y])))) : rmAppend (.ref p) [y] g Q := by unfold rmAppend; dsimp only; unfold atL; dsimp only; rw [e]; exact ⟨by rw [sizeLine_eq]; exact c, h⟩
theorem rd_ng (h : P (.int (-i))) : rrNeg (.int i) g P := h
theorem rd_dput (h : a δ g fun v g1 => b δ g1 fun x g2 => c δ g2 fun y g3 => dput x y v g3 fun g4 => E.nx δ g4) : dDPut b c a E δ g := h
theorem rd_cbM {r : RRsM} (h : ta δ g fun xs g1 => r xs g1 Q) : dCBM r ta δ g Q := h
theorem rd_pop (e : g p = some (.lst ds)) (e2 : ds[ds.length - 1]? = some y) (h : Q y (gup g p (.lst ds.dropLast))) : rmPop (.ref p) [] g Q := by unfold rmPop; dsimp only; unfold atL; dsimp only; rw [e]; dsimp only; rw [e2]; exact h
theorem rd_addT (c : ds.length + es.length ≤ 16777216) (h : P (.tup (ds ++ es))) : rrAdd (.tup ds) (.tup es) g P := ⟨by rw [sizeLine_eq]; exact c, h⟩
theorem rd_addL (c : ds.length + es.length ≤ 16777216) (h : P (.lst (ds ++ es))) : rrAdd (.lst ds) (.lst es) g P := ⟨by rw [sizeLine_eq]; exact c, h⟩
def trK (F : List DV → DV) (Q : DV → DG → Prop) (x : DV) (g1 : DG) : Prop := match x with | .int n => (0 ≤ n ∧ n ≤ 16777216) ∧ Q (F (rangeD 0 n.toNat)) g1 | _ => False
theorem rd_lstRg (h : a δ g fun x g1 => trK .lst Q x g1) : dLstRg a δ g Q := h
theorem rd_lc {wi : TDI} {tg : Tg} {own : List Nat} {tt : TDT} (h : wi δ g fun ds g1 => zK (fun ds g1 => dComp tg own tt a δ ds g1 fun ys g2 => Q (.lst ys) g2) ds g1) : dLc wi tg own tt a δ g Q := h
theorem rd_lcM {wi : TDI} {tg : Tg} {own : List Nat} {tt : TDT} (h : wi δ g fun ds g1 => zK (fun ds g1 => dComp tg own tt a δ ds g1 fun ys g2 => ∀ p, g2 p = none → Q (.ref p) (gup g2 p (.lst ys))) ds g1) : dLcM wi tg own tt a δ g Q := h
theorem rd_yes (h : QB true g) : dYes δ g QB := h
def wsK (R : List DV → DG → Prop) (x : DV) (g : DG) : Prop := match x with | .tup ds => R ds g | .lst ds => R ds g | .scr ns => R (ns.map .int) g | .tpl ds => R ds g | _ => False
theorem rd_wseq (h : a δ g fun x g1 => wsK QA x g1) : wSeq a δ g QA := h
theorem rd_wsT (h : QA ds g) : wsK QA (.tup ds) g := h
theorem rd_wsL (h : QA ds g) : wsK QA (.lst ds) g := h
theorem rd_wsS {ns : List Int} (h : QA (ns.map .int) g) : wsK QA (.scr ns) g := h
theorem rd_wzip (h : ta δ g (one2 fun x y g1 => match x, y with
  | .tup xs, .tup ys => QA (zipD xs ys) g1
  | .lst xs, .lst ys => QA (zipD xs ys) g1
  | .tpl xs, .tup ys => QA (zipD xs ys) g1
  | .tpl xs, .tpl ys => QA (zipD xs ys) g1
  | _, _ => False)) : wZip ta δ g QA := h
theorem rd_zipT (h : QA (zipD ds es) g) : one2 (fun x y g1 => match x, y with
  | .tup xs, .tup ys => QA (zipD xs ys) g1
  | .lst xs, .lst ys => QA (zipD xs ys) g1
  | .tpl xs, .tup ys => QA (zipD xs ys) g1
  | .tpl xs, .tpl ys => QA (zipD xs ys) g1
  | _, _ => False) [.tup ds, .tup es] g := h
def rgK (R : List DV → DG → Prop) (xs : List DV) (g1 : DG) : Prop := one1 (fun x g1 => match x with | .int j => rngOk 0 j ∧ R (rangeD 0 j.toNat) g1 | _ => False) xs g1
theorem rd_rng1 (h : ta δ g fun xs g1 => rgK QA xs g1) : wRng1 ta δ g QA := h
theorem rd_rng1K (c : j < 2 ^ 62 ∧ -(2 ^ 62) ≤ j) (h : QA (rangeD 0 j.toNat) g) : rgK QA [.int j] g := ⟨⟨by decide, by decide, c.2, c.1⟩, h⟩
def rgK2 (R : List DV → DG → Prop) (xs : List DV) (g1 : DG) : Prop := one2 (fun x y g1 => match x, y with | .int i, .int j => rngOk i j ∧ R (rangeD i (j - i).toNat) g1 | _, _ => False) xs g1
theorem rd_rng2 (h : ta δ g fun xs g1 => rgK2 QA xs g1) : wRng2 ta δ g QA := h
theorem rd_rng2K (c : rngOk i j) (h : QA (rangeD i (j - i).toNat) g) : rgK2 QA [.int i, .int j] g := ⟨c, h⟩
def slK (Q : DV → DG → Prop) (x : DV) (lo hi : Option Int) (g3 : DG) : Prop := match x with
  | .tup ds => Q (.tup (cutD ds lo hi)) g3
  | .lst ds => Q (.lst (cutD ds lo hi)) g3
  | .scr ns => Q (.lst (cutD (ns.map .int) lo hi)) g3
  | .ref p => (match g3 p with | some (.lst ds) => Q (.lst (cutD ds lo hi)) g3 | _ => False)
  | .tpl ds => (HT.sIx ds.length 0 lo = 0 ∧ HT.sIx ds.length ds.length hi = ds.length → Q (.tpl ds) g3) ∧ (¬ (HT.sIx ds.length 0 lo = 0 ∧ HT.sIx ds.length ds.length hi = ds.length) → Q (.tup (cutD ds lo hi)) g3)
  | _ => False
theorem rd_sl {lo hi : TDO} (h : a δ g fun x g1 => lo δ g1 fun lo g2 => hi δ g2 fun hi g3 => slK Q x lo hi g3) : dSl a lo hi δ g Q := h
theorem rd_slT {lo hi : Option Int} (h : Q (.tup (cutD ds lo hi)) g) : slK Q (.tup ds) lo hi g := h
theorem rd_slS {ns : List Int} {lo hi : Option Int} (h : Q (.lst (cutD (ns.map .int) lo hi)) g) : slK Q (.scr ns) lo hi g := h
theorem rd_slL {lo hi : Option Int} (h : Q (.lst (cutD ds lo hi)) g) : slK Q (.lst ds) lo hi g := h
theorem rd_nopart {QO : Option Int → DG → Prop} (h : QO none g) : dNoPart δ g QO := h
def ptK (Q : Option Int → DG → Prop) (x : DV) (g : DG) : Prop := match x with | .int i => Q (some i) g | _ => False
theorem rd_part {QO : Option Int → DG → Prop} (h : a δ g fun x g1 => ptK QO x g1) : dPart a δ g QO := h
theorem rd_ptK {QO : Option Int → DG → Prop} (h : QO (some i) g) : ptK QO (.int i) g := h
def stK (t : TDA) (Q : List DV → DG → Prop) (δ : DS) (x : DV) (g1 : DG) : Prop := match seqD g1 x with | some ds => t δ g1 fun xs g2 => Q (ds ++ xs) g2 | none => False
theorem rd_star (h : a δ g fun x g1 => stK ta QA δ x g1) : dStar a ta δ g QA := h
theorem rd_stK (e : seqD g x = some ds) (h : ta δ g fun xs g2 => QA (ds ++ xs) g2) : stK ta QA δ x g := by unfold stK; rw [e]; exact h
theorem rd_loopI {tg : Tg} {n bk ct : DS → DG → Prop} {r : DV → DG → Prop} (I : Nat → DS → DG → Prop) : ∀ {ds : List DV} {δ : DS} {g : DG}, I ds.length δ g →
    (∀ d ∈ ds, ∀ (k : Nat) (δ : DS) (g : DG) (f : DS → DG → Prop), (∀ δ g, I k δ g → f δ g) → I (k + 1) δ g → ∃ δ1, bindT tg d δ = some δ1 ∧ t ⟨f, r, n, f⟩ δ1 g) →
    (∀ δ g, I 0 δ g → n δ g) → dLoop tg t ⟨n, r, bk, ct⟩ ds δ g
  | [], δ, g, h0, _, he => he _ _ h0
  | d :: ds, δ, g, h0, hs, he => by
    obtain ⟨δ1, e, h⟩ := hs d List.mem_cons_self ds.length δ g (dLoop tg t ⟨n, r, bk, ct⟩ ds) (fun δ g hi => rd_loopI I hi (fun d hd => hs d (List.mem_cons_of_mem _ hd)) he) h0
    exact rd_loop e h
theorem rd_loopY {tg : Tg} {n bk ct : DS → DG → Prop} {r : DV → DG → Prop} (I : Nat → DS → DG → Prop) : ∀ {ds : List DV} {m : Nat} {δ : DS} {g : DG}, I m δ g →
    (∀ i d, ds[i]? = some d → ∀ (δ : DS) (g : DG) (f : DS → DG → Prop), (∀ δ g, I (m + i + 1) δ g → f δ g) → I (m + i) δ g → ∃ δ1, bindT tg d δ = some δ1 ∧ t ⟨f, r, n, f⟩ δ1 g) →
    (∀ δ g, I (m + ds.length) δ g → n δ g) → dLoop tg t ⟨n, r, bk, ct⟩ ds δ g
  | [], m, δ, g, h0, _, he => he _ _ h0
  | d :: ds, m, δ, g, h0, hs, he => by
    obtain ⟨δ1, e, h⟩ := hs 0 d rfl δ g (dLoop tg t ⟨n, r, bk, ct⟩ ds) (fun δ g hi => rd_loopY (m := m + 1) I hi (fun i d hd => by
      have z := hs (i + 1) d (by simpa using hd)
      rw [show m + (i + 1) = m + 1 + i by omega] at z
      exact z) (fun δ g hi => he δ g (by rw [List.length_cons, show m + (ds.length + 1) = m + 1 + ds.length by omega]; exact hi))) h0
    exact rd_loop e h
/-- by places -/
theorem rd_loopX {tg : Tg} {n bk ct : DS → DG → Prop} {r : DV → DG → Prop} (I : Nat → DS → DG → Prop) {ds : List DV} {δ : DS} {g : DG} (h0 : I 0 δ g)
    (hs : ∀ i d, ds[i]? = some d → ∀ (δ : DS) (g : DG) (f : DS → DG → Prop), (∀ δ g, I (i + 1) δ g → f δ g) → I i δ g → ∃ δ1, bindT tg d δ = some δ1 ∧ t ⟨f, r, n, f⟩ δ1 g)
    (he : ∀ δ g, I ds.length δ g → n δ g) : dLoop tg t ⟨n, r, bk, ct⟩ ds δ g :=
  rd_loopY (m := 0) I h0 (fun i d hd => by rw [Nat.zero_add]; exact hs i d hd) (by rw [Nat.zero_add]; exact he)
theorem rd_mt0 {r : RRm} (h : a δ g fun x g1 => (lstD g1 x).isSome = true ∧ r x [] g1 Q) : dMt0 r a δ g Q := h
theorem rd_itei {c : Prop} [Decidable c] {A B : Prop} (h1 : c → A) (h2 : ¬c → B) : if decide c = true then A else B := by
  by_cases k : c
  · rw [if_pos (decide_eq_true k)]; exact h1 k
  · rw [if_neg (by simpa using k)]; exact h2 k
theorem rd_iteb {k : Bool} {A B : Prop} (h1 : k = true → A) (h2 : k = false → B) : if k = true then A else B := by
  cases k
  · exact h2 rfl
  · exact h1 rfl
theorem rd_itet {A B : Prop} (h1 : A) : if true = true then A else B := h1
theorem rd_itef {A B : Prop} (h1 : B) : if false = true then A else B := h1
theorem rd_itnt {A B : Prop} (h1 : B) : if (!true) = true then A else B := h1
theorem rd_itnf {A B : Prop} (h1 : A) : if (!false) = true then A else B := h1
end
theorem rangeD_len (lo : Int) (n : Nat) : (rangeD lo n).length = n := by simp only [rangeD, List.length_map, List.length_range]
theorem rangeD_at {n j : Nat} {d : DV} (h : (rangeD 0 n)[j]? = some d) : j < n ∧ d = .int (j : Int) := by
  have hl := (List.getElem?_eq_some_iff.mp h).1
  rw [rangeD_len] at hl
  refine ⟨hl, ?_⟩
  simp only [rangeD, List.getElem?_map, List.getElem?_range hl] at h
  have z := Option.some.inj h
  rw [← z]
  show DV.int (0 + (j : Int)) = _
  rw [Int.zero_add]
theorem seqD_ref {g : DG} {p : Addr} {ds : List DV} (e : g p = some (.lst ds)) : seqD g (.ref p) = some ds := by unfold seqD; dsimp only; rw [e]
theorem lstD_ref {g : DG} {p : Addr} {ds : List DV} (e : g p = some (.lst ds)) : lstD g (.ref p) = some ds := by unfold lstD; dsimp only; rw [e]
theorem seqD_up {g : DG} {p : Addr} {ds : List DV} : seqD (gup g p (.lst ds)) (.ref p) = some ds := seqD_ref gup_same
theorem lstD_up {g : DG} {p : Addr} {ds : List DV} : lstD (gup g p (.lst ds)) (.ref p) = some ds := lstD_ref gup_same
end DL

/-! Deep layer Z: the start of a law. -/
namespace DL
open PySem PySem.Spec PyProof.Rows L2
theorem script_sc {K : Fg} {H : Hp} {a : Addr} {ns : List Int} (hO : Only H) (hS : SqL K H a (ns.map V.int)) : ScL K H a ns := by
  rcases hS with (h | h) | h
  · rcases hO a with e | ⟨o, xs, e⟩
    · rw [h] at e; cases e
    · rw [h] at e; cases e
  · exact .inl h
  · exact .inr h
/-- the law's own promise, at a script and no changing list -/
theorem law_start {K : Fg} {sp : SpD} {H : Hp} {a : Addr} {ns : List Int} (hO : Only H) (hS : SqL K H a (ns.map V.int)) (h : sp [.scr ns] (fun _ => none) fun d _ => d = .bl true) :
    upSp K sp [.ref a] H (fun v _ => v = .bl true) fun _ _ _ => False := by
  refine ⟨[.scr ns], fun _ => none, _, .cons (.scr (script_sc hO hS)) .nil, fun _ _ e => (nomatch e), h, fun d g' v H' _ _ r e => ?_⟩
  subst e
  cases r
  rfl
theorem law_end {K : Fg} {mg : Str → Option Value} {n x : Str} {st : Stmt} {f : Addr} {fd : FuncData} {Pr : FuncData → Prop} (_ : Dfn K mg n st [x] f fd)
    (b : ∀ (s : Shared) (v : Value), BindsTo s fd ⟨[v], []⟩ [(x, v)]) (g : Pr fd) : ∃ fd : FuncData, (∀ (s : Shared) (v : Value), BindsTo s fd ⟨[v], []⟩ [(x, v)]) ∧ Pr fd := ⟨fd, b, g⟩
end DL

/-! Deep layer I: math.comb, while read by a measure. -/
namespace DL
open PySem PySem.Spec PyProof.Rows L2
section
variable {X : Cx} {x : Str} {p pos : Pos} {e : Expr} {es : List Expr} {t : TDA}
end
/-- while: by a measure that falls -/
theorem rd_while {c : TDT} {t : TDS} {n bk ct : DS → DG → Prop} {r : DV → DG → Prop} (I : Nat → DS → DG → Prop) (m : Nat) {δ : DS} {g : DG} (h0 : I m δ g) (hz : ∀ δ g, ¬ I 0 δ g)
    (hs : ∀ (k : Nat) (δ : DS) (g : DG) (f : DS → DG → Prop), (∀ δ g, I k δ g → f δ g) → I (k + 1) δ g → c δ g fun b g1 => if b = true then t ⟨f, r, n, f⟩ δ g1 else n δ g1) :
    dWhile c t ⟨n, r, bk, ct⟩ δ g := by
  refine ⟨m, ?_⟩
  induction m generalizing δ g with
  | zero => exact absurd h0 (hz δ g)
  | succ m ih => exact hs m δ g (dWh c t ⟨n, r, bk, ct⟩ m) (fun δ g hi => ih hi) h0
end DL

/-! Deep layer J: instances of classes with slots: what is read of them, what their own methods say. -/
namespace DL
open PySem PySem.Spec PyProof.Rows L2
/-- an instance with slots, as it is made or locked -/
def InsH (K : Fg) (H : Hp) (a C : Addr) (vs : List (Option V)) : Prop := (∃ dx, SlX.Slt H a C dx vs) ∨ FzI K H a C vs
section
variable {X : Cx} {CX : CXT} {pinz : List (Addr × Obj)} {σ : L2.St} {H : Hp} {s : Shared} {a C p g : Addr} {vs : List (Option V)} {f m : Str} {i n : Nat} {sp : Sp} {EX : XK} {v : V} {A : Around} {E : Value → Shared → Prop}
theorem ins_inst (J : Inv X pinz σ H s) (h : InsH X.K H a C vs) : ∃ (dx : Addr) (sl : Array (Option Value)) (od : Obj), SlX.SlR vs sl ∧ PySem.W.InstAt s.heap a { PySem.W.instObj C dx with slots := sl } C (some od) ∧ ∀ f, PySem.W.lookIn f od = some Option.none := by
  rcases h with ⟨dx, h⟩ | ⟨ob, dx, h1, h2⟩
  · obtain ⟨sl, od, r, z⟩ := SlX.slt_inst J h
    exact ⟨dx, sl, od, r, z⟩
  · obtain ⟨_, ⟨sl, e, r⟩, _, _⟩ := J.hok a _ h1
    obtain ⟨mA, n, r2⟩ := J.hok dx _ h2
    obtain ⟨od, ho, hl⟩ := lookIn_ns n
    exact ⟨dx, sl, od, r, ⟨e, rfl, rfl, ho⟩, fun f => by rw [hl f]; exact congrArg some (RelO.none_of (r2 f))⟩
/-! ### e.f -/
theorem ins_get {b : Bool} {Q : Value → Shared → Prop} (J : Inv X pinz σ H s) (h : InsH X.K H a C vs) (c : SlX.SCls X.K C) (t : SlX.Slot1 X.K C f p i) (l : vs[i]? = some (some v)) (q : ∀ u s', Inv X pinz σ H s' → RelV v u → Q u s') :
    wpAny (model X.prog X.w) A (getAttr (.ref a) f b) Q E s := by
  obtain ⟨dx, sl, od, r, I0, _⟩ := ins_inst J h
  obtain ⟨u, eu, ru⟩ := r i v l
  obtain ⟨m, hF⟩ := J.fr
  refine PySem.W.get_slot hF J.mod.kin I0 (c.get f) c.ic t.at_ t.get t.tk t.ix (v := u) ?_ (handed_of ru) (q u _ (J.tok _) ru)
  show (sl[i]?).join = some u
  rw [eu]
  rfl
def tInsF (K : Fg) (C : Addr) (i : Nat) (t : TE) : TE := fun σ H Q => t σ H fun x H1 => ∃ a vs v, x = .ref a ∧ InsH K H1 a C vs ∧ vs[i]? = some (some v) ∧ Q v H1
theorem pe_insF {e : Expr} {pos : Pos} {t : TE} (he : PE X e t) (c : SlX.SCls X.K C) (k : SlX.Slot1 X.K C f p i) (hb : attributeBase e f X.env (eval e X.env) = eval e X.env := by rfl) : PE X (.Attribute e f pos) (tInsF X.K C i t) := by
  refine ⟨fun pinz s σ H Q J h => ?_⟩
  refine attr_of hb (thn (he.run pinz s σ H _ J h) fun u s1 ⟨x, H1, J1, rx, a, vs, v, ex, hs, l, q⟩ => ?_)
  subst ex
  obtain rfl : u = Value.ref a := rx
  exact ins_get J1 hs c k l fun u' s2 J2 ru => ⟨v, H1, J2, ru, q⟩
/-! ### e.f, a property -/
/-- the class has the property f at p with the getter g -/
structure PrpOf (K : Fg) (C : Addr) (f : Str) (p g : Addr) : Prop where
  at_ : PySem.W.findIn K (.ref C) f = some (some (.ref p))
  get : PySem.W.specialIn K (.ref p) "__get__" = some (some (.builtin "property.__get__"))
  tk : PySem.W.takesIn K (.ref p) = some true
  rc : ∃ rest, PySem.W.recIn K p "property" = some (.ref g :: rest)
theorem ins_prop {b : Bool} {Q : VK} (J : Inv X pinz σ H s) (h : InsH X.K H a C vs) (c : SlX.SCls X.K C) (t : PrpOf X.K C f p g) (F : FnR X.prog X.w X.K X.mg X.base CX n g sp) (hr : Room (n + 1) X.A)
    (hx : ∀ (H : Hp) (s : Shared) (e : Value) (s' : Shared), CX X.stack H s EX e s' → False) (q : sp [.ref a] H Q EX) : wpAny (model X.prog X.w) X.A (getAttr (.ref a) f b) (EP X pinz σ Q) X.xe s := by
  obtain ⟨dx, sl, od, _, I0, _⟩ := ins_inst J h
  obtain ⟨rest, hrec⟩ := t.rc
  have J1 : Inv X pinz σ H { s with toks := s.toks + 1 } := J.tok (s.toks + 1)
  refine PySem.W.get_bind J.kIn I0 (PySem.W.plainGet_of (c.get f)).1 (PySem.W.findObj_data c.ic t.at_ t.get t.tk) (PySem.W.plainGet_of (c.get f)).2 (wpAny_call (PySem.W.prop_get (s := { s with toks := s.toks + 1 }) J.kIn hrec ?_))
  refine codeAny_mono (F X.A.in1 X.stack { s with toks := s.toks + 1 } H [.ref a] [.ref a] Q EX hr.in1 J1.env0.in1 (.cons rfl .nil) q) fun r s' hq => ?_
  cases r with
  | error e => exact (hx _ _ _ _ hq).elim
  | ok fl =>
    cases fl with
    | ret u =>
      obtain ⟨v, H', J2, rv, q⟩ := J1.after hq
      exact wpAny_of_eq (PySem.W.handedOut_of (handed_of rv)) ⟨v, H', J2, rv, q⟩
    | next => exact False.elim hq
    | brk => exact False.elim hq
    | cont => exact False.elim hq
def tInsP (K : Fg) (C : Addr) (sp : Sp) (E : XK) (t : TE) : TE := fun σ H Q => t σ H fun x H1 => ∃ a vs, x = .ref a ∧ InsH K H1 a C vs ∧ sp [.ref a] H1 Q E
theorem pe_insP {e : Expr} {pos : Pos} {t : TE} (he : PE X e t) (c : SlX.SCls X.K C) (k : PrpOf X.K C f p g) (F : FnR X.prog X.w X.K X.mg X.base CX n g sp) (hr : Room (n + 1) X.A)
    (hx : ∀ (H : Hp) (s : Shared) (e : Value) (s' : Shared), CX X.stack H s EX e s' → False) (hb : attributeBase e f X.env (eval e X.env) = eval e X.env := by rfl) : PE X (.Attribute e f pos) (tInsP X.K C sp EX t) := by
  refine ⟨fun pinz s σ H Q J h => ?_⟩
  refine attr_of hb (thn (he.run pinz s σ H _ J h) fun w s1 ⟨x, H1, J1, rx, a, vs, ex, hs, q⟩ => ?_)
  subst ex
  obtain rfl : w = Value.ref a := rx
  exact ins_prop J1 hs c k F hr hx q
/-! ### o.m(..) -/
theorem ins_meth {pl : Sem Bool} {Q : Value × List Value → Shared → Prop} (J : Inv X pinz σ H s) (h : InsH X.K H a C vs) (c : SlX.SCls X.K C) (k : Meth X.K C m g) (q : Q (.ref g, [.ref a]) s) : wpAny (model X.prog X.w) A (getMethod (.ref a) m pl) Q E s := by
  obtain ⟨dx, sl, od, r, I0, hl⟩ := ins_inst J h
  refine PySem.W.method_fn J.kIn I0 (PySem.W.plainGet_of (c.get m)).1 (PySem.W.plainGet_of (c.get m)).2 k.at_ (beq_iff_eq.mp k.fn) ?_ q
  show (PySem.W.lookIn m od).map (·.isSome) = some false
  rw [hl m]
  rfl
def tInsM (K : Fg) (C : Addr) (sp : Sp) (E : XK) (to : TE) (t : TA) : TE := fun σ H Q => to σ H fun x H1 => ∃ a vs, x = .ref a ∧ InsH K H1 a C vs ∧ t σ H1 fun ws H2 => sp (x :: ws) H2 Q E
theorem pe_insM {o e : Expr} {es : List Expr} {pos apos : Pos} {to : TE} {t : TA} {pl : Sem Bool} (he : PE X o to) (c : SlX.SCls X.K C) (hm : Meth X.K C m g) (F : FnR X.prog X.w X.K X.mg X.base CX n g sp) (hr : Room n X.A) (hx : Passes CX X EX) (ha : PA X (e :: es) t)
    (hst : starEach (e :: es) X.env = (false, eval e X.env) :: starEach es X.env := by rfl) (hpl : (backTo pos (starEach es X.env)).any (·.1) = false := by rfl)
    (ht : eval (.Call (.Attribute o m apos) (e :: es) [] pos) X.env = (do
      let ow ← eval o X.env
      standAt apos.atName
      let (f, first) ← holding [ow] (getMethod ow m pl)
      callWith pos f first (backTo pos (starEach (e :: es) X.env)) (backToKw pos (keywordEach [] X.env))) := by rfl) : PE X (.Call (.Attribute o m apos) (e :: es) [] pos) (tInsM X.K C sp EX to t) := by
  refine ⟨fun pinz s σ H Q J h => ?_⟩
  refine PySem.W.methodCall_KW (pl := pl) (thn (he.run pinz s σ H _ J h) fun u s1 ⟨x, H1, J1, rx, a, vs, ex, hsl, q⟩ => ?_) ht
  subst ex
  obtain rfl : u = Value.ref a := rx
  refine ins_meth J1 hsl c hm ?_
  refine PySem.W.callWith_K (first := [.ref a]) (h₀ := X.base) J.ok.mod.kin hm.kp (thn (ha.run pos pinz s1 σ H1 _ J1 q) fun us s2 ⟨ws, H2, J2, r, q2⟩ => ⟨J2.kIn, ?_⟩) hst hpl
  exact wpAny_call (run_fnR (us := .ref a :: us) (vs := .ref a :: ws) F hr hx J2 (.cons rfl r) q2)
/-! ### isinstance(x, T), x an instance -/
def rInsIsi (K : Fg) (C : Addr) (u : Value) (b : Bool) : List V → Hp → VK → Prop := fun xs H Q => ∃ (a : Addr) (vs : List (Option V)) (c : V), xs = [V.ref a, c] ∧ RelV c u ∧ (∀ w, RelV c w → w = u) ∧ InsH K H a C vs ∧ Q (.bl b) H
theorem cr_insIsi {u : Value} {b : Bool} (hc : SlX.SCls X.K C) (hi : SlX.SIsi X.K C) (hk : PySem.W.kitOne X.K (.ref C) u = some b) : CallR X (.builtin "isinstance") (rInsIsi X.K C u b) := by
  intro pinz s σ H xs us Q J r h
  obtain ⟨a, vs, c, rfl, rc, one, hsl, q⟩ := h
  obtain ⟨u1, u2, rfl, r1, r2⟩ := r.two
  cases (show u1 = Value.ref a from r1)
  cases one _ r2
  obtain ⟨dx, sl, od, _, I0, _⟩ := ins_inst J hsl
  exact PySem.W.kia_one (OwX.kitx_slt hc.ic (hc.get _) hi.ca hi.cn hi.ct hi.cm) J.kIn I0 hk (fun z => nomatch z) fun tk => ⟨.bl b, H, J.tok _, rfl, q⟩
/-! ### len(x), bool(x), y in x by the class's own methods -/
end
end DL

/-! Deep layer K: instances by content. -/
namespace DL
open PySem PySem.Spec PyProof.Rows L2
theorem FnOk_r0 {P : Program} {w : World} {K : Fg} {mg : Str → Option Value} {base : Heap} {CX : CXT} {k : Nat} {f : Addr} {fd : FuncData} {ps : List Str} {sp : Sp} (F : FnOk P w K mg base CX k f fd ps sp) (hb : Binds K fd ps []) :
    FnR P w K mg base CX k f sp := (F.raw hb .nil).imp fun vs H Q E h => by rw [List.append_nil]; exact h
/-! ### the slots of a value -/
def slD (g : DG) (C : Addr) : DV → Option (List (Option DV))
  | .ins C' ds => if C' = C then some (ds.map some) else none
  | .ref p => match g p with | some (.ins C' ds) => if C' = C then some ds else none | _ => none
  | _ => none
theorem slD_of {K : Fg} {H : Hp} {g : DG} {C : Addr} {d : DV} {v : V} {ds : List (Option DV)} (rg : RG K H g) (r : RD K H d v) (h : slD g C d = some ds) : ∃ a vs, v = .ref a ∧ InsH K H a C vs ∧ SlD K H ds vs := by
  cases r with
  | @ins a C' vs es hs hr =>
    have h' : (if C' = C then some (es.map some) else none) = some ds := h
    split at h'
    · rename_i e
      subst e
      cases h'
      refine ⟨_, _, rfl, .inr hs, by rw [List.length_map, List.length_map]; exact hr.length, fun i d e => ?_⟩
      rw [List.getElem?_map] at e
      cases q : es[i]? with
      | none => rw [q] at e; cases e
      | some z =>
        rw [q] at e
        cases e
        obtain ⟨v, h1, h2⟩ := hr.get q
        exact ⟨v, by rw [List.getElem?_map, h1]; rfl, h2⟩
    · cases h'
  | ref a =>
    have h' : (match g a with | some (.ins C' ds) => if C' = C then some ds else none | _ => none) = some ds := h
    split at h'
    · rename_i C' es eg
      split at h'
      · rename_i e
        subst e
        cases h'
        obtain ⟨dx, vs, _, q, rd⟩ := rg _ _ eg
        exact ⟨_, vs, rfl, .inl ⟨dx, q⟩, rd⟩
      · cases h'
    · cases h'
  | _ => cases h
theorem slD_ins {g : DG} {C : Addr} {ds : List DV} : slD g C (.ins C ds) = some (ds.map some) := if_pos rfl
theorem slD_ref {g : DG} {C p : Addr} {ds : List (Option DV)} (e : g p = some (.ins C ds)) : slD g C (.ref p) = some ds := by unfold slD; dsimp only; rw [e]; exact if_pos rfl
section
variable {X : Cx} {CX : CXT} {C p q : Addr} {f m : Str} {i n : Nat} {sp : SpD} {E : XK} {e o : Expr} {es : List Expr} {pos apos : Pos} {t : TDE} {ta : TDA}
/-! ### e.f -/
def dFld (C : Addr) (i : Nat) (t : TDE) : TDE := fun δ g Q => t δ g fun x g1 => match slD g1 C x with | some ds => (match nth ds i with | some d => Q d g1 | none => False) | none => False
theorem pd_fld (c : SlX.SCls X.K C) (k : SlX.Slot1 X.K C f p i) (he : PE X e (upE X.K t)) (hb : attributeBase e f X.env (eval e X.env) = eval e X.env := by rfl) : PE X (.Attribute e f pos) (upE X.K (dFld C i t)) := by
  refine PE_weak (pe_insF he c k hb) fun σ H Q ⟨δ, g, P, rs, rg, h, kk⟩ => ⟨δ, g, _, rs, rg, h, fun x g1 v H1 e1 rg1 rd1 h1 => ?_⟩
  split at h1
  · rename_i ds es
    split at h1
    · rename_i d ed
      obtain ⟨a, vs, rfl, hi, hs⟩ := slD_of rg1 rd1 es
      obtain ⟨u, hu, ru⟩ := hs.2 i d (nth_get ed)
      exact ⟨a, vs, u, rfl, hi, hu, kk _ _ _ _ e1 rg1 ru h1⟩
    · exact h1.elim
  · exact h1.elim
/-! ### e.f, a property -/
def dPrp (C : Addr) (sp : SpD) (t : TDE) : TDE := fun δ g Q => t δ g fun x g1 => (slD g1 C x).isSome = true ∧ sp [x] g1 Q
theorem pd_prp (c : SlX.SCls X.K C) (k : PrpOf X.K C f p q) (F : FnR X.prog X.w X.K X.mg X.base CX0 n q (upSp X.K sp)) (hr : Room (n + 1) X.A) (he : PE X e (upE X.K t)) (hb : attributeBase e f X.env (eval e X.env) = eval e X.env := by rfl) :
    PE X (.Attribute e f pos) (upE X.K (dPrp C sp t)) := by
  refine PE_weak (pe_insP (EX := fun _ _ _ => False) he c k F hr (fun _ _ _ _ h => h.elim) hb) fun σ H Q ⟨δ, g, P, rs, rg, h, kk⟩ => ⟨δ, g, _, rs, rg, h, fun x g1 v H1 e1 rg1 rd1 h1 => ?_⟩
  obtain ⟨ds, es⟩ := Option.isSome_iff_exists.mp h1.1
  obtain ⟨a, vs, rfl, hi, _⟩ := slD_of rg1 rd1 es
  exact ⟨a, vs, rfl, hi, [x], g1, P, .one rd1, rg1, h1.2, fun d g' v H' e' rg' rd' p' => kk d g' v H' (e1.trans e') rg' rd' p'⟩
/-! ### o.m(..) -/
def dMth (C : Addr) (sp : SpD) (t : TDE) (ta : TDA) : TDE := fun δ g Q => t δ g fun x g1 => (slD g1 C x).isSome = true ∧ ta δ g1 fun xs g2 => sp (x :: xs) g2 Q
theorem pd_mth {pl : Sem Bool} (c : SlX.SCls X.K C) (hm : Meth X.K C m q) (F : FnR X.prog X.w X.K X.mg X.base CX0 n q (upSp X.K sp)) (hr : Room n X.A) (he : PE X o (upE X.K t)) (ha : PA X (e :: es) (upA X.K ta))
    (hst : starEach (e :: es) X.env = (false, eval e X.env) :: starEach es X.env := by rfl) (hpl : (backTo pos (starEach es X.env)).any (·.1) = false := by rfl)
    (ht : eval (.Call (.Attribute o m apos) (e :: es) [] pos) X.env = (do
      let ow ← eval o X.env
      standAt apos.atName
      let (f, first) ← holding [ow] (getMethod ow m pl)
      callWith pos f first (backTo pos (starEach (e :: es) X.env)) (backToKw pos (keywordEach [] X.env))) := by rfl) : PE X (.Call (.Attribute o m apos) (e :: es) [] pos) (upE X.K (dMth C sp t ta)) := by
  refine PE_weak (pe_insM (EX := fun _ _ _ => False) he c hm F hr pass0 ha hst hpl ht) fun σ H Q ⟨δ, g, P, rs, rg, h, kk⟩ => ⟨δ, g, _, rs, rg, h, fun x g1 v H1 e1 rg1 rd1 h1 => ?_⟩
  obtain ⟨ds, es⟩ := Option.isSome_iff_exists.mp h1.1
  obtain ⟨a, vs, rfl, hi, _⟩ := slD_of rg1 rd1 es
  refine ⟨a, vs, rfl, hi, δ, g1, _, rs.mono (e1.kp rg), rg1, h1.2, fun xs g2 us H2 e2 rg2 rd2 h2 => ?_⟩
  exact ⟨x :: xs, g2, P, .cons (rd1.mono (e2.kp rg1)) rd2, rg2, h2, fun d g' v H' e' rg' rd' p' => kk d g' v H' ((e1.trans e2).trans e') rg' rd' p'⟩
/-! ### self.f = v -/
def putO (i : Nat) (d : DV) (ds : List (Option DV)) : List (Option DV) := (ds ++ List.replicate (i + 1 - ds.length) none).set i (some d)
theorem SlD.put {K : Fg} {H : Hp} {ds : List (Option DV)} {vs : List (Option V)} {d : DV} {v : V} (h : SlD K H ds vs) (i : Nat) (r : RD K H d v) : SlD K H (putO i d ds) (SlX.putS i v vs) := by
  have hl := h.1
  refine ⟨by unfold putO SlX.putS; simp only [List.length_set, List.length_append, List.length_replicate]; rw [hl], fun j e he => ?_⟩
  by_cases hj : j = i
  · subst hj
    refine ⟨v, SlX.putS_get _ _ _, ?_⟩
    unfold putO at he
    rw [List.getElem?_set_self (by simp only [List.length_append, List.length_replicate]; omega)] at he
    cases he
    exact r
  · unfold putO at he
    rw [List.getElem?_set_ne (Ne.symm hj)] at he
    by_cases hk : j < ds.length
    · rw [List.getElem?_append_left hk] at he
      obtain ⟨u, h1, h2⟩ := h.2 j e he
      exact ⟨u, (SlX.putS_ne hj).mpr h1, h2⟩
    · rw [List.getElem?_append_right (by omega), List.getElem?_replicate] at he
      split at he <;> cases he
/-- each instance has its own dict -/
def OwnsOk (H : Hp) : Prop := ∀ a C dx fs, H a = some (.ins C dx fs) → dx ≠ a ∧ H dx = some (.own a)
theorem owns_of {pins : List (Addr × Obj)} {σ : L2.St} {H : Hp} {s : Shared} (I : Inv X pins σ H s) : OwnsOk H := fun a C dx fs e => by
  obtain ⟨mA, O, _, _, _, h⟩ := L2.ins_get I.hok e
  exact ⟨O.ne, h⟩
def sInsS (K : Fg) (C : Addr) (i : Nat) (ta tv : TE) : TS := fun D σ H => tv σ H fun y H1 => ta σ H1 fun x H2 => OwnsOk H2 → ∃ a dx vs, x = .ref a ∧ SlX.Slt H2 a C dx vs ∧ D.nx σ (SlX.slH H2 a C dx (SlX.putS i y vs))
theorem ps_insS {value : Expr} {to tv : TE} {pos' : Pos} (c : SlX.SCls X.K C) (k : SlX.Slot1 X.K C f p i) (ha : PE X o to) (hv : PE X value tv) (hs : swapsWith value (some (.Attribute o f pos')) pos.line X.env = pure false := by rfl) : PS X (.Assign [.Attribute o f pos'] value pos) (sInsS X.K C i to tv) := by
  refine ⟨fun pins s σ H D I h => ?_⟩
  refine plainObj_wpAny_Assign_Attribute (thn (hv.run pins s σ H _ I h) fun u s1 ⟨y, H1, I1, ry, q⟩ => thn (ha.run pins s1 σ H1 _ I1 q) fun ov s2 ⟨x, H2, I2, rx, w⟩ => ?_) hs
  obtain ⟨a, dx, vs, ex, hsl, q2⟩ := w (owns_of I2)
  subst ex
  obtain rfl : ov = Value.ref a := rx
  exact SlX.setslot_ok I2 hsl c k ry fun s3 I3 => ⟨σ, _, I3, q2⟩
theorem slt_dict {H : Hp} {a C dx : Addr} {vs : List (Option V)} (w : OwnsOk H) (h : SlX.Slt H a C dx vs) : H dx = some (.own a) ∨ H dx = some (.xd []) := by
  rcases h with ⟨h, _⟩ | ⟨_, h⟩
  · exact .inl (w _ _ _ _ h).2
  · exact .inr h
theorem slt_mut {H : Hp} {a C dx : Addr} {vs : List (Option V)} (h : SlX.Slt H a C dx vs) : Mut (H a) := by
  rcases h with ⟨h, _⟩ | ⟨h, _⟩ <;> (rw [h]; exact trivial)
theorem slt_trk {H : Hp} {a C dx : Addr} {vs : List (Option V)} (h : SlX.Slt H a C dx vs) : Trk a (H a) := by
  rcases h with ⟨h, _⟩ | ⟨h, _⟩
  · rw [h]; exact trivial
  · rw [h]; exact slO_trk
theorem slH_kp {H : Hp} {a C dx : Addr} {vs vs' : List (Option V)} (w : OwnsOk H) (h : SlX.Slt H a C dx vs) (ne : dx ≠ a) : Kp H (SlX.slH H a C dx vs') := by
  have m := slt_mut h
  have hd := slt_dict w h
  have na : ∀ b u, H b = some u → ¬ Mut (some u) → b ≠ a := fun b u e n z => by subst z; rw [e] at m; exact n m
  have nd : ∀ b u, H b = some u → (∀ x, u ≠ .own x) → u ≠ .xd [] → b ≠ dx := fun b u e n1 n2 z => by
    subst z
    rcases hd with hd | hd
    · rw [hd] at e; cases e; exact n1 _ rfl
    · rw [hd] at e; cases e; exact n2 rfl
  refine ⟨fun b xs e => ?_, fun b o u e => ?_, fun b fs e => ?_, fun b n e => ?_⟩
  rotate_left 3
  · have hb : b ≠ a := fun z => by
      subst z
      have t := slt_trk h
      rw [e] at t
      exact t n rfl
    rw [SlX.slH_ne hb (nd b _ e (fun _ z => by unfold LamX.CodeO at z; cases z) fun z => by unfold LamX.CodeO at z; cases z)]; exact e
  · rw [SlX.slH_ne (na b _ e fun z => z) (nd b _ e (fun _ z => nomatch z) fun z => nomatch z)]; exact e
  · rw [SlX.slH_ne (na b _ e fun z => z) (nd b _ e (fun _ z => nomatch z) fun z => nomatch z)]; exact e
  · have hb := na b _ e fun z => z
    by_cases hx : b = dx
    · subst hx
      have hfs : fs = [] := by
        rcases hd with hd | hd
        · rw [hd] at e; cases e
        · rw [hd] at e; cases e; rfl
      subst hfs
      unfold SlX.slH
      rw [upd_ne hb, upd_same]
    · rw [SlX.slH_ne hb hx]; exact e
theorem RG.slot {K : Fg} {H : Hp} {g : DG} {a dx : Addr} {vs : List (Option V)} {ds es : List (Option DV)} {vs' : List (Option V)} (w : OwnsOk H) (r : RG K H g) (eg : g a = some (.ins C ds)) (h : SlX.Slt H a C dx vs) (ne : dx ≠ a) (rd : SlD K H es vs') :
    RG K (SlX.slH H a C dx vs') (gup g a (.ins C es)) := fun b o e => by
  have kp := slH_kp (vs' := vs') w h ne
  by_cases hb : b = a
  · subst hb
    rw [gup_same] at e; cases e
    exact ⟨dx, vs', ne, SlX.slH_slt ne, rd.mono kp⟩
  · rw [gup_ne hb] at e
    have ro := r b o e
    have hd := slt_dict w h
    by_cases hx : b = dx
    · subst hx
      obtain ⟨u, e1, m⟩ := ro.some
      rcases hd with hd | hd
      · rw [hd] at e1; cases e1
        cases o with
        | lst ds => obtain ⟨_, z, _⟩ := ro; rw [hd] at z; cases z
        | dK _ _ => obtain ⟨_, z, _⟩ := ro; rw [hd] at z; cases z
        | dT _ _ => obtain ⟨_, z, _⟩ := ro; rw [hd] at z; cases z
        | ins C2 ds2 =>
          obtain ⟨dx2, vs2, _, z | z, _⟩ := ro
          · rw [hd] at z; cases z.1
          · rw [hd] at z; unfold SlX.SlO at z; cases z.1
        | tbl q => obtain ⟨_, z, _⟩ := ro; rw [hd] at z; cases z
      · cases o with
        | lst ds => obtain ⟨_, z, _⟩ := ro; rw [hd] at z; cases z
        | dK _ _ => obtain ⟨_, z, _⟩ := ro; rw [hd] at z; cases z
        | dT _ _ => obtain ⟨_, z, _⟩ := ro; rw [hd] at z; cases z
        | ins C2 ds2 =>
          obtain ⟨dx2, vs2, _, z | z, _⟩ := ro
          · rw [hd] at z; cases z.1
          · rw [hd] at z; unfold SlX.SlO at z; cases z.1
        | tbl q => obtain ⟨_, z, _⟩ := ro; rw [hd] at z; cases z
    · have eb : SlX.slH H a C dx vs' b = H b := SlX.slH_ne hb hx
      cases o with
      | lst ds => obtain ⟨us, q, rr⟩ := ro; exact ⟨us, eb.trans q, rr.mono kp⟩
      | dK ks ds => obtain ⟨us, q, x, rr⟩ := ro; exact ⟨us, eb.trans q, x, rr.mono kp⟩
      | dT ks ds => obtain ⟨us, q, x, rr⟩ := ro; exact ⟨us, eb.trans q, x, rr.mono kp⟩
      | tbl q =>
        obtain ⟨ps, e1, e2, e3⟩ := ro
        refine ⟨ps, eb.trans e1, e2, fun pos cv hc => ?_⟩
        obtain ⟨c, z1, z2⟩ := e3 pos cv hc
        exact ⟨c, z1, kp.e _ _ z2⟩
      | ins C2 ds2 =>
        obtain ⟨dx2, vs2, ne2, z, rr⟩ := ro
        rcases z with z | z
        · have hne : dx2 ≠ dx := fun q => by
            subst q
            have z1 := (w _ _ _ _ z.1).2
            rcases hd with hd | hd
            · rw [hd] at z1; cases z1; exact hb rfl
            · rw [hd] at z1; cases z1
          have hna : dx2 ≠ a := fun q => by
            subst q
            have z1 := (w _ _ _ _ z.1).2
            rcases h with h | h
            · rw [h.1] at z1; cases z1
            · rw [h.1] at z1; unfold SlX.SlO at z1; cases z1
          exact ⟨dx2, vs2, ne2, .inl ⟨eb.trans z.1, z.2⟩, rr.mono kp⟩
        · exact ⟨dx2, vs2, ne2, .inr ⟨eb.trans z.1, kp.x _ _ z.2⟩, rr.mono kp⟩
theorem Ext.slot {H : Hp} {g : DG} {a dx : Addr} {vs vs' : List (Option V)} {u : DO} {o : DO} (w : OwnsOk H) (eg : g a = some u) (h : SlX.Slt H a C dx vs) : Ext g H (gup g a o) (SlX.slH H a C dx vs') := fun b x e n hw => by
  have hb : b ≠ a := fun z => by subst z; rw [eg] at n; cases n
  refine ⟨?_, by rw [gup_ne hb]; exact n⟩
  by_cases hx : b = dx
  · subst hx
    rcases slt_dict w h with hd | hd
    · rw [hd] at e; cases e; exact absurd trivial hw
    · rw [hd] at e; cases e
      unfold SlX.slH
      rw [upd_ne hb, upd_same]
  · rw [SlX.slH_ne hb hx]; exact e
def stoK (C : Addr) (i : Nat) (x y : DV) (g : DG) (R : DG → Prop) : Prop := match x with
  | .ref p => (match g p with | some (.ins C' ds) => C' = C ∧ R (gup g p (.ins C (putO i y ds))) | _ => False)
  | _ => False
def dSto (C : Addr) (i : Nat) (to tv : TDE) : TDS := fun E δ g => tv δ g fun y g1 => to δ g1 fun x g2 => stoK C i x y g2 fun g3 => E.nx δ g3
theorem pds_sto {value : Expr} {to tv : TDE} {pos' : Pos} (c : SlX.SCls X.K C) (k : SlX.Slot1 X.K C f p i) (ha : PE X o (upE X.K to)) (hv : PE X value (upE X.K tv)) (hs : swapsWith value (some (.Attribute o f pos')) pos.line X.env = pure false := by rfl) :
    PS X (.Assign [.Attribute o f pos'] value pos) (upS X.K (dSto C i to tv)) := by
  refine PS_weak (ps_insS c k ha hv hs) fun D σ H ⟨δ, g, E, rs, rg, h, k1, _⟩ => ?_
  refine ⟨δ, g, _, rs, rg, h, fun y g1 u H1 e1 rg1 ry h1 => ⟨δ, g1, _, rs.mono (e1.kp rg), rg1, h1, fun x g2 v H2 e2 rg2 rx h2 w => ?_⟩⟩
  unfold stoK at h2
  split at h2
  · cases rx
    split at h2
    · rename_i C' ds eg
      obtain ⟨rfl, h2⟩ := h2
      obtain ⟨dx, vs, ne, hsl, sd⟩ := rg2 _ _ eg
      have ex := (e1.trans e2).trans (Ext.slot (vs' := SlX.putS i u vs) (o := .ins C' (putO i y ds)) w eg hsl)
      exact ⟨_, dx, vs, rfl, hsl, k1 _ _ _ _ ex (RG.slot w rg2 eg hsl ne (sd.put i (ry.mono (e2.kp rg1)))) (rs.mono (ex.kp rg)) h2⟩
    · exact h2.elim
  · exact h2.elim
/-! ### C(..), locked when its __init__ is through -/
def mkK (C p : Addr) (Q : DV → DG → Prop) (r : DV) (g : DG) : Prop := r = .non ∧ ∃ ds : List DV, g p = some (.ins C (ds.map some)) ∧ ds ≠ [] ∧ Q (.ins C ds) (gdel g p)
def dMk (C : Addr) (sp : SpD) (t : TDA) : TDE := fun δ g Q => t δ g fun ds g1 => ∀ p, g1 p = none → sp (.ref p :: ds) (gup g1 p (.ins C [])) (mkK C p Q)
theorem slD_full {K : Fg} {H : Hp} : ∀ {ds : List DV} {vs : List (Option V)}, SlD K H (ds.map some) vs → ∃ us : List V, vs = us.map some ∧ RDs K H ds us
  | [], vs, h => by
    have z := h.1
    cases vs with
    | nil => exact ⟨[], rfl, .nil⟩
    | cons _ _ => simp at z
  | d :: ds, vs, h => by
    cases vs with
    | nil => have z := h.1; simp at z
    | cons v vs =>
      obtain ⟨u, e, r⟩ := h.2 0 d rfl
      have e' : v = some u := by simpa using e
      subst e'
      obtain ⟨us, e2, r2⟩ := slD_full (ds := ds) (vs := vs) ⟨by have := h.1; simpa using this, fun i d e => by
        obtain ⟨w, a, b⟩ := h.2 (i + 1) d (by simpa using e)
        exact ⟨w, by simpa using a, b⟩⟩
      subst e2
      exact ⟨u :: us, rfl, .cons r r2⟩
theorem rg_mkI {K : Fg} {H : Hp} {g : DG} {x dx : Addr} (r : RG K H g) (hx : H x = none) (hd : H dx = none) (ne : dx ≠ x) : RG K (upd (upd H dx (.own x)) x (.ins C dx [])) (gup g x (.ins C [])) := fun a o e => by
  have k1 : Kp H (upd H dx (.own x)) := Kp.fresh hd
  have hx' : upd H dx (.own x) x = none := by rw [upd_ne (Ne.symm ne)]; exact hx
  have k2 : Kp (upd H dx (.own x)) (upd (upd H dx (.own x)) x (.ins C dx [])) := Kp.fresh hx'
  by_cases ha : a = x
  · subst ha
    rw [gup_same] at e; cases e
    exact ⟨dx, [], ne, .inl ⟨upd_same, rfl⟩, rfl, fun i d e => by simp at e⟩
  · rw [gup_ne ha] at e
    obtain ⟨u, e1, _⟩ := (r a o e).some
    exact (r a o e).keep (k1.trans k2) (by rw [upd_ne ha, upd_ne (ne_of_none e1 hd)])
theorem Ext.mkI {H : Hp} {g : DG} {x dx : Addr} {o : DO} {u w : HO} (hx : H x = none) (hd : H dx = none) : Ext g H (gup g x o) (upd (upd H dx u) x w) := fun a z e n _ => by
  have ha := ne_of_none e hx
  exact ⟨by rw [upd_ne ha, upd_ne (ne_of_none e hd)]; exact e, by rw [gup_ne ha]; exact n⟩
theorem gdel_gup {g : DG} {x : Addr} {o : DO} (h : g x = none) : gdel (gup g x o) x = g := by
  funext b; unfold gdel gup
  by_cases hb : b = x
  · subst hb; rw [if_pos rfl]; exact h.symm
  · rw [if_neg hb, if_neg hb]
theorem pd_mk {x : Str} {p0 : Pos} (M : Mk X.K C q) (F : FnR X.prog X.w X.K X.mg X.base CX0 n q (upSp X.K sp)) (hr : Room (n + 1) X.A) (hm : X.mg x = some (.ref C)) (ha : PA X (e :: es) (upA X.K ta)) (hg : Gl X x := by rfl) (hdb : (x == ("__debug__" : Str)) = false := by decide)
    (he : starEach (e :: es) X.env = (false, eval e X.env) :: starEach es X.env := by rfl) (hpl : (backTo pos (starEach es X.env)).any (·.1) = false := by rfl) : PE X (.Call (.Name x p0) (e :: es) [] pos) (upE X.K (dMk C sp ta)) := by
  refine PE_weak (PE_fz (StX.pe_makeR (E := fun _ _ _ => False) M F hr hg hm pass0 ha hdb he hpl)) fun σ H Q ⟨δ, g, P, rs, rg, h, k⟩ => ⟨δ, g, _, rs, rg, h, fun ds g1 vs H1 e1 rg1 rd1 h1 y dx hx hd ne => ?_⟩
  have gx : g1 y = none := rg1.none hx
  have ex0 : Ext g1 H1 (gup g1 y (.ins C [])) (upd (upd H1 dx (.own y)) y (.ins C dx [])) := Ext.mkI hx hd
  refine ⟨.ref y :: ds, gup g1 y (.ins C []), _, .cons (.ref y) (rd1.mono (ex0.kp rg1)), rg_mkI rg1 hx hd ne, h1 y gx, fun d g' v H' e' rg' rd' p' => ?_⟩
  obtain ⟨rfl, fs, eg, hne, p'⟩ := p'
  cases rd'
  refine ⟨rfl, ?_⟩
  obtain ⟨dx', ws, ne', hsl, sd⟩ := rg' _ _ eg
  obtain ⟨us, rfl, rds⟩ := slD_full sd
  have hyx : H' y = some (SlX.SlO y C dx' (us.map some)) ∧ H' dx' = some (.xd []) := by
    rcases hsl with ⟨_, z⟩ | z
    · cases us with
      | nil => cases rds; exact absurd rfl hne
      | cons _ _ => cases z
    · exact z
  refine .inr ⟨y, _, rfl, hyx.1, trivial, fun od => ?_⟩
  have kp : Kp H' (upd H' y (.frz od (SlX.SlO y C dx' (us.map some)))) := Kp.mut (by rw [hyx.1]; exact slO_trk)
  have ext : Ext g H (gdel g' y) (upd H' y (.frz od (SlX.SlO y C dx' (us.map some)))) := fun a o ea na hw => by
    obtain ⟨z1, z2⟩ := e1 a o ea na hw
    have hay : a ≠ y := ne_of_none z1 hx
    obtain ⟨w1, w2⟩ := ex0 a o z1 z2 hw
    obtain ⟨w3, w4⟩ := e' a o w1 w2 hw
    exact ⟨by rw [upd_ne hay]; exact w3, by unfold gdel; rw [if_neg hay]; exact w4⟩
  have rg2 : RG X.K (upd H' y (.frz od (SlX.SlO y C dx' (us.map some)))) (gdel g' y) := fun a o ea => by
    unfold gdel at ea
    by_cases hay : a = y
    · rw [if_pos hay] at ea; cases ea
    · rw [if_neg hay] at ea
      exact (rg' a o ea).keep kp (upd_ne hay)
  exact k _ _ _ _ ext rg2 (.ins ⟨od, dx', upd_same, kp.x _ _ hyx.2⟩ (rds.mono kp)) p'
end
end DL

/-! Deep layer L: operators, tests and built-ins that ask an instance's own methods. -/
namespace DL
open PySem PySem.Spec PyProof.Rows L2 Builtin
def tyNames : List String := ["NoneType", "bool", "int", "str", "tuple", "list", "dict"]
section
variable {X : Cx} {CX : CXT} {pins : List (Addr × Obj)} {σ : L2.St} {H : Hp} {s : Shared} {C g : Addr} {n : Nat} {sp : Sp} {EX : XK}
/-! ### the same by content -/
variable {sd : SpD} {K : Fg}
/-- no built-in class stands below C -/
def NoSub (K : Fg) (C : Addr) : Prop := (tyNames.all fun a => PySem.W.notFirst K C (.type a)) = true
/-! ### y in x, y not in x -/
/-! ### len(x) -/
/-! ### isinstance(x, T), T a class of the text -/
def rIsiC (K : Fg) (T : Addr) : List V → Hp → VK → Prop := fun xs H Q => rInsIsi K T (.ref T) true xs H Q ∨ rIsiY K xs H Q
theorem cr_isiC (hc : SlX.SCls X.K C) (hi : SlX.SIsi X.K C) (hk : PySem.W.kitOne X.K (.ref C) (.ref C) = some true) : CallR X (.builtin "isinstance") (rIsiC X.K C) := by
  intro pins s σ H xs us Q I r h
  rcases h with h | h
  · exact cr_insIsi hc hi hk pins s σ H xs us Q I r h
  · exact call_isiY pins s σ H xs us Q I r h
def rrIsiC (T : Addr) : RRs := rr2 fun x y g P => y = .ref T ∧ (((slD g T x).isSome = true ∧ P (.bl true)) ∨ ((tyNm g x).isSome = true ∧ P (.bl false)))
/-- no built-in value is of the class -/
def NoIsi (K : Fg) (T : Addr) : Prop := (tyNames.all fun a => PySem.W.kitOne K (.type a) (.ref T) == some false) = true
theorem ref_isiC (hF : NoIsi K C) : RefCall K (rrIsiC C) (rIsiC K C) := by
  intro xs P vs H g Q rg r k h
  obtain ⟨x, y, v, u, rfl, rfl, rx, ry, ey, h2⟩ := rr2_of r h
  clear h r
  subst ey
  cases ry
  cases h2 with
  | inl h =>
    obtain ⟨h1, h⟩ := h
    obtain ⟨ds, es⟩ := Option.isSome_iff_exists.mp h1
    obtain ⟨a, vs, rfl, hi, _⟩ := slD_of rg rx es
    exact .inl ⟨a, vs, .ref C, rfl, rfl, fun w z => z, hi, .inl (k _ _ H Ext.refl rg (.bl _) h)⟩
  | inr h =>
    obtain ⟨h1, h⟩ := h
    obtain ⟨a, ea⟩ := Option.isSome_iff_exists.mp h1
    obtain ⟨m, ty⟩ := tyNm_of rg rx ea
    exact .inr ⟨v, .ref C, _, _, false, rfl, .own C, ty, beq_iff_eq.mp (List.all_eq_true.mp hF a m), .inl (k _ _ H Ext.refl rg (.bl _) h)⟩
end
end DL

/-! Deep layer M: dicts with tuples as keys. -/
namespace DL
open PySem PySem.Spec PyProof.Rows L2
section
variable {X : Cx}
/-- d[y] = z by a comprehension, whatever the keys are -/
theorem dset_put {pinz : List (Addr × Obj)} {σ : L2.St} {G G' : Hp} {t : Shared} {E : Value → Shared → Prop} {D : Addr} {y z : V} {yu zu : Value} {R : Unit → Shared → Prop} (room : X.A.units + 1 < cLine) (J : Inv X pinz σ G t) (p : DPut G D y z G')
    (ry : RelV y yu) (rz : RelV z zu) (h : ∀ t', Inv X pinz σ G' t' → R () t') : wpAny (model X.prog X.w) X.A (dictSet D yu zu) R E t := by
  rcases p with ⟨kvs, k, e, ey, l, eG⟩ | ⟨kvs, k, b, e, ey, eb, l, eG⟩
  · subst ey eG
    exact d_dictSet J e l ry rz h
  · subst ey eG
    cases (show yu = Value.ref b from ry)
    obtain ⟨l1, nd, ks, rel, dd⟩ := dt_of J.hok e
    have l2 : (putK kvs k z).length ≤ sizeLine := Nat.le_trans (length_putK kvs k z) l
    refine wpAny_dictSet_heap (hsz := by rw [← Paired.length rel]; exact l1) (show (tupleKind (mixKind X.prog X.w)).room X.A from (by show X.A.units < cLine; omega)) (key_of J.hok eb) dd fun h' dd' sb => h _ ?_
    obtain ⟨q, es, ep, hq, z1, z2, z3, _, z5⟩ := dd'
    refine d_write J (by rw [e]; exact True.intro) sb ⟨q, hq⟩ ⟨l2, nd, _, (rel.put k eb rz).keeps fun c ys ec => ?_, q, es, ep, hq, z1, z2, z3, z5⟩
    rw [upd_ne (ne_of ec e (fun w => nomatch w))]
    exact ec
/-- {k: v for target in iter if ..}: D the new dict -/
def tDcA (o0 : HO) (wi : TI) (tg : TG) (tt : TT) (tk tv : TE) (vs : List Nat) : TE := fun σ H Q => wi σ H fun J H1 => ∀ D, H1 D = none → ∃ W : Nat → Nat → Hp → Prop, (∃ m, W 0 m (upd H1 D o0)) ∧ ∀ i m G, W i m G →
  (J.stop i G ∧ Q (.ref D) G) ∨ (J.go i G ∧ ∃ Nx : Hp → Prop, (∀ G', Nx G' → ∃ m', m' < m ∧ W (i + 1) m' G') ∧ ∀ x G', J.yld i G x G' → tg x (wipe σ vs) G' fun σ2 G2 => wipe σ2 vs = wipe σ vs ∧ tt σ2 G2 fun b G3 =>
    if b = true then tk σ2 G3 fun y G4 => tv σ2 G4 fun z G5 => ∃ G6, DPut G5 D y z G6 ∧ Nx G6 else Nx G3)
def EmptyD (o0 : HO) : Prop := o0 = .dK [] ∨ o0 = .dT []
theorem empty_ok {P : Program} {w : World} {G : Hp} {o0 : HO} (h : EmptyD o0) (hp : Heap) (hb : sysModules < hp.objs.size) : ObjOk P w G (hp.push { cls := .type "dict", data := .dict #[] }) hp.objs.size o0 := by
  rcases h with h | h <;> subst h
  · exact dk_empty hp hb
  · exact dt_empty hp hb
theorem pe_dcA {kx vx tgx iter : Expr} {ifs : List Expr} {scope : Scope} {own : List (Str × Nat)} {pos : Pos} {wi : TI} {tg : TG} {tt : TT} {tk tv : TE} {o0 : HO} (h0 : EmptyD o0) (room : X.A.units + 1 < cLine) (calm : X.calm = true) (nd : X.N.Nodup) (hi : PI X tgx iter wi) (ok : BlkOk X.N X.env.scope scope own)
    (hg : ∀ (s : Shared) (H : Hp) (C : Addr) (cl : List (Str × Addr)) (fp : List Addr), PG (X.blk s H scope (compEnvC scope cl C X.env) fp) tgx tg) (ht : ∀ (s : Shared) (H : Hp) (C : Addr) (cl : List (Str × Addr)) (fp : List Addr), PTs (X.blk s H scope (compEnvC scope cl C X.env) fp) ifs tt)
    (hk : ∀ (s : Shared) (H : Hp) (C : Addr) (cl : List (Str × Addr)) (fp : List Addr), PE (X.blk s H scope (compEnvC scope cl C X.env) fp) kx tk)
    (he : ∀ (s : Shared) (H : Hp) (C : Addr) (cl : List (Str × Addr)) (fp : List Addr), PE (X.blk s H scope (compEnvC scope cl C X.env) fp) vx tv) (hs : ∀ x, foldedSetIterable iter X.env x = pure x := by intro _; rfl) :
    PE X (.DictComp kx vx [⟨tgx, iter, ifs, 0⟩] scope pos) (tDcA o0 wi tg tt tk tv (own.map (·.2))) := by
  refine ⟨fun pinz s σ H Q J0 h => ?_⟩
  rw [arm_eval_DictComp]
  have free : ∀ y ∈ scope.names, y.2 = .free → ∃ c, X.env.cells.lookup y.1 = some c := fun y hy e => (ok.free y hy e).elim (fun k => J0.ok.has _ (.inl k)) fun k => J0.ok.has _ (.inr k)
  refine wpAny_comprehension_free (use := none) rfl hs (closure_ok free) ok.kind (fun y hy e => by rw [ok.uniq y hy, e]) (thn (hi.run pinz s σ H _ J0 h) fun xv s1 w1 => thn w1 fun itv s2 w2 => ?_)
  obtain ⟨it, fp, walk, J, H2, e, I2, T, at2, free2, q⟩ := w2
  subst e
  refine wpAny_newObj_type (newEnv_comp ?_)
  -- the dict, behind it the block's own names
  obtain ⟨D, hD⟩ : ∃ D, D = s2.heap.objs.size := ⟨_, rfl⟩
  have hD2 : H2 D = none := by rw [hD]; exact I2.hok.fresh (Nat.le_refl _)
  obtain ⟨W, ⟨m0, w0⟩, turn⟩ := q D hD2
  obtain ⟨s3, e3⟩ : ∃ s3 : Shared, s3 = { s2 with heap := s2.heap.push { cls := .type "dict", data := .dict #[] } } := ⟨_, rfl⟩
  have p3 : s3.heap = s2.heap.push { cls := .type "dict", data := .dict #[] } := by rw [e3]
  obtain ⟨H3, eH3⟩ : ∃ H3, H3 = upd H2 D o0 := ⟨_, rfl⟩
  rw [← eH3] at w0
  have I3 : Inv X pinz σ H3 s3 := by
    rw [e3, eH3, hD]
    exact I2.laid (t' := s2.toks) (fun b o e => Heap.get?_push_of_some _ e) (Nat.le_refl _) (empty_ok h0 s2.heap I2.big)
  have old : ∀ b ∈ fp, b < s2.heap.objs.size := fun b hb => let ⟨o, e, _⟩ := T.obj _ _ at2 b hb; Heap.lt_size e
  have free3 : ∀ b ∈ fp, FpOk X pinz H3 b ∧ b < s3.heap.objs.size := fun b hb => by
    have hlt := old b hb
    refine ⟨⟨?_, (free2 b hb).2⟩, by rw [p3, Heap.size_push]; exact Nat.lt_succ_of_lt hlt⟩
    rw [eH3, upd_ne (by rw [hD]; exact Nat.ne_of_lt hlt)]
    exact (free2 b hb).1
  have at3 : walk 0 s3.heap := T.keep _ _ _ at2 fun b _ o e => by rw [p3]; exact Heap.get?_push_of_some _ e
  have I4 := block_start I3 ok nd free3
  obtain ⟨cl, hcl⟩ : ∃ cl, cl = cellsFrom (s3.heap.objs.size + 1) scope.names (cloFrom X.env.cells scope.names []) := ⟨_, rfl⟩
  have pg := hg s3 H3 s3.heap.objs.size cl fp
  have pt := ht s3 H3 s3.heap.objs.size cl fp
  have pk := hk s3 H3 s3.heap.objs.size cl fp
  have pv := he s3 H3 s3.heap.objs.size cl fp
  rw [← hcl] at I4
  obtain ⟨ce, hce⟩ : ∃ ce, ce = compEnvC scope cl s3.heap.objs.size X.env := ⟨_, rfl⟩
  have locals : ce.locals = s3.heap.objs.size := by rw [hce]; rfl
  rw [← hce] at I4 pg pt pk pv
  obtain ⟨s4, e4⟩ : ∃ s4 : Shared, s4 = { s3 with heap := pushCells (s3.heap.push { cls := .type "dict", data := .dict #[] }) scope.names } := ⟨_, rfl⟩
  rw [← e4] at I4
  have at4 : walk 0 s4.heap := T.keep _ _ _ at3 fun b _ o e => by rw [e4]; exact pushCells_keeps _ _ _ _ (Heap.get?_push_of_some _ e)
  have quiet : ∀ {σ' : L2.St} {G : Hp} {t : Shared}, Inv (X.blk s3 H3 scope ce fp) [] σ' G t → (∀ b ∈ fp, G b = none) → ∀ b ∈ fp, FpOk (X.blk s3 H3 scope ce fp) [] G b := fun {σ' G t} I' n b hb =>
    ⟨n b hb, (I'.ok.exf b hb).1, I'.ok.exfs b hb, .inl hb, fun x c e => (I'.ok.exf b hb).2 x c e, fun p hp => absurd (show p ∈ ([] : List (Addr × Obj)) ++ [] from hp) (by simp)⟩
  have loop : codeAny (model X.prog X.w) X.A (.compLoop (.DictComp kx vx [⟨tgx, iter, ifs, 0⟩] scope pos) 0 (.ref it) (.ref D) ce) (compPost (model X.prog X.w) X.A X.xe none (EP X pinz σ Q) (.ref D) s3.heap.objs.size) s4 := by
    refine compLoop_anyD (fun n t => ∃ i G, Inv (X.blk s3 H3 scope ce fp) [] (wipe σ (own.map (·.2))) G t ∧ walk i t.heap ∧ (∀ b ∈ fp, G b = none) ∧ W i n G) ?_ m0 ⟨0, H3, I4, at4, fun b hb => (free3 b hb).1.1, w0⟩
    rintro n t ⟨i, G, I5, at5, n5, w5⟩
    rcases turn i n G w5 with ⟨stop, fin⟩ | ⟨go, Nx, less, step⟩
    · refine thnF (T.done (X.blk s3 H3 scope ce fp) rfl rfl rfl calm i [] t _ G (fun _ _ => False) I5 (quiet I5 n5) at5 stop) fun r t6 ⟨er, I6⟩ => ?_
      subst er
      have I7 : Inv X pinz σ G t6 := I3.call' (ch := fp) I6.os I6.base I6.hok I6.bare fun b hb => ⟨(free3 b hb).1.2.2.2.1, (free3 b hb).1.2.1, (free3 b hb).1.2.2.2.2.1, (free3 b hb).1.2.2.2.2.2⟩
      have noC : G s3.heap.objs.size = none := by rw [← locals]; exact I6.free
      obtain ⟨m, hn, _⟩ := I6.loc
      have hn : t6.heap.Ns ce.locals m := hn
      rw [locals] at hn
      obtain ⟨f0, f1, f2, f3, f4, f5⟩ := I3.fpOk (Nat.le_refl _) noC
      exact ⟨m, hn, fun h'' sb => ⟨.ref D, G, I7.turned (t' := t6.toks) (fun b o hb e => (sb.2 b hb).trans e) f0 f1 f3 f4 f5, rfl, fin⟩⟩
    · refine thnF (T.item (X.blk s3 H3 scope ce fp) rfl rfl rfl calm i [] t _ G (fun _ _ => False) I5 (quiet I5 n5) at5 go) fun r t6 ⟨u, er, w6⟩ => ?_
      subst er
      refine thnF w6 fun _ t7 ⟨x, G7, I7, r7, y7, at7, n7⟩ => ?_
      refine thnF (pg.run _ t7 _ G7 x u _ (I7.pinned (quiet I7 n7) (T.obj _ _ at7)) r7 (step x G7 y7)) fun _ t8 ⟨σ8, G8, I8, wp8, q8⟩ => ?_
      refine thnF (pt.run _ t8 σ8 G8 _ I8 q8) fun b t9 ⟨G9, I9, q9⟩ => ?_
      have done : ∀ {t' : Shared} {G' : Hp}, Inv (X.blk s3 H3 scope ce fp) ([] ++ pinsAt fp t7.heap) σ8 G' t' → Nx G' → ∃ m, m < n ∧ ∃ i G', Inv (X.blk s3 H3 scope ce fp) [] (wipe σ (own.map (·.2))) G' t' ∧ walk i t'.heap ∧ (∀ b ∈ fp, G' b = none) ∧ W i m G' := fun {t' G'} I' nx => by
        obtain ⟨m', hm, w'⟩ := less G' nx
        have held : ∀ b ∈ fp, ∀ o, t7.heap.get? b = some o → t'.heap.get? b = some o ∧ G' b = none := fun b hb o e =>
          let z := I'.pin (b, o) (List.mem_append_right _ (List.mem_append_right _ (mem_pinsAt hb e)))
          ⟨z.1, z.2.1⟩
        refine ⟨m', hm, i + 1, G', (I'.unpinned (pins := [])).weak (by rw [← wp8, wipe_length]) (fun j v e => by rw [← wp8] at e; exact (wipe_some e).1), T.keep _ _ _ at7 fun b hb o e => (held b hb o e).1, fun b hb => ?_, w'⟩
        obtain ⟨o, e, _⟩ := T.obj _ _ at7 b hb
        exact (held b hb o e).2
      cases b with
      | false =>
        simp only [Bool.false_eq_true, if_false] at q9 ⊢
        exact done I9 q9
      | true =>
        simp only [if_true] at q9 ⊢
        refine thnF (pk.run _ t9 σ8 G9 _ I9 q9) fun ku t10 ⟨yk, G10, I10, r10, q10⟩ => ?_
        refine thnF (pv.run _ t10 σ8 G10 _ I10 q10) fun vu t11 ⟨yv, G11, I11, r11, G12, put, nx⟩ => ?_
        exact dset_put (X := X.blk s3 H3 scope ce fp) room I11 put r10 r11 fun t12 I12 => done I12 nx
  have start := codeAny_compStart_dict loop (T.self X.A 0 _ _ _ at4 loop)
  rw [e4, hce, hcl, hD] at start
  subst e3
  exact start
/-! ### the same by content -/
def keysK : List DV → Option (List Key)
  | [] => some []
  | d :: r => match keyK d, keysK r with | some k, some ks => some (k :: ks) | _, _ => none
def keyT : DV → Option (List Key)
  | .tup ds => keysK ds
  | _ => none
theorem keysK_of {K : Fg} {H : Hp} : ∀ {ds : List DV} {vs : List V} {ks : List Key}, RDs K H ds vs → keysK ds = some ks → vs = ks.map kV
  | [], _, ks, .nil, h => by cases h; rfl
  | d :: ds, _, ks, .cons r t, h => by
    unfold keysK at h
    split at h
    · rename_i k ks' e1 e2
      cases h
      rw [keysK_of t e2, keyK_of r e1]; rfl
    · cases h
theorem keyT_of {K : Fg} {H : Hp} {d : DV} {v : V} {k : List Key} (r : RD K H d v) (h : keyT d = some k) : ∃ b, v = .ref b ∧ H b = some (.tup (k.map kV)) := by
  cases r with
  | tup hs hr => exact ⟨_, rfl, by rw [hs, keysK_of hr h]⟩
  | _ => cases h
theorem keysK_ints : ∀ ns : List Int, keysK (ns.map DV.int) = some (ns.map Sum.inl)
  | [] => rfl
  | n :: r => by
    rw [List.map_cons, keysK, keysK_ints r]; rfl
theorem keyT_ints (ns : List Int) : keyT (.tup (ns.map DV.int)) = some (ns.map Sum.inl) := keysK_ints ns
def dDcC (tg : Tg) (own : List Nat) (tt : TDT) (tk tv : TDE) (δ : DS) : List DV → List (List Key) → List DV → DG → (List (List Key) → List DV → DG → Prop) → Prop
  | [], ks, vs, g, R => R ks vs g
  | d :: ds, ks, vs, g, R => match bindT tg d (wipeD δ own) with
    | some δ2 => tt δ2 g fun b g3 => if b = true then tk δ2 g3 fun y g4 => tv δ2 g4 fun z g5 => (match keyT y with | some k => dDcC tg own tt tk tv δ ds (putKs ks k) (putDs ks vs k z) g5 R | none => False) else dDcC tg own tt tk tv δ ds ks vs g3 R
    | none => False
def dDcT (wi : TDI) (tg : Tg) (own : List Nat) (tt : TDT) (tk tv : TDE) : TDE := fun δ g Q => wi δ g fun ds g1 => ds.length ≤ sizeLine ∧ dDcC tg own tt tk tv δ ds [] [] g1 fun ks vs g2 => Q (.dT ks vs) g2
theorem dcT_up {K : Fg} {wi : TDI} {tg : Tg} {own : List Nat} {tt : TDT} {tk tv : TDE} {δ : DS} {g : DG} {σ : L2.St} {H : Hp} {P : List (List Key) → List DV → DG → Prop} {Q : VK} (hix : ∀ i ∈ tg.ix, i ∈ own) (rs : RS K H δ σ) (rg : RG K H g)
    (h : wi δ g fun ds g1 => ds.length ≤ sizeLine ∧ dDcC tg own tt tk tv δ ds [] [] g1 P)
    (k : ∀ D kvs ys g' H', Ext g H g' H' → RG K H' g' → g' D = none → (∀ o, H D = some o → g D = none → ¬ OwnO o → False) → H' D = some (.dT kvs) → RDs K H' ys (kvs.map (·.2)) → P (kvs.map (·.1)) ys g' → Q (.ref D) H') :
    tDcA (.dT []) (upI K wi) (tgG K tg) (upT K tt) (upE K tk) (upE K tv) own σ H Q := by
  refine ⟨δ, g, _, rs, rg, h, fun ds g1 J H1 e1 rg1 dw p D hD => ?_⟩
  obtain ⟨hlen, p⟩ := p
  have fresh : ∀ o, H D = some o → g D = none → ¬ OwnO o → False := fun o q n w => by
    have := (e1 D o q n w).1
    rw [hD] at this; cases this
  let Inn : Nat → Hp → Prop := fun i H' => Kp H1 H' ∧ ∃ (kvs : List (List Key × V)) (ys : List DV) (g' : DG), Ext g H g' H' ∧ RG K H' g' ∧ g' D = none ∧ H' D = some (.dT kvs) ∧ RDs K H' ys (kvs.map (·.2)) ∧ kvs.length ≤ i ∧
    dDcC tg own tt tk tv δ (ds.drop i) (kvs.map (·.1)) ys g' P
  refine ⟨fun i m H' => m = ds.length - i ∧ i ≤ ds.length ∧ Inn i H', ⟨ds.length, rfl, Nat.zero_le _, Kp.fresh hD, [], [], g1, e1.trans (Ext.fresh rg1 hD), rg1.fresh hD, rg1.none hD, upd_same, .nil, Nat.le_refl _, p⟩, ?_⟩
  rintro i m H2 ⟨rfl, hi, kp2, kvs, ys, g2, e2, rg2, gD, hD2, ra, hacc, q⟩
  by_cases hlt : i < ds.length
  · rw [List.drop_eq_getElem_cons hlt] at q
    unfold dDcC at q
    refine .inr ⟨dw.goes i H2 hlt kp2, Inn (i + 1), fun H' z => ⟨ds.length - (i + 1), by omega, rfl, hlt, z⟩, fun x H3 y => ?_⟩
    obtain ⟨st, rd⟩ := dw.yields i H2 x H3 ds[i] (by simp [hlt]) kp2 y
    split at q
    · rename_i δ3 eb
      have rg3 := step_rg st rg2
      have e3 := step_ext st rg2
      have rs3 : RS K H3 (wipeD δ own) (wipe σ own) := ((rs.mono (e2.kp rg)).mono (step_kp st)).wipe own
      refine tg_run rd rs3 eb fun σ3 rsT hw => ⟨by rw [hw own hix]; exact wipe_wipe σ own, ?_⟩
      have hD3 : H3 D = some (.dT kvs) := (e3 D _ hD2 gD fun z => z).1
      refine ⟨δ3, g2, _, rsT, rg3, q, fun b g4 H4 e4 rg4 z => ?_⟩
      have hD4 := e4 D _ hD3 gD fun z => z
      cases b with
      | false =>
        dsimp only
        rw [if_neg Bool.false_ne_true] at z ⊢
        exact ⟨(kp2.trans (step_kp st)).trans (e4.kp rg3), kvs, ys, g4, (e2.trans e3).trans e4, rg4, hD4.2, hD4.1, (ra.mono (step_kp st)).mono (e4.kp rg3), by omega, z⟩
      | true =>
        dsimp only
        rw [if_pos rfl] at z ⊢
        refine ⟨δ3, g4, _, rsT.mono (e4.kp rg3), rg4, z, fun yk g5 v H5 e5 rg5 rd5 w => ?_⟩
        have hD5 := e5 D _ hD4.1 hD4.2 fun z => z
        refine ⟨δ3, g5, _, (rsT.mono (e4.kp rg3)).mono (e5.kp rg4), rg5, w, fun yv g6 u H6 e6 rg6 rd6 w2 => ?_⟩
        have hD6 := e6 D _ hD5.1 hD5.2 fun z => z
        split at w2
        · rename_i kk ek
          obtain ⟨b, rfl, hb⟩ := keyT_of (rd5.mono (e6.kp rg5)) ek
          have ra6 := (((ra.mono (step_kp st)).mono (e4.kp rg3)).mono (e5.kp rg4)).mono (e6.kp rg5)
          obtain ⟨z1, z2⟩ := putK_rd (k := kk) rd6 ra6
          have km : Kp H6 (upd H6 D (.dT (putK kvs kk u))) := Kp.mut (by rw [hD6.1]; exact True.intro)
          refine ⟨_, DPut.t hD6.1 hb (by omega), ((((kp2.trans (step_kp st)).trans (e4.kp rg3)).trans (e5.kp rg4)).trans (e6.kp rg5)).trans km, putK kvs kk u, putDs (kvs.map (·.1)) ys kk yv, g6, fun a o ha hn hw => ?_, fun a o ha => ?_, hD6.2, upd_same, z2.mono km, ?_, by rw [z1]; exact w2⟩
          · obtain ⟨z1, z2⟩ := ((e2.trans e3).trans ((e4.trans e5).trans e6)) a o ha hn hw
            exact ⟨by rw [upd_ne (fun q => by subst q; exact fresh o ha hn hw)]; exact z1, z2⟩
          · have na : a ≠ D := fun q => by subst q; rw [hD6.2] at ha; cases ha
            exact (rg6 a o ha).keep km (upd_ne na)
          · have := length_putK kvs kk u; omega
        · exact w2.elim
    · exact q.elim
  · have ei : i = ds.length := by omega
    subst ei
    rw [List.drop_length] at q
    exact .inl ⟨dw.stops H2 kp2, k D kvs ys g2 H2 e2 rg2 gD fresh hD2 ra q⟩
variable {kx vx iter tgx : Expr} {ifs : List Expr} {scope : Scope} {own : List (Str × Nat)} {wi : TDI} {tg : Tg} {tt : TDT} {tk tv : TDE} {pos : Pos}
theorem pd_dcT (room : X.A.units + 64 < cLine) (hc : X.calm = true) (hN : X.N.Nodup) (hi : PI X tgx iter (upI X.K wi)) (ok : BlkOk X.N X.env.scope scope own)
    (hg : ∀ (s : Shared) (H : Hp) (C : Addr) (cl : List (Str × Addr)) (fp : List Addr), PG (X.blk s H scope (compEnvC scope cl C X.env) fp) tgx (tgG X.K tg)) (ht : ∀ (s : Shared) (H : Hp) (C : Addr) (cl : List (Str × Addr)) (fp : List Addr), PTs (X.blk s H scope (compEnvC scope cl C X.env) fp) ifs (upT X.K tt))
    (hk : ∀ (s : Shared) (H : Hp) (C : Addr) (cl : List (Str × Addr)) (fp : List Addr), PE (X.blk s H scope (compEnvC scope cl C X.env) fp) kx (upE X.K tk)) (he : ∀ (s : Shared) (H : Hp) (C : Addr) (cl : List (Str × Addr)) (fp : List Addr), PE (X.blk s H scope (compEnvC scope cl C X.env) fp) vx (upE X.K tv))
    (hix : ∀ i ∈ tg.ix, i ∈ own.map (·.2) := by decide) (hs : ∀ x, foldedSetIterable iter X.env x = pure x := by intro _; rfl) :
    PE X (.DictComp kx vx [⟨tgx, iter, ifs, 0⟩] scope pos) (upE X.K (dDcT wi tg (own.map (·.2)) tt tk tv)) :=
  PE_weak (PE_fz (pe_dcA (.inr rfl) (by omega) hc hN hi ok hg ht hk he hs)) fun σ H Q ⟨δ, g, P, rs, rg, h, k⟩ => dcT_up (P := fun ks vs g2 => P (.dT ks vs) g2) hix rs rg h fun D kvs ys g' H' e rg' gD fresh hD rd p =>
    have km : ∀ o, Kp H' (upd H' D o) := fun o => Kp.mut (by rw [hD]; exact True.intro)
    .inr ⟨D, .dT kvs, rfl, hD, trivial, fun o => k _ g' _ _ (lock_ext e fresh) (fun a u ha => (rg' a u ha).keep (km _) (upd_ne (fun q => by subst q; rw [gD] at ha; cases ha))) (.dT ⟨o, kvs, upd_same, rfl, rfl⟩ (rd.mono (km _))) p⟩
end
end DL

/-! Deep layer N: sorted(.., key=..) of tuples of ints, out of a list or a dict. -/
namespace DL
open PySem PySem.Spec PyProof.Rows L2
/-- what a key function says of a tuple of ints, wherever it is called -/
def KeyT (id : String) (kf : List Int → Int) : Prop := ∀ (prog : Program) (w : World) (A : Around) (s : Shared) (t : Addr) (its : List Value) (ns : List Int), A.handled = none → IsTup s.heap t its.toArray → IntsAre its ns → its.length ≤ sizeLine →
  wpAny (model prog w) A (call (.builtin id) [.ref t]) (PySem.W.KeyPure (.int (kf ns)) s) (fun _ _ => False) s
theorem keyT_len : KeyT "len" fun ns => (ns.length : Int) := by
  intro prog w A s t its ns hh ht hi hz
  have hl := line63
  refine PyProof.Rows.len_tuple ht (by rw [List.size_toArray]; omega) ⟨s.heap, _, rfl, fun _ _ e => e, ?_⟩
  rw [List.size_toArray, hi.length]
  exact .int _ _
/-- tuples of ints at addresses -/
def Tups (H : Hp) (L : List (List Int)) (bs : List Addr) : Prop := Paired (fun ns b => H b = some (.tup (ns.map V.int))) L bs
theorem Tups.length {H : Hp} {L : List (List Int)} {bs : List Addr} (h : Tups H L bs) : L.length = bs.length := Paired.length h
theorem tups_refs : ∀ bs : List Addr, Vals (bs.map V.ref) (bs.map Value.ref)
  | [] => .nil
  | _ :: r => .cons rfl (tups_refs r)
theorem tups_vals : ∀ {bs : List Addr} {us : List Value}, Vals (bs.map V.ref) us → us = bs.map Value.ref
  | [], _, h => by cases h; rfl
  | b :: r, _, h => by
    cases h with
    | cons h1 h2 => rw [tups_vals h2, show _ = Value.ref b from h1]; rfl
theorem tups_zip {H : Hp} : ∀ {L : List (List Int)} {bs : List Addr}, Tups H L bs → ∃ ps : List (List Int × Addr), ps.map Prod.fst = L ∧ ps.map Prod.snd = bs ∧ ∀ p ∈ ps, H p.2 = some (.tup (p.1.map V.int))
  | _, _, .nil => ⟨[], rfl, rfl, fun _ h => nomatch h⟩
  | _, _, .cons (a := a) (b := b) h t => by
    obtain ⟨ps, e1, e2, hp⟩ := tups_zip t
    refine ⟨(a, b) :: ps, by rw [List.map_cons, e1], by rw [List.map_cons, e2], fun p hm => ?_⟩
    rcases List.mem_cons.mp hm with e | hm
    · subst e; exact h
    · exact hp p hm
theorem tups_of {H : Hp} : ∀ {ps : List (List Int × Addr)}, (∀ p ∈ ps, H p.2 = some (.tup (p.1.map V.int))) → Tups H (ps.map Prod.fst) (ps.map Prod.snd)
  | [], _ => .nil
  | p :: ps, h => .cons (h p List.mem_cons_self) (tups_of fun q hq => h q (List.mem_cons_of_mem _ hq))
def leK (kf : List Int → Int) : List Int → List Int → Bool := fun a b => decide (kf a ≤ kf b)
/-- what is sorted: a list or a dict's keys -/
def SrcT (K : Fg) (H : Hp) (a : Addr) (L : List (List Int)) : Prop := (∃ bs, SqL K H a (bs.map V.ref) ∧ Tups H L bs) ∨ ∃ kvs, Rd H a (.dT kvs) ∧ kvs.map (·.1) = L.map (·.map Sum.inl)
section
variable {X : Cx} {pinz : List (Addr × Obj)} {σ : L2.St} {H : Hp} {s : Shared} {a : Addr} {L : List (List Int)}
theorem keys_tups : ∀ {kvs : List (List Key × V)} {xs : List (List Key × Addr × Value)} {L : List (List Int)}, KT H kvs xs → kvs.map (·.1) = L.map (·.map Sum.inl) → Tups H L (xs.map fun x => x.2.1)
  | _, _, [], .nil, _ => .nil
  | _, _, n :: L, .cons h t, e => by
    rw [List.map_cons, List.map_cons] at e
    obtain ⟨e1, e2⟩ := List.cons.inj e
    refine .cons ?_ (keys_tups t e2)
    have q := h.2.1
    rw [e1, List.map_map] at q
    exact q
/-- its items, collected -/
theorem collect_src {A : Around} {E : Value → Shared → Prop} {R : List Value → Shared → Prop} (calm : A.handled = none) (I : Inv X pinz σ H s) (h : SrcT X.K H a L) (hz : L.length ≤ sizeLine)
    (k : ∀ (h' : Heap) (tk : Nat) (bs : List Addr), (∀ b o, s.heap.get? b = some o → h'.get? b = some o) → Tups H L bs → R (bs.map Value.ref) { s with heap := h', toks := tk }) : wpAny (model X.prog X.w) A (collect (.ref a)) R E s := by
  rcases h with ⟨bs, hs, ht⟩ | ⟨kvs, hd, ek⟩
  · obtain ⟨its, rv, pl, hl⟩ := I.list hs
    have ev := tups_vals rv
    subst ev
    refine collect_list pl.isList (k _ s.toks bs (fun b o e => ?_) ht) (by rw [List.length_map, ← ht.length]; exact hz)
    rw [Heap.get?_update_ne _ _ _ _ (Nat.ne_of_lt (Heap.lt_size e))]
    exact Heap.get?_push_of_some _ e
  · obtain ⟨z, lo, xs, pr, o, es, ep, ho, hx, hdt, he, hn⟩ := (show ObjOk X.prog X.w H s.heap a (.dT kvs) from rd_of I.hok hd)
    have l1 : es.size = xs.length := size_of_entries he
    have l2 : kvs.length = xs.length := Paired.length pr
    refine PySem.W.kdu_collect (kdl_raw lo hx hdt) calm ho (by omega) fun h' tk acc kp it => ?_
    have ea : acc.toList = (xs.map fun x => x.2.1).map Value.ref := by
      refine List.ext_getElem? fun j => ?_
      rw [List.map_map, List.getElem?_map]
      cases hj : acc.toList[j]? with
      | none =>
        have h1 := List.getElem?_eq_none_iff.mp hj
        have h2 : acc.toList.length = xs.length := by rw [Array.length_toList, it.1]; exact l1
        rw [List.getElem?_eq_none (by omega)]; rfl
      | some v =>
        obtain ⟨en, hen, hv⟩ := it.2 j v (by rw [← Array.getElem?_toList]; exact hj)
        have q := entry_at he j
        rw [hen] at q
        cases hb : xs[j]? with
        | none => rw [hb] at q; exact nomatch (show some en = none from q)
        | some b =>
          rw [hb] at q
          have e2 : en = entryOfKey (tupleKind (mixKind X.prog X.w)) b := Option.some.inj q
          rw [hv, e2]; rfl
    rw [ea]
    exact k h' tk _ kp (keys_tups pr ek)
/-- sorted(x, key=f) -/
def tSortK (K : Fg) (kf : List Int → Int) (te : TE) : TE := fun σ H Q => te σ H fun x H1 => ∃ a L, x = .ref a ∧ L.length ≤ sizeLine ∧ SrcT K H1 a L ∧ ∀ bs p, Tups H1 (L.mergeSort (leK kf)) bs → H1 p = none → Q (.ref p) (upd H1 p (.lst (bs.map V.ref)))
theorem each_refs {H : Hp} {ps : List (List Int × Addr)} : PySem.W.EachIs (fun (v : Value) (p : List Int × Addr) => v = Value.ref p.2) ((ps.map Prod.snd).map Value.ref) ps := by
  induction ps with
  | nil => exact .nil
  | cons p ps ih => exact .cons rfl ih
theorem each_back {out : List Value} {ps : List (List Int × Addr)} (h : PySem.W.EachIs (fun (v : Value) (p : List Int × Addr) => v = Value.ref p.2) out ps) : out = (ps.map Prod.snd).map Value.ref := by
  induction h with
  | nil => rfl
  | cons e _ ih => rw [e, ih]; rfl
theorem sort_src {id : String} {kf : List Int → Int} {Q : VK} (hk : KeyT id kf) (hr : X.A.units + 64 < cLine) (calm : X.A.handled = none) (I : Inv X pinz σ H s) (h : SrcT X.K H a L) (hz : L.length ≤ sizeLine)
    (ha1 : argsOk "sorted" ⟨[.ref a], [(Str.ofString "key", .builtin id)]⟩) (ha2 : ∀ x, argsOk "list.sort" ⟨[.ref x], [(Str.ofString "key", .builtin id)]⟩)
    (q : ∀ bs p, Tups H (L.mergeSort (leK kf)) bs → H p = none → Q (.ref p) (upd H p (.lst (bs.map V.ref)))) : wpAny (model X.prog X.w) X.A (call (.builtin "sorted") [.ref a] [(Str.ofString "key", .builtin id)]) (EP X pinz σ Q) X.xe s := by
  refine call_function_entry_kw kind_sorted plain_sorted entry_sorted ha1 ?_
  unfold Builtin.«sorted»
  refine wpAny_bind (m := checkCount "sorted" 1 1 _) (wpAny_pure ?_)
  refine wpAny_bind (collect_src (A := X.A.in1) calm I h hz fun h' tk bs kp ht => ?_)
  obtain ⟨ps, e1, e2, hp⟩ := tups_zip ht
  have lb : bs.length ≤ sizeLine := by rw [← ht.length]; exact hz
  refine wpAny_bind (wpAny_newList ?_ (by rw [List.length_map]; exact lb))
  obtain ⟨l, hl⟩ : ∃ l, l = h'.objs.size := ⟨_, rfl⟩
  have at0 : (h'.push (seqObj "list" (bs.map Value.ref).toArray 0)).get? l = some (seqObj "list" (bs.map Value.ref).toArray 0) := by rw [hl]; exact Heap.get?_push_size _ rfl
  have old : ∀ b o, s.heap.get? b = some o → b ≠ l ∧ (h'.push (seqObj "list" (bs.map Value.ref).toArray 0)).get? b = some o := fun b o e =>
    ⟨by rw [hl]; exact Nat.ne_of_lt (Heap.lt_size (kp b o e)), Heap.get?_push_of_some _ (kp b o e)⟩
  show wpAny _ _ (holding [Value.ref h'.objs.size] (call (.builtin "list.sort") [Value.ref h'.objs.size] _) >>= _) _ _ { s with heap := h'.push (seqObj "list" (bs.map Value.ref).toArray 0), toks := tk }
  rw [← hl]
  have ew := each_refs (H := H) (ps := ps)
  rw [e2] at ew
  have lp : ps.length = bs.length := by rw [← e2, List.length_map]
  refine wpAny_bind (wpAny_holding (PySem.W.list_sort_key_data (b := false) (s := { s with heap := h'.push (seqObj "list" (bs.map Value.ref).toArray 0), toks := tk }) (fun p : List Int × Addr => .int (kf p.1)) at0 ew
    (PySem.W.AllAlike.of fun _ _ => by simp [PySem.W.alike]) (PySem.W.Sortable.others fun _ => ⟨(fun z => nomatch z), (fun _ z => nomatch z)⟩) (by rw [lp]; exact lb) (fun p _ => ?_) (ha2 _) (ksk_t4 _ _) (fun v p ev hm h2 tk2 k2 => ?_) fun out c h2 tk2 k2 hD hlen eo => ?_))
  · show X.A.in1.units + 1 + 0 < cLine
    show X.A.units + 1 + 1 + 0 < cLine
    omega
  · subst ev
    obtain ⟨z, its, rv, o, g1, g2, n, g3⟩ := (show ObjOk X.prog X.w H s.heap p.2 (.tup (p.1.map V.int)) from I.hok _ _ (hp p hm))
    have g0 := old _ _ g1
    exact hk _ _ _ _ p.2 its p.1 calm ⟨o, k2 _ _ g0.1 g0.2, g2, n, g3⟩ (intsAre_of rv) (by have := rv.length; omega)
  · rw [PySem.W.dataLe_int] at eo
    have ew2 := each_back eo
    refine wpAny_pure ⟨_, rfl, ?_⟩
    have perm := List.mergeSort_perm ps fun a b => decide (kf a.1 ≤ kf b.1)
    have em : (ps.mergeSort fun a b => decide (kf a.1 ≤ kf b.1)).map Prod.fst = L.mergeSort (leK kf) := by
      rw [← e1]
      exact List.map_mergeSort (r := fun a b => decide (kf a.1 ≤ kf b.1)) (s := leK kf) (f := Prod.fst) (l := ps) fun a _ b _ => rfl
    have ht2 : Tups H (L.mergeSort (leK kf)) ((ps.mergeSort fun a b => decide (kf a.1 ≤ kf b.1)).map Prod.snd) := by
      rw [← em]
      exact tups_of fun p hm => hp p (perm.mem_iff.mp hm)
    have J1 : Inv X pinz σ H { s with heap := h', toks := tk } := I.kept kp
    refine ⟨.ref l, upd H l (.lst (((ps.mergeSort fun a b => decide (kf a.1 ≤ kf b.1)).map Prod.snd).map V.ref)), J1.laid (t' := tk2) (fun b o e => ?_) (Nat.le_of_eq hl.symm) ⟨by rw [List.length_map, List.length_map, List.length_mergeSort, lp]; exact lb, out, c, by rw [ew2]; exact tups_refs _, hD⟩, rfl, q _ _ ht2 (J1.hok.fresh (Nat.le_of_eq hl.symm))⟩
    exact k2 b o (by rw [hl]; exact Nat.ne_of_lt (Heap.lt_size e)) (Heap.get?_push_of_some _ e)
theorem pe_sortK {k : Str} {id : String} {kf : List Int → Int} {e : Expr} {te : TE} {p kp kpos pos : Pos} (hk : KeyT id kf) (hm : X.mg "sorted" = none) (hmk : X.mg k = none) (hvk : bootBuiltins k = some (.builtin id)) (hr : X.A.units + 64 < cLine) (calm : X.calm = true) (he : PE X e te)
    (hg : Gl X "sorted" := by rfl) (hgk : Gl X k := by rfl) (hn : k ≠ "__name__" := by decide) (hd : (k == ("__debug__" : Str)) = false := by decide)
    (hs : starEach [e] X.env = (false, eval e X.env) :: starEach [] X.env := by rfl) (hb : backTo pos (starEach [e] X.env) = (false, eval e X.env) :: backTo pos (starEach [] X.env) := by rfl) (hpl : (backTo pos (starEach [e] X.env)).any (·.1) = false := by rfl)
    (hall : (backToKw pos (keywordEach [⟨some "key", .Name k kp, kpos⟩] X.env)).all (·.1.isSome) = true := by rfl) (hnone : (backToKw pos (keywordEach [⟨some "key", .Name k kp, kpos⟩] X.env)).any (·.1.isNone) = false := by rfl)
    (hks : (backToKw pos (keywordEach [⟨some "key", .Name k kp, kpos⟩] X.env)).filterMap (·.1) = [Str.ofString "key"] := by rfl) : PE X (.Call (.Name "sorted" p) [e] [⟨some "key", .Name k kp, kpos⟩] pos) (tSortK X.K kf te) := by
  refine ⟨fun pins s σ H Q I h => ?_⟩
  refine wpAny_Call_Name_kw (ld_blt I hg hm (show bootBuiltins "sorted" = some (.builtin "sorted") by decide +kernel) ?_)
  let R : V → Hp → Prop := fun x H1 => ∃ a L, x = .ref a ∧ L.length ≤ sizeLine ∧ SrcT X.K H1 a L ∧ ∀ bs p, Tups H1 (L.mergeSort (leK kf)) bs → H1 p = none → Q (.ref p) (upd H1 p (.lst (bs.map V.ref)))
  have h' : tCons te tNil σ H (fun vs H1 => match vs with | [x] => R x H1 | _ => False) := h
  refine PyProof.Rows.callWith_kw (thn ((pa_cons he pa_nil hs).run pos pins s σ H _ I h') fun us s1 ⟨vs, H1, I1, r1, w⟩ => ?_) hb hpl hall hnone
  · match vs, w with
    | [x], w =>
    obtain ⟨a, L, ex, hz, src, q⟩ := w
    subst ex
    obtain rfl := Vals.ref1 r1
    show wpAny _ _ (evalAll ((do let v ← eval (.Name k kp) X.env; standAt pos; pure v) :: [])) _ _ s1
    refine wpAny_evalAll_cons (wpAny_bind (ld_blt I1 hgk hmk hvk (wpAny_bind (wpAny_standAt (wpAny_pure (wpAny_evalAll_nil ?_)))) hn hd))
    rw [hks]
    exact sort_src hk hr (I1.ok.hd calm) I1 src hz (ksk_s1 _ _) (fun _ => ksk_l1 _ _) q
/-! ### the same by content -/
def tuI (ns : List Int) : DV := .tup (ns.map DV.int)
theorem rds_tuI {K : Fg} {H : Hp} : ∀ {L : List (List Int)} {vs : List V}, RDs K H (L.map tuI) vs → ∃ bs, vs = bs.map V.ref ∧ Tups H L bs
  | [], _, h => by cases h; exact ⟨[], rfl, .nil⟩
  | n :: L, _, h => by
    cases h with
    | cons h1 h2 =>
      obtain ⟨bs, e, ht⟩ := rds_tuI h2
      cases h1 with
      | @tup b xs _ hs hr =>
        refine ⟨b :: bs, by rw [e]; rfl, .cons ?_ ht⟩
        rw [hs, hr.ints]
theorem tuI_rds {K : Fg} {H : Hp} : ∀ {L : List (List Int)} {bs : List Addr}, Tups H L bs → RDs K H (L.map tuI) (bs.map V.ref)
  | _, _, .nil => .nil
  | _, _, .cons h t => .cons (.tup h (RDs.ofInts _)) (tuI_rds t)
/-- tuples of ints in a list, or as the keys of a dict -/
def ItT (g : DG) (x : DV) (L : List (List Int)) : Prop := lstD g x = some (L.map tuI) ∨ (∃ vs, x = .dT (L.map (·.map Sum.inl)) vs) ∨ ∃ p vs, x = .ref p ∧ g p = some (.dT (L.map (·.map Sum.inl)) vs)
theorem itT_src {K : Fg} {H : Hp} {g : DG} {x : DV} {v : V} {L : List (List Int)} (rg : RG K H g) (r : RD K H x v) (h : ItT g x L) : ∃ a, v = .ref a ∧ SrcT K H a L := by
  rcases h with h | ⟨vs, rfl⟩ | ⟨p, vs, rfl, e⟩
  · obtain ⟨a, vs, rfl, hq, hr, _⟩ := lstD_of rg r h
    obtain ⟨bs, rfl, ht⟩ := rds_tuI hr
    exact ⟨a, rfl, .inl ⟨bs, hq, ht⟩⟩
  · cases r with
    | dT hs hr =>
      obtain ⟨o, kvs, e, e1, e2⟩ := hs
      exact ⟨_, rfl, .inr ⟨kvs, .inr ⟨o, e⟩, e1⟩⟩
  · cases r
    obtain ⟨kvs, q, e1, _⟩ := rg _ _ e
    exact ⟨_, rfl, .inr ⟨kvs, .inl q, e1⟩⟩
def skK (kf : List Int → Int) (Q : DV → DG → Prop) (x : DV) (g : DG) : Prop := ∃ L, ItT g x L ∧ L.length ≤ sizeLine ∧ Q (.lst ((L.mergeSort (leK kf)).map tuI)) g
def dSK (kf : List Int → Int) (te : TDE) : TDE := fun δ g Q => te δ g fun x g1 => skK kf Q x g1
theorem pd_sortK {k : Str} {id : String} {kf : List Int → Int} {e : Expr} {te : TDE} {p kp kpos pos : Pos} (hk : KeyT id kf) (hm : X.mg "sorted" = none) (hmk : X.mg k = none) (hvk : bootBuiltins k = some (.builtin id)) (hr : X.A.units + 64 < cLine) (calm : X.calm = true) (he : PE X e (upE X.K te))
    (hg : Gl X "sorted" := by rfl) (hgk : Gl X k := by rfl) (hn : k ≠ "__name__" := by decide) (hd : (k == ("__debug__" : Str)) = false := by decide)
    (hs : starEach [e] X.env = (false, eval e X.env) :: starEach [] X.env := by rfl) (hb : backTo pos (starEach [e] X.env) = (false, eval e X.env) :: backTo pos (starEach [] X.env) := by rfl) (hpl : (backTo pos (starEach [e] X.env)).any (·.1) = false := by rfl)
    (hall : (backToKw pos (keywordEach [⟨some "key", .Name k kp, kpos⟩] X.env)).all (·.1.isSome) = true := by rfl) (hnone : (backToKw pos (keywordEach [⟨some "key", .Name k kp, kpos⟩] X.env)).any (·.1.isNone) = false := by rfl)
    (hks : (backToKw pos (keywordEach [⟨some "key", .Name k kp, kpos⟩] X.env)).filterMap (·.1) = [Str.ofString "key"] := by rfl) : PE X (.Call (.Name "sorted" p) [e] [⟨some "key", .Name k kp, kpos⟩] pos) (upE X.K (dSK kf te)) := by
  refine PE_weak (PE_fz (pe_sortK hk hm hmk hvk hr calm he hg hgk hn hd hs hb hpl hall hnone hks)) fun σ H Q ⟨δ, g, P, rs, rg, h, kk⟩ => ⟨δ, g, _, rs, rg, h, fun x g1 v H1 e1 rg1 rd1 ⟨L, hi, hz, h1⟩ => ?_⟩
  obtain ⟨a, rfl, hsrc⟩ := itT_src rg1 rd1 hi
  exact ⟨a, L, rfl, hz, hsrc, fun bs q ht hq => fz_new (P := P) rg1 hq (tuI_rds ht) (fun d g' w H' e2 rg' rd' p' => kk d g' w H' (e1.trans e2) rg' rd' p') h1⟩
end
end DL

/-! Deep layer O: sorted(set(xs)), xs a list or a tuple of tuples of ints. -/
namespace L2
open PyProof.Rows PySem.Spec PySem
section
variable {P : Program} {u : World} {A : Around} {E : Value → Shared → Prop} {s : Shared}
end
end L2

/-! Deep layer P: sorted(set(xs)) of tuples of ints, by content. -/
namespace DL
open PySem PySem.Spec PyProof.Rows L2
section
variable {X : Cx} {pos : Pos} {a : Expr} {ta : TDE}
end
end DL

/-! Deep layer Q: walks over instances: __iter__ that hands out a tuple's iterator. -/
namespace DL
open PySem PySem.Spec PyProof.Rows L2
/-! ### a def that is called at a known size of the heap -/
def FnAt (P : Program) (w : World) (K : Fg) (mg : Str → Option Value) (base : Heap) (k : Nat) (f : Addr) (sp : Nat → Sp) : Prop :=
  ∀ (A : Around) (outer : List Env) (s : Shared) (H : Hp) (us : List Value) (vs : List V) (Q : VK), Room k A → Env0 P w K mg base A outer s H → Vals vs us → sp s.heap.objs.size vs H Q (fun _ _ _ => False) →
    codeAny (model P w) A (.call (.ref f) ⟨us, []⟩) (CR CX0 outer P w H s Q fun _ _ _ => False) s
theorem fun_at {P : Program} {w : World} {K : Fg} {mg : Str → Option Value} {base : Heap} {x qual : Str} {st : Stmt} {f : Addr} {fd : FuncData} {N ps : List Str} {k : Nat} {sp : Nat → Sp} (F : Fun K x qual st f fd) (bd : Binds K fd ps []) (S : FnScope N ps (defScope st))
    (len : ∀ n vs H Q E, sp n vs H Q E → vs.length = ps.length)
    (hbody : ∀ (cdv : Value) (A : Around) (outer : List Env) (s : Shared) (H : Hp) (vs : List V) (Q : VK), Room k (A.deeper (envOfC qual (defScope st) s.heap.objs.size f cdv)) → sp s.heap.objs.size vs H Q (fun _ _ _ => False) →
      ∃ t, PSs (cxOf CX0 P w K mg base N qual (defScope st) f cdv A outer s H fun _ _ _ => False).nox (defBody st) t ∧ t { nx := fun _ H' => Q .non H', rt := Q } (L2.start N vs) H) : FnAt P w K mg base (k + 1) f sp := by
  intro A outer s H us vs Q hr e0 rv hsp
  obtain ⟨oc, od, kV, doc, pm, an, cdv, ct, osl, rfl, lk, hcd⟩ := F.ex
  have old : ∀ b o, base.get? b = some o → s.heap.get? b = some o := fun b o e => (e0.bs b o e).1
  have KX := e0.mod.kin.keeps old
  have hl : us.length = ps.length := rv.length.symm.trans (len _ _ _ _ _ hsp)
  have hb := bd s us KX (by rw [List.append_nil]; exact hl)
  rw [List.append_nil] at hb
  have names : ∀ y ∈ ps.zip us, (defScope st).names.lookup y.1 = some .local ∨ ((defScope st).names.lookup y.1 = some .cell ∧ ((cellsFrom (s.heap.objs.size + 1) (defScope st).names []).lookup y.1).isSome = true) := fun ⟨n, v⟩ hy =>
    (S.par n (List.of_mem_zip hy).1).imp id fun q => ⟨q, PySem.W.cellsFrom_some _ _ _ (.inl q)⟩
  refine codeAny_call_function hr.depth (KX _ _ lk) rfl S.co S.gen rfl (PySem.W.codeRec_of KX hcd) (hb _ _ _ _ (wpAny_newFunctionEnv_cells S.kind names fun env he s1 z => ?_))
  subst he
  refine ⟨(e0.mod.nolimit.keeps old).keeps z.toInCall.keep, codeAny_func ?_⟩
  obtain ⟨t, ht, hq⟩ := hbody cdv A outer s H vs Q (hr.deeper _) hsp
  have J0 := inv_start (CX := CX0) (E := fun _ _ _ => False) S hr.hd e0 (len _ _ _ _ _ hsp) rv z
  refine wpAny_mono (ht.nox.run [] s1 (L2.start N vs) H _ J0 hq) (fun fl s' w => ?_) fun e s' w => w
  cases fl with
  | ret u => obtain ⟨v, σ', H', J, r, q⟩ := w; exact ⟨v, H', J.os, J.bare, J.base, J.hok, r, q⟩
  | next => obtain ⟨σ', H', J, q⟩ := w; exact ⟨.non, H', J.os, J.bare, J.base, J.hok, rfl, q⟩
  | brk => obtain ⟨_, _, _, q⟩ := w; exact False.elim q
  | cont => obtain ⟨_, _, _, q⟩ := w; exact False.elim q
/-! ### a tuple's iterator at its start -/
section
variable {X : Cx} {C f : Addr} {i n : Nat} {tgx e : Expr} {te : TE}
end
end DL

/-! Deep layer U: enumerate(a tuple), comprehensions of two clauses, texts, t * k. -/
namespace L2.EnT
open PySem PySem.Spec PyProof.Rows
open PySem.AutoSeq1 (wpAny_loadPart')
theorem new_tup (l : Addr) (items : Array Value) (n : Nat) (dct : Option Addr) (sl : Array (Option Value)) :
    Meets (Builtin.«enumerate.__new__» ⟨[.type "enumerate", .ref l], []⟩) (fun _ R s => s.heap.get? l = some { cls := .type "tuple", dict := dct, data := .seq items n, slots := sl } ∧
      R (.ok (.ret (.ref (s.heap.objs.size + 1)))) { s with heap := (s.heap.push { cls := .type "tuple_iterator", data := .fields #[.ref l, .int 0 0] }).push { cls := .type "enumerate", data := .fields #[.none, .bool false, .ref s.heap.objs.size, rawInt 0, .none, .none] } }) :=
  .of_wp fun prog w A R s q => by
    obtain ⟨hp, g, d, tk, os⟩ := s
    obtain ⟨at0, q⟩ := q
    have ez : (hp.push { cls := .type "tuple_iterator", data := .fields #[.ref l, .int 0 0] }).objs.size = hp.objs.size + 1 := Heap.size_push ..
    replace q : R (.ok (.ret (.ref (hp.push { cls := .type "tuple_iterator", data := .fields #[.ref l, .int 0 0] }).objs.size))) ⟨(hp.push { cls := .type "tuple_iterator", data := .fields #[.ref l, .int 0 0] }).push { cls := .type "enumerate", data := .fields #[.none, .bool false, .ref hp.objs.size, rawInt 0, .none, .none] }, g, d, tk, os⟩ := by rw [ez]; exact q
    have es := sub_enumerate
    have tup : Heap.IsTuple (Shared.heap ⟨hp, g, d, tk, os⟩) l items := ⟨_, at0, rfl, n, rfl⟩
    wp_walk using wpAny_loadPart' at0
    refine wpAny_stack_any fun st => wpAny_pure ?_
    split
    · rename_i c _ _ _ _ _
      cases (c == Value.type "enumerate") <;> (wp_walk using wpAny_loadPart' at0, wpAny_pyIter_tuple tup; exact ⟨_, rfl, q⟩)
    · wp_walk using wpAny_loadPart' at0, wpAny_pyIter_tuple tup
      exact ⟨_, rfl, q⟩
theorem call_tup {prog : Program} {w : World} {A : Around} {E : Value → Shared → Prop} {s : Shared} {l : Addr} {items : Array Value} {Q : Value → Shared → Prop} (tup : s.heap.IsTuple l items)
    (h : ∀ h', IsEnum h' (s.heap.objs.size + 1) s.heap.objs.size 0 .none → h'.IsTupleIter s.heap.objs.size l 0 → (∀ b o, s.heap.get? b = some o → h'.get? b = some o) → Q (.ref (s.heap.objs.size + 1)) { s with heap := h' }) :
    wpAny (model prog w) A (call (.type "enumerate") [.ref l]) Q E s := by
  obtain ⟨⟨c, dct, dt, sl⟩, at0, hc, n, hd⟩ := tup
  simp only at hc hd
  subst hc hd
  refine callType_new F.called_enumerate (by decide) (F.typeCall_enumerate_1 _) (F.newCall_enumerate_1 _) (fun obj => F.args_object_init_2 obj _) F.entry_enumerate_new (new_tup l items n dct sl) ⟨at0, ?_⟩
  have ez : (s.heap.push { cls := .type "tuple_iterator", data := .fields #[.ref l, .int 0 0] }).objs.size = s.heap.objs.size + 1 := Heap.size_push ..
  have en : IsEnum ((s.heap.push { cls := .type "tuple_iterator", data := .fields #[.ref l, .int 0 0] }).push { cls := .type "enumerate", data := .fields #[.none, .bool false, .ref s.heap.objs.size, rawInt 0, .none, .none] }) (s.heap.objs.size + 1) s.heap.objs.size 0 .none := by
    rw [← ez]; exact Heap.get?_push_size _ rfl
  exact ⟨⟨_, en, rfl⟩, h _ en ⟨_, Heap.get?_push_of_some _ (Heap.get?_push_size _ rfl), rfl, rfl⟩ fun b o x => Heap.get?_push_of_some _ (Heap.get?_push_of_some _ x)⟩
/-- the tuple at a, its items numbered -/
def ItE (K : PySem.W.Frag) (a : Addr) : It :=
  ⟨fun i H => ∃ xs x, SqT K H a xs ∧ xs[i]? = some x, fun i H y H' => ∃ T x, y = .ref T ∧ H T = none ∧ H' = upd H T (.tup [.int (i : Nat), x]) ∧ ∀ xs, SqT K H a xs → xs[i]? = some x, fun i H => ∃ xs, SqT K H a xs ∧ xs.length ≤ i⟩
theorem apart {s : Shared} {a e it : Addr} {i : Nat} {k : Int} {old : Value} {its : List Value} (he : IsEnum s.heap e it k old) (hi : s.heap.IsTupleIter it a i) (p : IsTup s.heap a its.toArray) : a ≠ e ∧ a ≠ it := by
  obtain ⟨o, h1, h2, _⟩ := p
  obtain ⟨oi, i1, i2, _⟩ := hi
  have he : s.heap.get? e = some _ := he
  refine ⟨fun z => ?_, fun z => ?_⟩
  · rw [z, he] at h1; cases h1; exact absurd (show Value.type "enumerate" = Value.type "tuple" from h2) (by decide)
  · rw [z, i1] at h1; cases h1; rw [i2] at h2; exact absurd h2 (by decide)
theorem turn {P : Program} {w : World} {K : PySem.W.Frag} {elts : List Expr} {kk : Nat} {tpos : Pos} (a e it : Addr) :
    Turn P w K (.Tuple elts kk tpos) (ItE K a) [e, it] e (fun i h => (∃ old, IsEnum h e it ((i : Nat) : Int) old) ∧ h.IsTupleIter it a i ∧ e ≠ it) where
  mem := by simp
  obj := fun i h st b hb => by
    obtain ⟨⟨old, he⟩, ⟨o, ho, hc, hd⟩, _⟩ := st
    rcases (show b = e ∨ b = it by simpa using hb) with z | z
    · rw [z]; exact ⟨_, he, fun v q => nomatch q⟩
    · rw [z]; exact ⟨o, ho, fun v q => by rw [hd] at q; cases q⟩
  keep := fun i h h' st k => let ⟨⟨old, he⟩, hi, ne⟩ := st; ⟨⟨old, k e (by simp) _ he⟩, hi.at fun o q => k it (by simp) o q, ne⟩
  item := by
    intro X hP hw hK hc i pins s σ H E I hf st hg
    subst hP hw hK
    obtain ⟨⟨old, he⟩, hit, ne⟩ := st
    obtain ⟨xs, x, hq, hx⟩ := hg
    obtain ⟨its, rv, p, hz⟩ := I.tuple hq
    obtain ⟨u, hu, ru⟩ := rv.get hx
    obtain ⟨ae, ai⟩ := apart he hit p
    have tup : s.heap.IsTuple a its.toArray := p
    have D := Draws.tuple (prog := X.prog) (w := X.w) (A := X.A.in1) (by show X.A.in1.handled = none; exact I.ok.hd hc) it a ai its.toArray
    have le : e < s.heap.objs.size := Heap.lt_size he
    have li : it < s.heap.objs.size := by obtain ⟨_, q, _⟩ := hit; exact Heap.lt_size q
    have lt : i < its.toArray.size := by
      have := (List.getElem?_eq_some_iff.mp hu).1
      rw [List.size_toArray]; exact this
    refine wpAny_pyNext_enum_itemD D he ⟨hit, tup⟩ lt ne (by simp [ne, Ne.symm ae]) fun z h' tk hz2 ho hst hT hsz hk => ?_
    have ez : z = u := by
      have q : its.toArray[i]? = some z := hz2
      rw [List.getElem?_toArray, hu] at q
      exact (Option.some.inj q).symm
    subst ez
    refine ⟨_, rfl, wpAny_letOwnedTupleGo_enum (s := { s with heap := h', toks := tk + 1 }) ho fun h2 he2 sb => ?_⟩
    have hT2 : h2.get? s.heap.objs.size = some { cls := .type "tuple", data := .seq #[.int i tk, z] } := (sb.2 _ (Nat.ne_of_gt le)).trans hT
    have new : ObjOk X.prog X.w (upd H s.heap.objs.size (.tup [.int (i : Nat), x])) h2 s.heap.objs.size (.tup [.int (i : Nat), x]) :=
      ⟨by show 2 ≤ sizeLine; decide, [.int i tk, z], .cons ⟨_, rfl⟩ (.cons ru .nil), ⟨_, hT2, rfl, _, rfl⟩⟩
    have J : Inv X pins σ (upd H s.heap.objs.size (.tup [.int (i : Nat), x])) { s with heap := h2, toks := tk + 1 } :=
      I.turnedNew (ch := [e, it]) (fun b ob hb q => (sb.2 b (fun z => hb (by simp [z]))).trans (hk b ob (fun z => hb (by simp [z])) (fun z => hb (by simp [z])) q)) hf (Nat.le_refl _) new
    refine ⟨.ref s.heap.objs.size, _, J, rfl, ⟨_, x, rfl, I.hok.fresh (Nat.le_refl _), rfl, fun ys hy => by rw [I.tuple_inj hy hq]; exact hx⟩, ⟨⟨z, ?_⟩, hst.1.at fun o q => (sb.2 it (Ne.symm ne)).trans q, ne⟩, fun b hb => ?_⟩
    · have e1 : ((i + 1 : Nat) : Int) = (i : Int) + 1 := by omega
      rw [e1]; exact he2
    · have hb' : b < s.heap.objs.size := by
        rcases (show b = e ∨ b = it by simpa using hb) with z | z
        · rw [z]; exact le
        · rw [z]; exact li
      rw [upd_ne (Nat.ne_of_lt hb')]
      exact (hf b hb).1
  done := by
    intro X hP hw hK hc i pins s σ H E I hf st hg
    subst hP hw hK
    obtain ⟨⟨old, he⟩, hit, ne⟩ := st
    obtain ⟨xs, hq, hx⟩ := hg
    obtain ⟨its, rv, p, hz⟩ := I.tuple hq
    obtain ⟨ae, ai⟩ := apart he hit p
    obtain ⟨f0, f1, f2, f3, f4, f5⟩ := hf it (by simp)
    have tup : s.heap.IsTuple a its.toArray := p
    have hd := I.ok.hd hc
    have hT : s.TypeIs (.ref e) "enumerate" := ⟨_, he, rfl⟩
    unfold pyNext
    refine wpAny_bind (wpAny_attempt (wpAny_callSpecial?_slot (name := Str.ofString "__next__") hT F.slot_enumerate_next (wpAny_call_entry F.slot_enumerate_next hT F.entry_enumerate_next ?_ (F.args_enumerate_next_1 _))))
    show wpAny _ _ (field (.ref e) 2 >>= _) _ _ _
    refine wpAny_bind (wpAny_field he rfl (x := .ref it) rfl ?_)
    refine wpAny_bind (wpAny_nextOf_tuple_end hd hit tup (by have := rv.length; rw [List.getElem?_toArray]; exact List.getElem?_eq_none (by omega)) fun h' y ex hy => ?_)
    obtain ⟨o, ho, hc'⟩ := hy
    refine wpAny_bind (wpAny_isInstance (T := "StopIteration") (b := true) ⟨o, ho, hc'⟩ isSubtype_stop ?_)
    exact wpAny_pure ⟨rfl, I.turned (t' := s.toks) (fun b o hb q => ex b o hb q) f0 f1 f3 f4 f5⟩
  self := fun A i s Q E st h => let ⟨⟨_, he⟩, _⟩ := st; wpAny_pyIter_enum he h
def iEnT (K : PySem.W.Frag) (ta : TA) : TI := fun σ H R => ta σ H fun vs H1 => ∃ a xs, vs = [.ref a] ∧ SqT K H1 a xs ∧ R (ItE K a) H1
theorem pi_enT {X : Cx} {e : Expr} {ta : TA} {p pos tpos : Pos} {elts : List Expr} {kk : Nat} (hg : Gl X "enumerate") (hm : X.mg "enumerate" = none) (ha : PA X [e] ta) (hs : starEach [e] X.env = [(false, eval e X.env)] := by rfl) :
    PI X (.Tuple elts kk tpos) (.Call (.Name "enumerate" p) [e] [] pos) (iEnT X.K ta) := by
  refine ⟨fun pins s σ H R I h => ?_⟩
  refine Call_ (ld_blt I hg hm boot_enumerate (PyProof.Rows.callWith_type1 (thn (ha.run pos pins s σ H _ I h) fun us s1 ⟨vs, H1, I1, r1, a, xs, ex, hq, q⟩ => ?_) hs rfl))
  subst ex
  obtain ⟨u, rfl, ru⟩ := vals1 r1
  cases ru
  obtain ⟨its, rv, p', hz⟩ := I1.tuple hq
  refine call_tup (show s1.heap.IsTuple a its.toArray from p') fun h' he hit hk => wpAny_pyIter_enum he ?_
  refine ⟨s1.heap.objs.size + 1, [s1.heap.objs.size + 1, s1.heap.objs.size], _, _, H1, rfl, I1.kept (t' := s1.toks) hk, turn a (s1.heap.objs.size + 1) s1.heap.objs.size, ⟨⟨.none, he⟩, hit, Nat.succ_ne_self _⟩, fun b hb => ?_, q⟩
  have hle : s1.heap.objs.size ≤ b := by
    rcases (show b = s1.heap.objs.size + 1 ∨ b = s1.heap.objs.size by simpa using hb) with z | z
    · rw [z]; exact Nat.le_add_right _ _
    · rw [z]; exact Nat.le_refl _
  exact I1.fpOk hle (I1.hok.fresh hle)
end L2.EnT

/-! Deep layer V: enumerate(a tuple), comprehensions of two clauses, texts, t * k: by content. -/
namespace DL
open PySem PySem.Spec PyProof.Rows L2 Builtin
section
variable {X : Cx} {pos : Pos}
/-! ### enumerate(t) -/
def enD (ds : List DV) : List DV := zipD (rangeD 0 ds.length) ds
theorem rangeD_len' (n : Nat) : (rangeD 0 n).length = n := by simp only [rangeD, List.length_map, List.length_range]
theorem rangeD_at' {n j : Nat} {d : DV} (h : (rangeD 0 n)[j]? = some d) : d = .int (j : Int) := by
  have hl := (List.getElem?_eq_some_iff.mp h).1
  rw [rangeD_len'] at hl
  simp only [rangeD, List.getElem?_map, List.getElem?_range hl] at h
  have z := Option.some.inj h
  rw [← z]
  show DV.int (0 + (j : Int)) = _
  rw [Int.zero_add]
theorem enD_len (ds : List DV) : (enD ds).length = ds.length := by
  unfold enD
  rw [zipD_len, rangeD_len', Nat.min_self]
theorem dwalk_enT {K : Fg} {H : Hp} {a : Addr} {xs : List DV} {vs : List V} (ha : SqT K H a vs) (ra : RDs K H xs vs) : DWalk K (EnT.ItE K a) (enD xs) H := by
  have l1 := ra.length
  have hl := enD_len xs
  refine ⟨fun i H' hi k => ?_, fun H' k => ⟨vs, k.sqT ha, by omega⟩, fun i H1 x H' d hd k y => ?_⟩
  · have h1 : i < vs.length := by omega
    exact ⟨vs, vs[i], k.sqT ha, by simp [h1]⟩
  · obtain ⟨T, v, h1, h2, h3, h4⟩ := y
    obtain ⟨x', y', e1, e2, rfl⟩ := zipD_get hd
    have ex := rangeD_at' e1
    subst ex
    have q1 := h4 vs (k.sqT ha)
    obtain ⟨v', e1', r1⟩ := ra.get e2
    rw [q1] at e1'; cases e1'
    have kk : Kp H1 H' := by rw [h3]; exact Kp.fresh h2
    refine ⟨.inr ⟨T, _, h2, h3⟩, ?_⟩
    rw [h1]
    exact .tup (by rw [h3]; exact upd_same) (.cons (.int _) (.cons ((r1.mono k).mono kk) .nil))
def enK (R : List DV → DG → Prop) (xs : List DV) (g : DG) : Prop := match xs with | [.tup ds] => R (enD ds) g | _ => False
def wEnT (ta : TDA) : TDI := fun δ g R => ta δ g fun xs g1 => enK R xs g1
theorem pid_enT {e : Expr} {ta : TDA} {p pos tpos : Pos} {elts : List Expr} {kk : Nat} (hm : X.mg "enumerate" = none) (ha : PA X [e] (upA X.K ta)) (hg : Gl X "enumerate" := by rfl) (hs : starEach [e] X.env = [(false, eval e X.env)] := by rfl) :
    PI X (.Tuple elts kk tpos) (.Call (.Name "enumerate" p) [e] [] pos) (upI X.K (wEnT ta)) := by
  refine PI_weak (EnT.pi_enT hg hm ha hs) fun σ H R ⟨δ, g, P, rs, rg, h, k⟩ => ⟨δ, g, _, rs, rg, h, fun xs g1 vs H1 e1 rg1 rd1 h1 => ?_⟩
  unfold enK at h1
  split at h1
  · obtain ⟨v, rfl, rx⟩ := rd1.inj1
    cases rx with
    | tup hs hr => exact ⟨_, _, rfl, SqT.of hs, k _ _ _ _ e1 rg1 (dwalk_enT (SqT.of hs) hr) h1⟩
  · exact h1.elim
/-! ### [e for x in .. for y in ..] -/
variable {elt iter iter1 tgx tgx1 : Expr} {ifs ifs1 : List Expr} {scope : Scope} {own : List (Str × Nat)} {vs1 : List Nat} {wi wi1 : TDI} {tg tg1 : Tg} {tt tt1 : TDT} {tel : TDE}
/-! ### texts -/
variable {e : Expr} {es : List Expr} {te : TDE} {ta : TDA}
/-! ### t * k -/
end
end DL

/-! Deep layer W: sep.join(xs), str(x) of an instance, t * 1. -/
namespace L2.MulT
open PySem PySem.Spec PyProof.Rows
open PySem.AutoSeq1 (wpAny_loadPart')
theorem mul_one (l : Addr) (items : Array Value) (n : Nat) (dd : Option Addr) (sl : Array (Option Value)) (u : Tok) :
    Meets (Builtin.«tuple.__mul__» ⟨[.ref l, .int 1 u], []⟩) (fun _ R s => s.heap.get? l = some { cls := .type "tuple", dict := dd, data := .seq items n, slots := sl } ∧ R (.ok (.ret (Value.ref l))) s) :=
  .of_wp fun prog w A R s h => by
    obtain ⟨hp, g, d, tk, os⟩ := s
    obtain ⟨at0, h⟩ := h
    have f1 := AutoSeq1.idx_int
    have c : (items.isEmpty || (1 : Int) == 1) = true := by simp
    wp_walk using wpAny_loadPart' at0
    repeat (first
      | (refine wpAny_ite_false (by decide) ?_; wp_walk using wpAny_loadPart' at0)
      | (refine wpAny_ite_true (by simp) ?_; wp_walk using wpAny_loadPart' at0))
    all_goals exact ⟨_, rfl, h⟩
section
variable {X : Cx}
end
end L2.MulT
namespace DL
open PySem PySem.Spec PyProof.Rows L2 Builtin
section
variable {X : Cx} {pos apos cpos : Pos} {o e : Expr} {to te : TDE} {t : TDA}
/-! ### t * k, k at least 1 -/
/-! ### sep.join(xs) -/
/-! ### str(x) by its own __str__ -/
end
end DL

/-! Deep layer X: reading what has to do with instances, dicts of tuples, texts; what a class and its methods must be. -/
namespace DL
open PySem L2
/-- a class of the text -/
structure ClsF (K : Fg) (C : Addr) : Prop where
  sc : SlX.SCls K C
  si : SlX.SIsi K C
  no : NoSub K C
  ni : NoIsi K C
  ms : PySem.W.makesIn K C = true
  kp : PySem.W.keepIn K (.ref C) = true
def tyMro (a : String) : Bool := match PySem.fastBuiltinMro a with | some l => l.all (fun v => match v with | .type _ => true | _ => false) | none => false
theorem tyMro_all : tyNames.all tyMro = true := by decide +kernel
theorem sub_no {K : Fg} {C : Addr} {a : String} (h : a ∈ tyNames) : PySem.W.subIn K (.type a) (.ref C) = some false := by
  have e := List.all_eq_true.mp tyMro_all a h
  unfold tyMro at e
  show (PySem.fastBuiltinMro a).map (·.contains (.ref C)) = some false
  split at e
  · rename_i l el
    rw [el]
    show some (l.contains (.ref C)) = some false
    congr 1
    rw [Bool.eq_false_iff]
    intro q
    have := List.all_eq_true.mp e _ (List.contains_iff_mem.mp q)
    cases this
  · cases e
theorem noSub_all {K : Fg} {C : Addr} : NoSub K C := List.all_eq_true.mpr fun a h => by
  unfold PySem.W.notFirst
  rw [sub_no h]
  simp
theorem noIsi_of {K : Fg} {C : Addr} (ic : PySem.W.isClsIn K C = true) (ty : PySem.W.typeIn K (.ref C) = some (.type "type")) : NoIsi K C := List.all_eq_true.mpr fun a h => by
  have e : PySem.W.kitOne K (.type a) (.ref C) = some false := by
    unfold PySem.W.kitOne
    rw [if_neg (by simp)]
    unfold PySem.W.kitCls
    dsimp only
    have ic' : (PySem.W.clsIn K C).isSome = true := ic
    rw [ic', ty, if_pos (by simp)]
    exact sub_no h
  rw [e]
  rfl
theorem kit_me {K : Fg} {C : Addr} : PySem.W.kitOne K (.ref C) (.ref C) = some true := by unfold PySem.W.kitOne; rw [if_pos (by simp)]
/-- a method of the class at C -/
structure Mtd (K : Fg) (C : Addr) (x qual : Str) (st : Stmt) (ps : List Str) (f : Addr) (fd : FuncData) : Prop where
  fn : Fun K x qual st f fd
  bd : Binds K fd ps []
  at_ : PySem.W.findIn K (.ref C) x = some (some (.ref f))
  isf : PySem.W.isFn K (.ref f) = true
theorem Mtd.meth {K : Fg} {C : Addr} {x qual : Str} {st : Stmt} {ps : List Str} {f : Addr} {fd : FuncData} (D : Mtd K C x qual st ps f fd) : Meth K C x f := ⟨D.at_, D.isf, D.fn.kp⟩
theorem mtd_mk {K : Fg} {C : Addr} {qual : Str} {st : Stmt} {ps : List Str} {f : Addr} {fd : FuncData} (D : Mtd K C "__init__" qual st ps f fd) (c : ClsF K C) : Mk K C f := ⟨c.ms, D.at_, D.isf, c.kp⟩
/-- a property's getter -/
structure Prp (K : Fg) (C : Addr) (x qual : Str) (st : Stmt) (ps : List Str) (f : Addr) (fd : FuncData) : Prop where
  fn : Fun K x qual st f fd
  bd : Binds K fd ps []
  pr : ∃ p, PrpOf K C x p f
section
variable {δ : DS} {g : DG} {E : DEnds} {Q : DV → DG → Prop} {QA : List DV → DG → Prop} {P : DV → Prop} {a b : TDE} {ta : TDA} {x y d : DV} {ds es : List DV} {C p : Addr} {i : Nat} {sp : SpD}
def flK (C : Addr) (i : Nat) (Q : DV → DG → Prop) (x : DV) (g1 : DG) : Prop := match slD g1 C x with | some ds => (match nth ds i with | some d => Q d g1 | none => False) | none => False
theorem rd_fld (h : a δ g fun x g1 => flK C i Q x g1) : dFld C i a δ g Q := h
theorem rd_flI (e : nth (ds.map some) i = some d) (h : Q d g) : flK C i Q (.ins C ds) g := by unfold flK; rw [slD_ins]; dsimp only; rw [e]; exact h
theorem rd_flR {os : List (Option DV)} (e : g p = some (.ins C os)) (e2 : nth os i = some d) (h : Q d g) : flK C i Q (.ref p) g := by unfold flK; rw [slD_ref e]; dsimp only; rw [e2]; exact h
def prK (C : Addr) (sp : SpD) (Q : DV → DG → Prop) (x : DV) (g1 : DG) : Prop := (slD g1 C x).isSome = true ∧ sp [x] g1 Q
theorem rd_prp (h : a δ g fun x g1 => prK C sp Q x g1) : dPrp C sp a δ g Q := h
theorem rd_prI (h : sp [.ins C ds] g Q) : prK C sp Q (.ins C ds) g := ⟨by rw [slD_ins]; rfl, h⟩
def mtK (C : Addr) (R : DV → DG → Prop) (x : DV) (g1 : DG) : Prop := (slD g1 C x).isSome = true ∧ R x g1
theorem rd_mth (h : a δ g fun x g1 => mtK C (fun x g1 => ta δ g1 fun xs g2 => sp (x :: xs) g2 Q) x g1) : dMth C sp a ta δ g Q := h
theorem rd_mtI {R : DV → DG → Prop} (h : R (.ins C ds) g) : mtK C R (.ins C ds) g := ⟨by rw [slD_ins]; rfl, h⟩
theorem rd_sto (h : b δ g fun y g1 => a δ g1 fun x g2 => stoK C i x y g2 fun g3 => E.nx δ g3) : dSto C i a b E δ g := h
theorem rd_stoK {os : List (Option DV)} {R : DG → Prop} (e : g p = some (.ins C os)) (h : R (gup g p (.ins C (putO i y os)))) : stoK C i (.ref p) y g R := by unfold stoK; dsimp only; rw [e]; exact ⟨rfl, h⟩
theorem rd_mk (h : ta δ g fun ds g1 => ∀ p, g1 p = none → sp (.ref p :: ds) (gup g1 p (.ins C [])) (mkK C p Q)) : dMk C sp ta δ g Q := h
theorem rd_isiCI (h : P (.bl true)) : rrIsiC C [.ins C ds, .ref C] g P := ⟨rfl, .inl ⟨by rw [slD_ins]; rfl, h⟩⟩
theorem rd_isiCT (h : P (.bl false)) : rrIsiC C [.tup ds, .ref C] g P := ⟨rfl, .inr ⟨rfl, h⟩⟩
theorem rd_dcT {wi : TDI} {tg : Tg} {own : List Nat} {tt : TDT} {tk tv : TDE} (h : wi δ g fun ds g1 => zK (fun ds g1 => dDcC tg own tt tk tv δ ds [] [] g1 fun ks vs g2 => Q (.dT ks vs) g2) ds g1) : dDcT wi tg own tt tk tv δ g Q := h
theorem rd_sk {kf : List Int → Int} (h : a δ g fun x g1 => skK kf Q x g1) : dSK kf a δ g Q := h
theorem rd_skK {kf : List Int → Int} {L : List (List Int)} (i : ItT g x L) (c : L.length ≤ 16777216) (h : Q (.lst ((L.mergeSort (leK kf)).map tuI)) g) : skK kf Q x g := ⟨L, i, by rw [sizeLine_eq]; exact c, h⟩
theorem rd_wenT (h : ta δ g fun xs g1 => enK QA xs g1) : wEnT ta δ g QA := h
theorem rd_enK (h : QA (enD ds) g) : enK QA [.tup ds] g := h
end
end DL

/-! Deep layer Y: max, sum of a list or a tuple of ints. -/
namespace DL
open PySem PySem.Spec PyProof.Rows L2
section
variable {prog : Program} {w : World} {A : Around} {E : Value → Shared → Prop} {s : Shared} {l : Addr} {its : List Value} {ns : List Int} {Q : Value → Shared → Prop}
theorem max_tup (hh : A.handled = none) (ht : s.heap.IsTuple l its.toArray) (hi : IntsAre its ns) (hne : 0 < ns.length)
    (h : ∀ h' tk M t', (∀ b o, s.heap.get? b = some o → h'.get? b = some o) → M ∈ ns → (∀ a, a ∈ ns → a ≤ M) → Q (.int M t') { s with heap := h', toks := tk }) : wpAny (model prog w) A (call (.builtin "max") [.ref l]) Q E s := by
  obtain ⟨xs, e⟩ := hi.allInts.items
  have hn : numsOf (intItems xs).toList = ns := by rw [← e]; exact hi.numsOf
  rw [nums_intItems] at hn
  subst hn
  rw [e] at ht
  have hsz : 0 < xs.size := by simpa using hne
  obtain ⟨o, ho, hc, n, hd⟩ := id ht
  have ne : l ≠ s.heap.objs.size := Nat.ne_of_lt (Heap.lt_size ho)
  refine call_max_walk (wpAny_pyIter_tuple ht ?_)
  refine ⟨s.heap.objs.size, _, _, _, _, _, _, rfl, Walks.tuple (prog := prog) (w := w) (A := A.in1) hh s.heap.objs.size l ne (intItems xs), ⟨⟨_, Heap.get?_push_size _ rfl, rfl, rfl⟩, ht.at fun o e => Heap.get?_push_of_some _ e⟩, fun b hb => ?_, by simpa [intItems] using hsz, CmpOf.ints_gt (numAt xs) (fun _ _ => intItems_at), fun v h' tk hP hk => ?_⟩
  · rcases List.mem_cons.mp hb with rfl | hb
    · exact Heap.lt_size (Heap.get?_push_size _ rfl)
    · obtain rfl := List.mem_singleton.mp hb
      exact Heap.lt_size (Heap.get?_push_of_some _ ho)
  · have hv : (intItems xs)[argBest (fun i j => decide (numAt xs i > numAt xs j)) (xs.size - 1)]? = some v := by simpa [intItems] using hP
    obtain ⟨t, rfl⟩ := intItems_at hv
    obtain ⟨h1, h2⟩ := argBest_gt (numAt xs) (xs.size - 1)
    refine h h' tk _ t (fun b o e => hk b o (fun hb => absurd (Heap.lt_size e) ((List.mem_singleton.mp hb) ▸ Nat.lt_irrefl _)) (Heap.get?_push_of_some _ e)) ?_ fun a ha => ?_
    · rw [numAt_eq]; exact PySem.getD_mem (by rw [List.length_map, Array.length_toList]; omega)
    · obtain ⟨j, hj, rfl⟩ := mem_getD ha
      rw [List.length_map, Array.length_toList] at hj
      rw [← numAt_eq]; exact h2 j (by omega)
end
section
variable {X : Cx} {K : Fg}
def rMaxS (K : Fg) : List V → Hp → VK → Prop := fun vs H Q => ∃ (a : Addr) (ns : List Int), vs = [V.ref a] ∧ (SqL K H a (ns.map V.int) ∨ SqT K H a (ns.map V.int)) ∧ 0 < ns.length ∧ ∀ m, m ∈ ns → (∀ y, y ∈ ns → y ≤ m) → Q (.int m) H
theorem cr_maxS (hc : X.calm = true) : CallR X (.builtin "max") (rMaxS X.K) := by
  intro pins s σ H vs us Q I r h
  obtain ⟨a, ns, rfl, hs, hne, q⟩ := h
  rcases hs with hs | hs
  · exact cr_max hc pins s σ H [.ref a] us Q I r ⟨a, ns, rfl, hs, hne, q⟩
  · obtain ⟨its, rv, hl, _⟩ := I.tuple hs
    rw [Vals.ref1 r]
    exact max_tup (I.ok.hd hc) (show s.heap.IsTuple a its.toArray from hl) rv.ints hne fun h' tk m t' hk h1 h2 => ⟨.int _, H, I.kept hk, ⟨_, rfl⟩, q m h1 h2⟩
def rrMaxS : RRs := rr1 fun x g P => ∃ ns : List Int, (∃ ds, seqD g x = some ds ∧ intsD ds = some ns) ∧ 0 < ns.length ∧ ∀ m, m ∈ ns → (∀ y, y ∈ ns → y ≤ m) → P (.int m)
theorem ref_maxS : RefCall K rrMaxS (rMaxS K) := by
  intro xs P vs H g Q rg r k h
  obtain ⟨x, v, rfl, rfl, rx, ns, ⟨ds, e, e2⟩, hne, h⟩ := rr1_of r h
  obtain ⟨a, us, rfl, hq, hr⟩ := seqD_of rg rx e
  rw [intsD_of e2] at hr
  rw [hr.ints] at hq
  exact ⟨a, ns, rfl, hq, hne, fun m h1 h2 => .inl (k _ _ H Ext.refl rg (.int _) (h m h1 h2))⟩
theorem rd_maxS {x : DV} {g : DG} {P : DV → Prop} {ns : List Int} (e : seqD g x = some (ns.map DV.int)) (c : 0 < ns.length) (h : ∀ m, m ∈ ns → (∀ y, y ∈ ns → y ≤ m) → P (.int m)) : rrMaxS [x] g P := ⟨ns, ⟨_, e, intsD_map ns⟩, c, h⟩
end
end DL

/-! Deep layer AA: a comprehension over a list that may change but stays as it is while walked; reading lemmas for comprehensions. -/
namespace DL
open PySem PySem.Spec PyProof.Rows L2
section
variable {X : Cx} {pos : Pos}
variable {elt iter tgx : Expr} {ifs : List Expr} {scope : Scope} {own : List (Str × Nat)} {ti : TDE} {tg : Tg} {tt : TDT} {tel : TDE}
end
section
variable {δ : DS} {g : DG} {Q : DV → DG → Prop} {a : TDE}
theorem rd_isiT {ds : List DV} {P : DV → Prop} (h : P (.bl true)) : rrIsi [.tup ds, .ty "tuple"] g P := rd_isi (s := "tuple") rfl rfl h
end
end DL

/-! Deep layer AB: bool(x), y in xs, str(i), isinstance of an instance. -/
namespace DL
open PySem PySem.Spec PyProof.Rows L2
/-! ### bool(x) -/
section
variable {X : Cx} {K : Fg} {C f : Addr} {n : Nat} {sp : Sp} {sd : SpD} {EX : XK} {CX : CXT}
/-! ### y in xs, xs a list of content -/
theorem py_any (x : DV) : ∀ ds : List DV, ((pyAll ds).any fun z => PyData.eqv z x.py) = ds.any fun d => eqD d x
  | [] => rfl
  | d :: ds => by
    show (PyData.eqv d.py x.py || (pyAll ds).any _) = _
    rw [py_any x ds]
    rfl
/-! ### str(i) -/
/-! ### isinstance(x, T), T built in, x an instance too -/
end
end DL

/-! Deep layer AC: list(x), x an instance with its own __iter__ (a tuple's iterator) and its own __len__. -/
namespace DL
open PySem PySem.Spec PyProof.Rows L2
theorem RG.more {K : Fg} {H H' : Hp} {g : DG} (k : ∀ b o, H b = some o → H' b = some o) (r : RG K H g) : RG K H' g := fun a o e => by
  have kp : Kp H H' := ⟨fun b xs q => k _ _ q, fun b o u q => k _ _ q, fun b fs q => k _ _ q, fun b n q => k _ _ q⟩
  obtain ⟨u, q, _⟩ := (r a o e).some
  exact (r a o e).keep kp (by rw [q]; exact k _ _ q)
section
variable {X : Cx} {K : Fg} {C f fl : Addr} {n nl i : Nat} {spl : Sp} {sd : SpD}
end
/-! ### reading -/
section
variable {C : Addr} {ds es : List DV} {x y d : DV} {g : DG} {P : DV → Prop} {sd : SpD} {i : Nat}
end
/-! ### sum(xs) of a list or a tuple -/
section
variable {X : Cx} {K : Fg}
def rSumS (K : Fg) : List V → Hp → VK → Prop := fun vs H Q => ∃ (a : Addr) (ns : List Int), vs = [V.ref a] ∧ (SqL K H a (ns.map V.int) ∨ SqT K H a (ns.map V.int)) ∧ Q (.int ns.sum) H
theorem cr_sumS (hc : X.calm = true) : CallR X (.builtin "sum") (rSumS X.K) := by
  intro pins s σ H vs us Q I r h
  obtain ⟨a, ns, rfl, hs, q⟩ := h
  rcases hs with hs | hs
  · exact cr_sum hc pins s σ H [.ref a] us Q I r ⟨a, ns, rfl, hs, q⟩
  · obtain ⟨its, rv, ⟨o, h1, h2, n, h3⟩, hz⟩ := I.tuple hs
    rw [Vals.ref1 r]
    have hi := rv.ints
    have hl : s.heap.IsTuple a its.toArray := ⟨o, h1, h2, n, h3⟩
    obtain ⟨xs, hx⟩ := hi.allInts.items
    have hn : numsOf its.toArray.toList = ns := by rw [show its.toArray.toList = its from rfl, hi.numsOf]
    rw [hx] at hl hn
    rw [nums_intItems] at hn
    refine PySem.W.ktm_sumG (I.ok.hd hc) hl fun h' tk t' hk => ⟨.int ns.sum, H, I.kept hk, ⟨t', ?_⟩, q⟩
    rw [preSum_eq, List.take_of_length_le (by simp), hn]
def rrSumS : RRs := rr1 fun x g P => ∃ ns : List Int, (∃ ds, seqD g x = some ds ∧ intsD ds = some ns) ∧ P (.int ns.sum)
theorem ref_sumS : RefCall K rrSumS (rSumS K) := by
  intro xs P vs H g Q rg r k h
  obtain ⟨x, v, rfl, rfl, rx, ns, ⟨ds, es, ei⟩, h2⟩ := rr1_of r h
  obtain ⟨a, ws, rfl, hq, hr⟩ := seqD_of rg rx es
  rw [intsD_of ei] at hr
  rw [RDs.ints hr] at hq
  exact ⟨a, ns, rfl, hq, .inl (k _ _ H Ext.refl rg (.int _) h2)⟩
theorem rd_sumS {x : DV} {g : DG} {P : DV → Prop} {ns : List Int} (e : seqD g x = some (ns.map DV.int)) (h : P (.int ns.sum)) : rrSumS [x] g P := ⟨ns, ⟨_, e, intsD_map ns⟩, h⟩
end
theorem units65 {k : Nat} {A : Around} (r : Room k A) : A.units + 65 < cLine := by have := r.un; omega
end DL

namespace DL
open PySem L2
abbrev tI (ns : List Int) : DV := .tup (ns.map DV.int)
def isW : DV → Bool
  | .int _ => true
  | _ => false
def isWi (lo hi : Int) : DV → Bool
  | .int i => decide (lo ≤ i) && decide (i ≤ hi)
  | _ => false
def ltD : DV → Bool
  | .tup [.int i, .int j] => decide (i < j)
  | _ => false
def ascD (ds : List DV) : Bool := (zipD ds (ds.drop 1)).all ltD
theorem blsD_fun (p : DV → Bool) : ∀ ds : List DV, blsD (ds.map fun d => .bl (p d)) = some (ds.map p)
  | [] => rfl
  | d :: ds => by rw [List.map_cons, blsD, blsD_fun p ds]; rfl
theorem plAll_mem : ∀ {ds : List DV}, plAll ds = true → ∀ d ∈ ds, d.pl = true
  | [], _, _, h => by cases h
  | e :: ds, hp, d, h => by
    rw [plAll, Bool.and_eq_true] at hp
    rcases List.mem_cons.mp h with z | z
    · subst z; exact hp.1
    · exact plAll_mem hp.2 d z
theorem cutD_from (ds : List DV) (k : Nat) : cutD ds (some (k : Int)) none = ds.drop k := by
  unfold cutD
  rw [HT.sIx_nat, HT.sIx_none]
  by_cases h : k ≤ ds.length
  · rw [Nat.min_eq_left h]
    exact List.take_of_length_le (by rw [List.length_drop]; exact Nat.le_refl _)
  · rw [Nat.min_eq_right (by omega), List.drop_eq_nil_of_le (Nat.le_refl _), List.drop_eq_nil_of_le (by omega), List.take_nil]
theorem all_id_map (p : DV → Bool) (ds : List DV) : (ds.map p).all id = ds.all p := by rw [List.all_map]; rfl
theorem isWi_int {lo hi : Int} {d : DV} (h : isWi lo hi d = true) : ∃ i, d = .int i ∧ lo ≤ i ∧ i ≤ hi := by
  cases d <;> first | cases h; done | skip
  rename_i i
  have h' : (decide (lo ≤ i) && decide (i ≤ hi)) = true := h
  rw [Bool.and_eq_true, decide_eq_true_eq, decide_eq_true_eq] at h'
  exact ⟨i, rfl, h'.1, h'.2⟩
theorem wi_ints {lo hi : Int} : ∀ {ds : List DV}, ds.all (isWi lo hi) = true → ∃ ns : List Int, ds = ns.map DV.int ∧ ∀ n ∈ ns, lo ≤ n ∧ n ≤ hi
  | [], _ => ⟨[], rfl, fun _ h => by cases h⟩
  | d :: ds, h => by
    rw [List.all_cons, Bool.and_eq_true] at h
    obtain ⟨i, rfl, h1, h2⟩ := isWi_int h.1
    obtain ⟨ns, rfl, h3⟩ := wi_ints h.2
    refine ⟨i :: ns, rfl, fun n hn => ?_⟩
    rcases List.mem_cons.mp hn with z | z
    · subst z; exact ⟨h1, h2⟩
    · exact h3 n z
theorem zip_ints : ∀ xs ys : List Int, zipD (xs.map DV.int) (ys.map DV.int) = (xs.zip ys).map fun p => .tup [.int p.1, .int p.2]
  | [], _ => rfl
  | _ :: _, [] => rfl
  | x :: xs, y :: ys => by
    show DV.tup [.int x, .int y] :: zipD (xs.map DV.int) (ys.map DV.int) = _
    rw [zip_ints xs ys]
    rfl
theorem pl_ints : ∀ xs : List Int, plAll (xs.map DV.int) = true
  | [] => rfl
  | x :: xs => by rw [List.map_cons, plAll, pl_ints xs]; rfl
theorem pl_tI (xs : List Int) : (tI xs).pl = true := pl_ints xs
theorem zipD_ints_all {f : DV → Bool} {r : Int → Int → Bool} (hf : ∀ i j, f (.tup [.int i, .int j]) = r i j) (xs ys : List Int) : (zipD (xs.map DV.int) (ys.map DV.int)).all f = (xs.zip ys).all fun p => r p.1 p.2 := by
  rw [zip_ints, List.all_map]
  congr 1
  funext p
  exact hf p.1 p.2
theorem mulW {i j : Int} (h1 : -18446744073709551616 < i) (h2 : i < 18446744073709551616) (h3 : -18446744073709551616 < j) (h4 : j < 18446744073709551616) : CMulW i j :=
  wide_mul (a := 64) (b := 64) (by omega) (by omega) (by decide) (by decide) (by decide)
theorem divW {i j : Int} (h1 : 0 < j) (h2 : j < 18446744073709551616) : CDivW i j := wide_div (b := 64) h1 (by omega) (by decide) (by decide)
theorem atI_ints {ns : List Int} {i : Nat} (h : i < ns.length) : atI (ns.map DV.int) (i : Int) = some (.int ns[i]) := atI_nat (by rw [List.getElem?_map, List.getElem?_eq_getElem h]; rfl)
theorem asc_all : ∀ {xs : List Int}, xs.Pairwise (· < ·) → ((xs.zip (xs.drop 1)).all fun p => decide (p.1 < p.2)) = true
  | [], _ => rfl
  | [_], _ => rfl
  | x :: y :: r, h => by
    obtain ⟨h1, h2⟩ := List.pairwise_cons.mp h
    show (decide (x < y) && (((y :: r).zip r).all fun p => decide (p.1 < p.2))) = true
    rw [decide_eq_true (h1 y List.mem_cons_self)]
    exact asc_all h2
end DL

namespace DL
open PySem L2
theorem py_ints : ∀ ns : List Int, pyAll (ns.map DV.int) = ns.map PyData.int
  | [] => rfl
  | n :: ns => by rw [List.map_cons, pyAll, py_ints ns]; rfl
theorem lay_is : ∀ ns : List Int, PyData.canLayAll0 (ns.map PyData.int) = true
  | [] => rfl
  | _ :: ns => by simp [PyData.canLayAll0, PyData.canLay0, lay_is ns]
theorem dep_is : ∀ ns : List Int, PyData.depthAll (ns.map PyData.int) = 0
  | [] => rfl
  | _ :: ns => by simp [PyData.depthAll, PyData.depth, dep_is ns]
theorem eqv_is : ∀ ns ms : List Int, PyData.eqvAll (ns.map PyData.int) (ms.map PyData.int) = decide (ns = ms)
  | [], [] => by simp [PyData.eqvAll]
  | [], _ :: _ => by simp [PyData.eqvAll]
  | _ :: _, [] => by simp [PyData.eqvAll]
  | n :: ns, m :: ms => by
    simp only [List.map_cons, PyData.eqvAll, PyData.eqv, eqv_is ns ms]
    by_cases h : n = m <;> by_cases h' : ns = ms <;> simp [h, h']
theorem okD_tI (ns : List Int) : okD (tI ns) = true := by
  unfold okD
  rw [pl_tI, Bool.true_and]
  show SeqAt.shaped (.tuple (pyAll (ns.map DV.int))) = true
  rw [py_ints]
  simp [SeqAt.shaped, PyData.canLay0, PyData.depth, lay_is, dep_is]
theorem eqD_tI (ns ms : List Int) : eqD (tI ns) (tI ms) = decide (ns = ms) := by
  show PyData.eqv (.tuple (pyAll (ns.map DV.int))) (.tuple (pyAll (ms.map DV.int))) = _
  rw [py_ints, py_ints, ← eqv_is]
  simp only [PyData.eqv]
theorem okD_int (i : Int) : okD (.int i) = true := by
  simp [okD, DV.pl, DV.py, SeqAt.shaped, PyData.canLay0, PyData.depth]
theorem eqD_int (i j : Int) : eqD (.int i) (.int j) = decide (i = j) := by
  simp only [eqD, DV.py, PyData.eqv]
  by_cases h : i = j <;> simp [h]
theorem alike_is : ∀ ns ms : List Int, W.alikeAll (ns.map PyData.int) (ms.map PyData.int) = true
  | [], _ => by simp [W.alikeAll]
  | _ :: _, [] => by simp [W.alikeAll]
  | _ :: ns, _ :: ms => by simp [W.alikeAll, W.alike, alike_is ns ms]
theorem py_tI (ns : List Int) : (tI ns).py = .tuple (ns.map PyData.int) := by
  show PyData.tuple (pyAll (ns.map DV.int)) = _
  rw [py_ints]
theorem pl_tIs : ∀ ws : List (List Int), plAll (ws.map tI) = true
  | [] => rfl
  | w :: ws => by rw [List.map_cons, plAll, pl_tIs ws, pl_tI]; rfl
end DL

/-! k07, plain: products, lots by their least members. -/
namespace DL
open PySem L2
/-! ### products -/
def dvB (xs ys : List Int) : Bool := (xs.zip ys).all fun p => decide (p.1 ≤ p.2)
def ad (xs ys : List Int) : List Int := List.zipWith (· + ·) xs ys
/-! ### least members -/
def Lst (L : List (List Int)) (m : List Int) : Prop := m ∈ L ∧ ∀ k ∈ L, dvB k m = true → k = m
structure IsLeast (L M : List (List Int)) : Prop where
  asc : M.Pairwise (· < ·)
  mem : ∀ m, m ∈ M ↔ Lst L m
theorem lt_irr (a : List Int) : ¬ a < a := List.lt_irrefl a
theorem asc_unique : ∀ {M N : List (List Int)}, M.Pairwise (· < ·) → N.Pairwise (· < ·) → (∀ x, x ∈ M ↔ x ∈ N) → M = N
  | [], [], _, _, _ => rfl
  | [], b :: N, _, _, h => by have := (h b).mpr List.mem_cons_self; cases this
  | a :: M, [], _, _, h => by have := (h a).mp List.mem_cons_self; cases this
  | a :: M, b :: N, h1, h2, h => by
    obtain ⟨a1, a2⟩ := List.pairwise_cons.mp h1
    obtain ⟨b1, b2⟩ := List.pairwise_cons.mp h2
    have e : a = b := by
      rcases List.mem_cons.mp ((h a).mp List.mem_cons_self) with e | ha
      · exact e
      · rcases List.mem_cons.mp ((h b).mpr List.mem_cons_self) with e | hb
        · exact e.symm
        · exact absurd (List.lt_trans (a1 b hb) (b1 a ha)) (lt_irr a)
    subst e
    congr 1
    refine asc_unique a2 b2 fun x => ⟨fun hx => ?_, fun hx => ?_⟩
    · rcases List.mem_cons.mp ((h x).mp (List.mem_cons_of_mem _ hx)) with e | hx'
      · subst e; exact absurd (a1 x hx) (lt_irr x)
      · exact hx'
    · rcases List.mem_cons.mp ((h x).mpr (List.mem_cons_of_mem _ hx)) with e | hx'
      · subst e; exact absurd (b1 x hx) (lt_irr x)
      · exact hx'
theorem IsLeast.uniq {L M N : List (List Int)} (h : IsLeast L M) (h' : IsLeast L N) : M = N := asc_unique h.asc h'.asc fun x => (h.mem x).trans (h'.mem x).symm
theorem IsLeast.sub {L M : List (List Int)} (h : IsLeast L M) : ∀ m ∈ M, m ∈ L := fun m hm => ((h.mem m).mp hm).1
/-! ### sums, meets, products -/
def pairs (f : List Int → List Int → List Int) (L M : List (List Int)) : List (List Int) := L.flatMap fun l => M.map fun m => f l m
end DL

/-! k07, plain: the order of products, how least members are found. -/
namespace DL
open PySem L2
theorem tuI_tI (ns : List Int) : tuI ns = tI ns := rfl
theorem dle_tuI (a b : List Int) : dleD (tuI a) (tuI b) = decide (a ≤ b) := by
  unfold dleD
  rw [show (tuI b).py = .tuple (b.map PyData.int) from py_tI b, show (tuI a).py = .tuple (a.map PyData.int) from py_tI a, W.dataLt_tuple]
  have e := W.dataLt_ints b a
  unfold W.rowLt at e
  rw [e]
  by_cases h : b < a
  · rw [decide_eq_true h, decide_eq_false (fun z => z h)]; rfl
  · rw [decide_eq_false h, decide_eq_true (show a ≤ b from h)]; rfl
/-- sorted without twins: strictly -/
theorem asc_of_sort {L : List (List Int)} (nd : L.Nodup) : (L.mergeSort fun a b => decide (a ≤ b)).Pairwise (· < ·) := by
  have hs : (L.mergeSort fun a b => decide (a ≤ b)).Pairwise fun a b => decide (a ≤ b) = true :=
    List.pairwise_mergeSort (fun a b c h1 h2 => by
      rw [decide_eq_true_eq] at h1 h2 ⊢; exact List.le_trans h1 h2) (fun a b => by
      rw [Bool.or_eq_true, decide_eq_true_eq, decide_eq_true_eq]; exact List.le_total a b) L
  have hn : (L.mergeSort fun a b => decide (a ≤ b)).Nodup := (List.mergeSort_perm L _).nodup_iff.mpr nd
  refine (hs.and hn).imp fun {a b} h => ?_
  have h1 := of_decide_eq_true h.1
  rcases Classical.em (a < b) with q | q
  · exact q
  · exact absurd (List.le_antisymm h1 q) h.2
/-- as many as that, without twins -/
theorem nodup_len {α : Type} [DecidableEq α] : ∀ {M L : List α}, M.Nodup → (∀ m ∈ M, m ∈ L) → M.length ≤ L.length
  | [], _, _, _ => Nat.zero_le _
  | a :: M, L, nd, s => by
    obtain ⟨h1, h2⟩ := List.nodup_cons.mp nd
    have ha := s a List.mem_cons_self
    have := nodup_len (M := M) (L := L.erase a) h2 fun m hm => (List.mem_erase_of_ne (fun e => h1 (by rw [← e]; exact hm))).mpr (s m (List.mem_cons_of_mem _ hm))
    rw [List.length_erase_of_mem ha] at this
    have := List.length_pos_of_mem ha
    rw [List.length_cons]
    omega
/-! ### a lot -/
/-! ### once, found -/
def minB (L : List (List Int)) (m : List Int) : Bool := L.all fun k => !dvB k m || decide (k = m)
theorem minB_iff {L : List (List Int)} {m : List Int} : minB L m = true ↔ ∀ k ∈ L, dvB k m = true → k = m := by
  unfold minB
  rw [List.all_eq_true]
  refine forall_congr' fun k => forall_congr' fun _ => ?_
  cases dvB k m <;> simp
theorem found_least {L O : List (List Int)} (nd : O.Nodup) (e : ∀ k, k ∈ O ↔ k ∈ L) : IsLeast L ((O.filter (minB O)).mergeSort fun a b => decide (a ≤ b)) := by
  refine ⟨asc_of_sort (nd.sublist List.filter_sublist), fun m => ?_⟩
  rw [(List.mergeSort_perm _ _).mem_iff, List.mem_filter, minB_iff]
  constructor
  · rintro ⟨h1, h2⟩; exact ⟨(e m).mp h1, fun k hk => h2 k ((e k).mpr hk)⟩
  · rintro ⟨h1, h2⟩; exact ⟨(e m).mpr h1, fun k hk => h2 k ((e k).mp hk)⟩
/-! ### {one: True for one in products} -/
theorem putKs_nodup {α : Type} [DecidableEq α] {ks : List α} {k : α} (h : ks.Nodup) : (putKs ks k).Nodup := by
  unfold putKs
  split
  · exact h
  · rename_i q
    rw [List.nodup_append]
    exact ⟨h, by simp, fun a ha b hb e => by rw [List.mem_singleton.mp hb] at e; subst e; exact q ha⟩
theorem putKs_mem {α : Type} [DecidableEq α] {ks : List α} {k x : α} : x ∈ putKs ks k ↔ x ∈ ks ∨ x = k := by
  unfold putKs
  split
  · rename_i q
    exact ⟨.inl, fun h => h.elim id fun e => by rw [e]; exact q⟩
  · rw [List.mem_append, List.mem_singleton]
theorem putKs_len {α : Type} [DecidableEq α] (ks : List α) (k : α) : (putKs ks k).length ≤ ks.length + 1 := by
  unfold putKs
  split
  · omega
  · rw [List.length_append, List.length_singleton]; omega
theorem foldK {α : Type} [DecidableEq α] : ∀ (L ks : List α), ks.Nodup → (L.foldl putKs ks).Nodup ∧ (∀ x, x ∈ L.foldl putKs ks ↔ x ∈ ks ∨ x ∈ L) ∧ (L.foldl putKs ks).length ≤ ks.length + L.length
  | [], ks, h => ⟨h, fun x => by simp, by simp⟩
  | a :: L, ks, h => by
    obtain ⟨h1, h2, h3⟩ := foldK L (putKs ks a) (putKs_nodup h)
    refine ⟨h1, fun x => ?_, ?_⟩
    · rw [List.foldl_cons, h2, putKs_mem, List.mem_cons, or_assoc]
    · rw [List.foldl_cons, List.length_cons]
      have := putKs_len ks a
      omega
theorem keyI_inj {a b : List Int} (h : a.map (Sum.inl : Int → Key) = b.map Sum.inl) : a = b := by
  have := congrArg (List.map fun k : Key => match k with | .inl i => i | .inr _ => 0) h
  rw [List.map_map, List.map_map] at this
  simpa [Function.comp_def] using this
theorem foldK_map : ∀ (L ks : List (List Int)), (L.map (·.map (Sum.inl : Int → Key))).foldl putKs (ks.map (·.map Sum.inl)) = (L.foldl putKs ks).map (·.map Sum.inl)
  | [], _ => rfl
  | a :: L, ks => by
    rw [List.map_cons, List.foldl_cons, List.foldl_cons, ← foldK_map L]
    congr 1
    unfold putKs
    have e : (a.map (Sum.inl : Int → Key) ∈ ks.map (·.map Sum.inl)) ↔ a ∈ ks := by
      rw [List.mem_map]
      exact ⟨fun ⟨b, hb, he⟩ => by rw [← keyI_inj he]; exact hb, fun h => ⟨a, h, rfl⟩⟩
    by_cases q : a ∈ ks
    · rw [if_pos (e.mpr q), if_pos q]
    · rw [if_neg (fun z => q (e.mp z)), if_neg q, List.map_append]; rfl
def onceL (L : List (List Int)) : List (List Int) := (L.foldl putKs []).mergeSort (leK List.sum)
theorem onceL_mem (L : List (List Int)) (k : List Int) : k ∈ onceL L ↔ k ∈ L := by
  unfold onceL
  rw [(List.mergeSort_perm _ _).mem_iff, (foldK L [] List.nodup_nil).2.1]
  simp
theorem onceL_nodup (L : List (List Int)) : (onceL L).Nodup := (List.mergeSort_perm _ _).nodup_iff.mpr (foldK L [] List.nodup_nil).1
def leastL (L : List (List Int)) : List (List Int) := ((onceL L).filter (minB (onceL L))).mergeSort fun a b => decide (a ≤ b)
theorem leastL_is (L : List (List Int)) : IsLeast L (leastL L) := found_least (onceL_nodup L) (onceL_mem L)
end DL

/-! Deep layer AD: dicts with tuples as keys: looks, stores, walks. -/
namespace DL
open PySem PySem.Spec PyProof.Rows L2
/-! ### keys -/
def keyD : Key → DV
  | .inl i => .int i
  | .inr x => .str x
theorem keyD_rd {K : Fg} {H : Hp} : ∀ k : Key, RD K H (keyD k) (kV k)
  | .inl i => .int i
  | .inr x => .str x
def keyDT (k : List Key) : DV := .tup (k.map keyD)
theorem keysD_rd {K : Fg} {H : Hp} : ∀ k : List Key, RDs K H (k.map keyD) (k.map kV)
  | [] => .nil
  | x :: r => .cons (keyD_rd x) (keysD_rd r)
theorem keyD_ints (ns : List Int) : keyDT (ns.map Sum.inl) = .tup (ns.map DV.int) := by
  unfold keyDT
  rw [List.map_map]
  rfl
/-! ### what a dict holds -/
def valD {κ : Type} [DecidableEq κ] : List κ → List DV → κ → Option DV
  | k' :: ks, d :: ds, k => if k' = k then some d else valD ks ds k
  | _, _, _ => none
theorem valD_rd {κ : Type} [DecidableEq κ] {K : Fg} {H : Hp} {k : κ} : ∀ {kvs : List (κ × V)} {ds : List DV}, RDs K H ds (kvs.map (·.2)) →
    (∀ d, valD (kvs.map (·.1)) ds k = some d → ∃ v, valV kvs k = some v ∧ RD K H d v) ∧ (valD (kvs.map (·.1)) ds k = none → valV kvs k = none)
  | [], _, h => by
    cases h
    exact ⟨fun d e => (by simp [valD] at e), fun _ => rfl⟩
  | p :: t, _, h => by
    cases h with
    | cons h1 h2 =>
      obtain ⟨i1, i2⟩ := valD_rd (k := k) h2
      rw [List.map_cons]
      unfold valD
      by_cases z : p.1 = k
      · rw [if_pos z, valV_pos z]
        exact ⟨fun d e => by cases e; exact ⟨_, rfl, h1⟩, fun e => by cases e⟩
      · rw [if_neg z, valV_neg z]
        exact ⟨i1, i2⟩
def dctT (g : DG) : DV → Option (List (List Key) × List DV)
  | .dT ks ds => some (ks, ds)
  | .ref p => match g p with | some (.dT ks ds) => some (ks, ds) | _ => none
  | _ => none
theorem dctT_of {K : Fg} {H : Hp} {g : DG} {d : DV} {v : V} {ks : List (List Key)} {ds : List DV} (rg : RG K H g) (r : RD K H d v) (h : dctT g d = some (ks, ds)) :
    ∃ a kvs, v = .ref a ∧ Rd H a (.dT kvs) ∧ kvs.map (·.1) = ks ∧ RDs K H ds (kvs.map (·.2)) := by
  cases r with
  | dT hs hr =>
    cases h
    obtain ⟨o, kvs, e, e1, e2⟩ := hs
    exact ⟨_, kvs, rfl, .inr ⟨o, e⟩, e1, by rw [e2]; exact hr⟩
  | ref a =>
    unfold dctT at h
    split at h <;> first | cases h | skip
    all_goals (try (rename_i q; cases q))
    all_goals (split at h <;> first | (cases h; rename_i e; obtain ⟨kvs, q, e1, rd⟩ := rg _ _ e; exact ⟨_, kvs, rfl, .inl q, e1, rd⟩) | cases h)
  | _ => cases h
/-- x's entry at y -/
def atD (g : DG) (x y : DV) : Option (Option DV) := match dctT g x with
  | some (ks, ds) => (match keyT y with | some k => some (valD ks ds k) | none => none)
  | none => (match dctK g x with | some (ks, ds) => (match keyK y with | some k => some (valD ks ds k) | none => none) | none => none)
theorem atD_of {K : Fg} {H : Hp} {g : DG} {x y : DV} {v u : V} {o : Option DV} (rg : RG K H g) (rx : RD K H x v) (ry : RD K H y u) (h : atD g x y = some o) :
    ∃ a w, v = .ref a ∧ DGet H a u w ∧ (∀ d, o = some d → ∃ z, w = some z ∧ RD K H d z) ∧ (o = none → w = none) := by
  unfold atD at h
  cases e1 : dctT g x with
  | some p =>
    obtain ⟨ks, ds⟩ := p
    rw [e1] at h
    dsimp only at h
    cases e2 : keyT y with
    | none => rw [e2] at h; cases h
    | some k =>
      rw [e2] at h; cases h
      obtain ⟨a, kvs, rfl, hd, ek, rd⟩ := dctT_of rg rx e1
      obtain ⟨b, rfl, hb⟩ := keyT_of ry e2
      subst ek
      obtain ⟨i1, i2⟩ := valD_rd (k := k) rd
      exact ⟨a, valV kvs k, rfl, .inr ⟨kvs, k, b, hd, rfl, hb, rfl⟩, i1, i2⟩
  | none =>
    rw [e1] at h
    dsimp only at h
    cases e3 : dctK g x with
    | none => rw [e3] at h; cases h
    | some p =>
      obtain ⟨ks, ds⟩ := p
      rw [e3] at h
      dsimp only at h
      cases e2 : keyK y with
      | none => rw [e2] at h; cases h
      | some k =>
        rw [e2] at h; cases h
        obtain ⟨a, kvs, rfl, hd, ek, rd⟩ := dctK_of rg rx e3
        subst ek
        obtain ⟨i1, i2⟩ := valD_rd (k := k) rd
        exact ⟨a, valV kvs k, rfl, .inl ⟨kvs, k, hd, keyK_of ry e2, rfl⟩, i1, i2⟩
section
variable {X : Cx} {K : Fg} {pos : Pos} {o i e f value : Expr} {td ty tv tx : TDE}
/-! ### d[k], d.get(k, x), k in d -/
def dGet (td ty : TDE) : TDE := fun δ g Q => td δ g fun x g1 => ty δ g1 fun y g2 => ∃ d, atD g2 x y = some (some d) ∧ Q d g2
theorem pd_dget (hu : X.A.units + 64 < cLine) (ho : PE X o (upE X.K td)) (hi : PE X i (upE X.K ty)) (hs : NoSl i := by intro _ _; rfl) : PE X (.Subscript o i pos) (upE X.K (dGet td ty)) := by
  refine PE_weak (pe_dget (by omega) ho hi hs) fun σ H Q ⟨δ, g, P, rs, rg, h, k⟩ => ⟨δ, g, _, rs, rg, h, fun x g1 v H1 e1 rg1 rx h1 => ⟨δ, g1, _, rs.mono (e1.kp rg), rg1, h1, fun y g2 u H2 e2 rg2 ry ⟨d, ed, h2⟩ => ?_⟩⟩
  obtain ⟨a, w, ev, hg, i1, _⟩ := atD_of rg2 (rx.mono (e2.kp rg1)) ry ed
  obtain ⟨z, ew, rz⟩ := i1 d rfl
  subst ew
  exact ⟨a, z, ev, hg, k _ _ _ _ (e1.trans e2) rg2 rz h2⟩
def isDct (g : DG) (x : DV) : Bool := (dctT g x).isSome || (dctK g x).isSome
theorem isDct_of {H : Hp} {g : DG} {x : DV} {v : V} (rg : RG K H g) (rx : RD K H x v) (h : isDct g x = true) : ∃ a, v = .ref a ∧ IsD H a := by
  unfold isDct at h
  rw [Bool.or_eq_true] at h
  rcases h with h | h
  · obtain ⟨⟨ks, ds⟩, e⟩ := Option.isSome_iff_exists.mp h
    obtain ⟨a, kvs, rfl, hd, _⟩ := dctT_of rg rx e
    exact ⟨a, rfl, .inr ⟨kvs, hd⟩⟩
  · obtain ⟨⟨ks, ds⟩, e⟩ := Option.isSome_iff_exists.mp h
    obtain ⟨a, kvs, rfl, hd, _⟩ := dctK_of rg rx e
    exact ⟨a, rfl, .inl ⟨kvs, hd⟩⟩
def dGet2 (td ty tx : TDE) : TDE := fun δ g Q => td δ g fun x g1 => isDct g1 x = true ∧ ty δ g1 fun y g2 => tx δ g2 fun z g3 => ∃ r, atD g3 x y = some r ∧ Q (r.getD z) g3
theorem pd_dget2 {apos cpos : Pos} (hu : X.A.units + 64 < cLine) (ho : PE X o (upE X.K td)) (he : PE X e (upE X.K ty)) (hf : PE X f (upE X.K tx)) 
    (m1 : attributeBase o "get" X.env (eval o X.env) = eval o X.env := by rfl) (m2 : ((backTo cpos (starEach [e, f] X.env)).all (fun x => !x.1) && (backToKw cpos (keywordEach [] X.env)).all (fun x => x.1.isSome) && decide (([e, f] : List Expr).length + ([] : List Keyword).length + (if ([] : List Keyword).isEmpty then 0 else 1) < 30)) = true := by rfl)
    (m3 : (apos.endLine == cpos.line) = true := by rfl) (m4 : backTo cpos (starEach [e, f] X.env) = [(false, eval e X.env), (false, eval f X.env)] := by rfl) :
    PE X (.Call (.Attribute o "get" apos) [e, f] [] cpos) (upE X.K (dGet2 td ty tx)) := by
  refine PE_weak (pe_dget2 (by omega) ho he hf ⟨m1, m2, m3, m4⟩) fun σ H Q ⟨δ, g, P, rs, rg, h, k⟩ => ⟨δ, g, _, rs, rg, h, fun x g1 v H1 e1 rg1 rx ⟨hd, h1⟩ => ?_⟩
  obtain ⟨a, rfl, isd⟩ := isDct_of rg1 rx hd
  refine ⟨a, rfl, isd, δ, g1, _, rs.mono (e1.kp rg), rg1, h1, fun y g2 u H2 e2 rg2 ry h2 => ⟨δ, g2, _, rs.mono ((e1.trans e2).kp rg), rg2, h2, fun z g3 t H3 e3 rg3 rz ⟨r, er, h3⟩ => ?_⟩⟩
  obtain ⟨a', w, ev, hg, i1, i2⟩ := atD_of rg3 ((rx.mono (e2.kp rg1)).mono (e3.kp rg2)) (ry.mono (e3.kp rg2)) er
  cases ev
  refine ⟨w, hg, ?_⟩
  cases r with
  | none => rw [i2 rfl]; exact k _ _ _ _ ((e1.trans e2).trans e3) rg3 rz h3
  | some d =>
    obtain ⟨q, ew, rq⟩ := i1 d rfl
    rw [ew]
    exact k _ _ _ _ ((e1.trans e2).trans e3) rg3 rq h3
def rDIn (neg : Bool) : R2 := fun y x H Q => ∃ a r, x = .ref a ∧ DGet H a y r ∧ Q (.bl (if neg then !r.isSome else r.isSome)) H
theorem op_dIn (hu : X.A.units + 64 < cLine) : OpR X (compareOp .In) (rDIn false) := by
  intro pins s σ H x y v u Q I rx ry ⟨a, r, ey, hg, q⟩
  subst ey
  cases (show u = Value.ref a from ry)
  exact d_in (by omega) I hg rx fun s' I' => ⟨.bl _, H, I', rfl, q⟩
theorem op_dNotIn (hu : X.A.units + 64 < cLine) : OpR X (compareOp .NotIn) (rDIn true) := by
  intro pins s σ H x y v u Q I rx ry ⟨a, r, ey, hg, q⟩
  subst ey
  cases (show u = Value.ref a from ry)
  exact d_notIn (by omega) I hg rx fun s' I' => ⟨.bl _, H, I', rfl, q⟩
def rrDIn (neg : Bool) : RR2 := fun y x g P => ∃ r, atD g x y = some r ∧ P (.bl (if neg then !r.isSome else r.isSome))
theorem ref_dIn {neg : Bool} : RefCmp K (rrDIn neg) (rDIn neg) := by
  intro y x P u v H g Q rg ry rx k ⟨r, er, h⟩
  obtain ⟨a, w, ev, hg, i1, i2⟩ := atD_of rg rx ry er
  refine ⟨a, w, ev, hg, ?_⟩
  have e : w.isSome = r.isSome := by
    cases r with
    | none => rw [i2 rfl]; rfl
    | some d => obtain ⟨z, ew, _⟩ := i1 d rfl; rw [ew]; rfl
  rw [e]
  exact k _ h
/-! ### d[k] = v -/
def dputT (x y v : DV) (g : DG) (R : DG → Prop) : Prop := ∃ p ks ds k, x = .ref p ∧ g p = some (.dT ks ds) ∧ keyT y = some k ∧ ds.length < sizeLine ∧ R (gup g p (.dT (putKs ks k) (putDs ks ds k v)))
def dDPutT (td ty tv : TDE) : TDS := fun E δ g => tv δ g fun v g1 => td δ g1 fun x g2 => ty δ g2 fun y g3 => dputT x y v g3 fun g4 => E.nx δ g4
theorem pds_dputT {pos' : Pos} (hu : X.A.units + 64 < cLine) (ho : PE X o (upE X.K td)) (hi : PE X i (upE X.K ty)) (hv : PE X value (upE X.K tv)) (hs : swapsWith value (some (.Subscript o i pos')) pos.line X.env = pure false := by rfl) :
    PS X (.Assign [.Subscript o i pos'] value pos) (upS X.K (dDPutT td ty tv)) := by
  refine PS_weak (ps_dput (by omega) ho hi hv hs) fun D σ H ⟨δ, g, E, rs, rg, h, k1, _⟩ => ?_
  refine ⟨δ, g, _, rs, rg, h, fun v g1 u H1 e1 rg1 rv h1 => ⟨δ, g1, _, rs.mono (e1.kp rg), rg1, h1, fun x g2 w H2 e2 rg2 rx h2 => ⟨δ, g2, _, rs.mono ((e1.trans e2).kp rg), rg2, h2, fun y g3 z H3 e3 rg3 ry h3 => ?_⟩⟩⟩
  obtain ⟨p, ks, ds, k, ex, eg, ek, hl, h3⟩ := h3
  subst ex
  cases rx
  obtain ⟨kvs, hp, ekk, rd⟩ := rg3 _ _ eg
  subst ekk
  have rv3 := (rv.mono (e2.kp rg1)).mono (e3.kp rg2)
  obtain ⟨z1, z2⟩ := putK_rd (k := k) rv3 rd
  obtain ⟨b, rfl, hb⟩ := keyT_of ry ek
  refine ⟨_, _, rfl, .inr ⟨kvs, k, b, hp, rfl, hb, ?_, rfl⟩, ?_⟩
  · have hl2 := rd.length
    rw [List.length_map] at hl2
    rw [← hl2]; exact hl
  have ex : Ext g H (gup g3 p (.dT (putKs (kvs.map (·.1)) k) (putDs (kvs.map (·.1)) ds k v))) (upd H3 p (.dT (putK kvs k u))) := ((e1.trans e2).trans e3).trans (Ext.set eg)
  exact k1 _ _ _ _ ex (rg3.setT eg z1 z2) (rs.mono (ex.kp rg)) h3
/-! ### {} -/
def dNewT : TDE := fun _ g Q => ∀ p, g p = none → Q (.ref p) (gup g p (.dT [] []))
def dNewTF : TDE := fun _ g Q => Q (.dT [] []) g
theorem pd_newT : PE X (.Dict [] [] pos) (upE X.K dNewT) := PE_weak pe_dnewT fun σ H Q ⟨δ, g, P, rs, rg, h, k⟩ p hp =>
  k _ _ _ _ (Ext.new hp) (RG.newT (kvs := []) rg hp rfl .nil) (.ref p) (h p (rg.none hp))
theorem pd_newTF : PE X (.Dict [] [] pos) (upE X.K dNewTF) := PE_weak (PE_fz pe_dnewT) fun σ H Q ⟨δ, g, P, rs, rg, h, k⟩ p hp => .inr ⟨p, .dT [], rfl, upd_same, trivial, fun o => by
  rw [upd_upd]
  exact k _ g _ _ (Ext.fresh rg hp) (rg.fresh hp) (.dT ⟨o, [], upd_same, rfl, rfl⟩ .nil) h⟩
/-! ### for k in d -/
/-! ### list(d), len(d) -/
theorem isKeys_rds {H : Hp} : ∀ {kvs : List (List Key × V)} {bs : List Addr}, IsKeys H kvs bs → RDs K H (kvs.map fun kv => keyDT kv.1) (bs.map V.ref)
  | _, _, .nil => .nil
  | _, _, .cons h t => .cons (.tup h (keysD_rd _)) (isKeys_rds t)
def rListT : List V → Hp → VK → Prop := fun xs H Q => ∃ d kvs, xs = [V.ref d] ∧ Rd H d (.dT kvs) ∧ ∀ p bs, H p = none → IsKeys H kvs bs → Q (.ref p) (upd H p (.lst (bs.map V.ref)))
theorem cr_listT (hc : X.calm = true) : CallR X (.type "list") rListT := call_list_dT hc
/-- list(d), to be changed -/
def rrListTM : RRsM := fun xs g P => ∃ x ks ds, xs = [x] ∧ dctT g x = some (ks, ds) ∧ ∀ p, g p = none → P (.ref p) (gup g p (.lst (ks.map keyDT)))
theorem ref_listTM : RefCallM K rrListTM rListT := by
  intro xs P vs H g Q rg r k ⟨x, ks, ds, ex, e, h⟩
  subst ex
  obtain ⟨v, rfl, rx⟩ := r.inj1
  obtain ⟨a, kvs, rfl, hd, ek, _⟩ := dctT_of rg rx e
  subst ek
  rw [List.map_map] at h
  exact ⟨a, kvs, rfl, hd, fun p bs hp hb => .inl (k _ _ _ _ (Ext.new hp) (rg.new hp (isKeys_rds hb)) (.ref p) (h p (rg.none hp)))⟩
/-! ### gcd -/
/-! ### bool(d) -/
end
end DL

/-! Deep layer AE: == of dicts with tuples as keys, alone or in tuples and lists. -/
namespace DL
open PySem PySem.Spec PyProof.Rows L2
open PySem.SeqAt (EqIn EqAt rcIn_lists rcIn_tuples)
section
variable {prog : Program} {w : World} {K : Type} [DecidableEq K] {knd : HeapKind prog w K} {A : Around} {E : Value → Shared → Prop} {s : Shared}
/-- what stands at a key, as one of a dict's entries tells it -/
def hitOk (prog : Program) (w : World) (A : Around) (s : Shared) (kb : List (K × Addr × Value)) (f : K → Bool) (x : K × Addr × Value) : Prop :=
  (atKey kb x.1 = none ∧ f x.1 = false) ∨ ∃ p, atKey kb x.1 = some p ∧ EqIn prog w A s x.2.2 p.2 (f x.1)
theorem samePairsH {nm : String} {a b : Addr} {ka kb : List (K × Addr × Value)} {f : K → Bool} {Q : Bool → Shared → Prop} (hu : knd.room A) (ha : (a == sysModules) = false) (hb : (b == sysModules) = false)
    (da : s.heap.DictOfH knd a ka) (db : s.heap.DictOfH knd b kb) (hits : ∀ x ∈ ka, hitOk prog w A s kb f x) (h : Q (ka.length == kb.length && ka.all fun x => f x.1) s) :
    wpAny (model prog w) A (Builtin.Dict.samePairs nm a b) Q E s := by
  obtain ⟨oa, es, ep, hoa, _, hda, hea, hisa, hna⟩ := da
  obtain ⟨ob, es', ep', hob, _, hdb, heb, hisb, hnb⟩ := db
  have hla : ka.length = es.size := (size_of_entries hea).symm
  have hlb : kb.length = es'.size := (size_of_entries heb).symm
  rw [hla, hlb] at h
  unfold Builtin.Dict.samePairs Builtin.Dict.showsAll
  rw [if_neg (show ¬ (a == sysModules) = true by rw [ha]; exact Bool.false_ne_true), if_neg (show ¬ (b == sysModules) = true by rw [hb]; exact Bool.false_ne_true)]
  refine wpAny_bind (wpAny_pure (wpAny_bind (wpAny_pure ?_)))
  refine wpAny_bind (wpAny_dictEntries hoa hda ?_)
  dsimp only
  refine wpAny_bind (wpAny_dictEntries hob hdb ?_)
  by_cases hsz : es.size = es'.size
  case neg =>
    rw [if_pos (by simpa using hsz)]
    have hbf : (es.size == es'.size) = false := by simpa using hsz
    rw [hbf, Bool.false_and] at h
    exact wpAny_bind (wpAny_rule (wpAny_pure h))
  case pos =>
    have h' : Q (ka.all fun x => f x.1) s := by simpa [hsz] using h
    rw [if_neg (by rw [hsz]; simp)]
    refine wpAny_bind (wpAny_dictEpoch hoa hda ?_)
    refine wpAny_bind ?_
    rw [Std.Legacy.Range.forIn_eq_forIn_range']
    simp only [Std.Legacy.Range.size, Nat.sub_zero, Nat.add_sub_cancel, Nat.div_one]
    refine wpAny_forIn_list _
      (fun rest q s' => s' = s ∧ q = (none, ()) ∧ ∃ i, rest = List.range' i (es.size - i) ∧ i ≤ es.size ∧ Q ((ka.drop i).all fun x => f x.1) s)
      _ ?_ ?_ _ _ ⟨rfl, rfl, 0, by simp, Nat.zero_le _, by rw [List.drop_zero]; exact h'⟩
    · rintro x rest q s' ⟨rfl, rfl, i, hr, hi, hpre⟩
      have hlt : i < es.size := by
        rcases Nat.lt_or_ge i es.size with h | h
        · exact h
        · rw [Nat.sub_eq_zero_of_le h] at hr; simp at hr
      obtain ⟨rfl, hrest⟩ : x = i ∧ rest = List.range' (i + 1) (es.size - (i + 1)) := by
        have e : es.size - i = (es.size - (i + 1)) + 1 := by omega
        rw [e, List.range'_succ] at hr
        injection hr with h1 h2
        exact ⟨h1, h2⟩
      have hlt' : x < ka.length := by rw [hla]; exact hlt
      obtain ⟨k, b1, v, hkv⟩ : ∃ k b v, ka[x] = (k, b, v) := ⟨_, _, _, rfl⟩
      have hdrop : ka.drop x = (k, b1, v) :: ka.drop (x + 1) := by rw [← hkv]; exact List.drop_eq_getElem_cons hlt'
      have hex : es[x]? = some (entryOfKey knd (k, b1, v)) := by
        rw [entry_at hea x, List.getElem?_eq_getElem hlt', hkv]
        rfl
      have hmem : (k, b1, v) ∈ ka := by rw [← hkv]; exact List.getElem_mem hlt'
      have hkey : knd.is s'.heap k b1 := hisa _ hmem
      have hit := hits _ hmem
      rw [hdrop, List.all_cons] at hpre
      refine wpAny_bind (wpAny_dictEntries hoa hda ?_)
      rw [hex]
      show wpAny _ _ (holding [Value.ref b1, v] _ >>= _) _ _ _
      refine wpAny_bind (wpAny_holding (wpAny_bind (wpAny_dictFind_heap hu hkey hob hdb heb hisb hnb ?_ ?_)))
      · intro hno
        have hn : atKey kb k = none := atKey_none_of_get hno
        rcases hit with ⟨_, er⟩ | ⟨p, hp, _⟩
        · have er' : f k = false := er
          dsimp only at hpre
          rw [er', Bool.false_and] at hpre
          refine wpAny_pure ?_
          show wpAny _ _ (if (!false) = true then _ else _) _ _ _
          rw [if_pos (by decide)]
          exact wpAny_pure (wpAny_pure hpre)
        · exact absurd (hn.symm.trans hp) (by simp)
      · intro j p hj
        have hp : atKey kb k = some p := atKey_of_get hnb hj
        refine wpAny_bind (wpAny_dictEntries hob hdb ?_)
        rw [entry_at heb j, hj]
        rcases hit with ⟨hn, _⟩ | ⟨p', hp', he⟩
        · exact absurd (hn.symm.trans hp) (by simp)
        · have ep : p' = p := Option.some.inj (hp'.symm.trans hp)
          subst ep
          have he' : EqIn prog w A s' v p'.2 (f k) := he
          refine wpAny_holding (he' _ _ ?_)
          dsimp only at hpre
          cases ef : f k with
          | false =>
            rw [ef, Bool.false_and] at hpre
            show wpAny _ _ (if (!false) = true then _ else _) _ _ _
            rw [if_pos (by decide)]
            exact wpAny_pure (wpAny_pure hpre)
          | true =>
            rw [ef, Bool.true_and] at hpre
            show wpAny _ _ (if (!true) = true then _ else _) _ _ _
            rw [if_neg (by decide)]
            refine wpAny_bind (wpAny_dictEpoch hoa hda ?_)
            rw [if_neg (by simp)]
            exact wpAny_pure ⟨rfl, rfl, x + 1, hrest, hlt, hpre⟩
    · rintro q s' ⟨rfl, rfl, i, hr, hi, hpre⟩
      have hin : i = es.size := by
        rcases Nat.lt_or_ge i es.size with h | h
        · have e : es.size - i = (es.size - (i + 1)) + 1 := by omega
          rw [e, List.range'_succ] at hr; exact nomatch hr
        · exact Nat.le_antisymm hi h
      refine wpAny_pure ?_
      rw [hin, ← hla, List.drop_length] at hpre
      exact hpre
end
end DL

/-! Deep layer AF: sorted(..) of tuples of ints of any lengths, () too. -/
namespace PySem.W
open PySem PySem.SeqAt PySem.Calls PyProof.Rows
section
variable {prog : Program} {w : World} {A : Around} {E : Value → Shared → Prop} {s : Shared}
theorem tup_lt_call {Q : Value → Shared → Prop} {l b : Addr} {items items2 : Array Value} {e r : Nat → Bool} (hl : s.heap.IsTuple l items) (hb : s.heap.IsTuple b items2)
    (he : ∀ j (h1 : j < items.size) (h2 : j < items2.size), EqAt A.in1 s items[j] items2[j] (e j)) (hr : ∀ j (h1 : j < items.size) (h2 : j < items2.size), e j = false → RcLt A.in1 s items[j] items2[j] (r j))
    (h : Q (.bool (firstLt e r (decide (items.size < items2.size)) (List.range (min items.size items2.size)))) s) : wpAny (model prog w) A (call (.builtin "tuple.__lt__") [.ref l, .ref b]) Q E s := by
  obtain ⟨⟨cls, dd, data, sl⟩, ho, hc, n, hd⟩ := id hl
  obtain ⟨⟨cls2, dd2, data2, sl2⟩, ho2, hc2, n2, hd2⟩ := id hb
  simp only at hc hd hc2 hd2
  subst hc hd hc2 hd2
  exact call_meets F.slot_tuple_lt ⟨_, ho, rfl⟩ F.entry_tuple_lt (F.args_tuple_lt_2 _ _) (tuple_ltAt l b items items2 n n2 dd dd2 sl sl2 e r) ⟨ho, ho2, he, hr, h⟩
theorem oneLt_tup {f : Bool} {xs ys : List PyData} {a b : Value} {as bs : List Addr} {Q : Bool → Shared → Prop} (ra : Reads s.heap a (.tuple xs) as) (rb : Reads s.heap b (.tuple ys) bs) (h : alike (.tuple xs) (.tuple ys) = true)
    (hu : A.units + min (PyData.tuple xs).depth (PyData.tuple ys).depth < cLine) (hq : Q (dataLt (.tuple xs) (.tuple ys)) s) : wpAny (model prog w) A (oneLt' f a b) Q E s := by
  cases f with
  | false => exact oneLt_alike (fun z => by cases z) ra rb h (by simp) hu hq
  | true =>
    have hal : alikeAll xs ys = true := by simpa [alike] using h
    cases ra with
    | @tuple l o vs n _ as₁ h1 h2 h3 h4 =>
      cases rb with
      | @tuple l' o' vs' n' _ bs₁ k1 k2 k3 k4 =>
        have n1 : vs.size = xs.length := by simpa using ReadsAll.length _ _ _ h4
        have n2 : vs'.size = ys.length := by simpa using ReadsAll.length _ _ _ k4
        rw [dataLt_tuple, ← firstLt_toks xs ys hal, ← n1, ← n2] at hq
        rw [oneLt'_eq]
        simp only [if_true]
        refine wpAny_bind (wpAny_cRoomFor (room_here hu) ?_)
        refine wpAny_bind (wpAny_callSpecialIfBound?_slot (T := "tuple") ⟨_, h1, h2⟩ F.slot_tuple_lt (tup_lt_call (e := pairEq xs ys) (r := fun j => dataLt (xs.getD j .none) (ys.getD j .none)) ⟨_, h1, h2, _, h3⟩ ⟨_, k1, k2, _, k3⟩ (fun j j1 j2 => ?_) (fun j j1 j2 hj => ?_) ?_))
        · have := eqAt_alikeAll xs ys A.in1 s vs.toList vs'.toList _ _ h4 k4 hal (room_in hu) j (by simpa using j1) (by simpa using j2)
          simpa using this
        · have := rcLt_alikeAll xs ys A.in1 s vs.toList vs'.toList _ _ h4 k4 hal (room_in hu) j (by simpa using j1) (by simpa using j2) hj
          simpa using this
        · exact wpAny_truthy_bool hq
def nonE : PyData → Bool
  | .tuple [] => false
  | _ => true
theorem firsts_any {M : Model} : ∀ {vs : List Value} {ds : List PyData}, EachIs (fun v d => ∃ as, Reads s.heap v d as) vs ds → (∀ d, d ∈ ds → ∃ r, d = .tuple r) → ∃ os : List (Option Value), os.map (·.isSome) = ds.map nonE ∧
    ∀ {Q : List (Option Value) → Shared → Prop}, Q os s → wpAny M A (vs.mapM firstOfTuple') Q E s
  | _, _, .nil, _ => ⟨[], rfl, fun h => by rw [List.mapM_nil]; exact wpAny_pure h⟩
  | _, _, .cons (a := v) (as := vs) (b := d) ⟨as, r⟩ t, ht => by
    obtain ⟨os, h1, h2⟩ := firsts_any (M := M) t fun d hd => ht d (List.mem_cons_of_mem _ hd)
    obtain ⟨rest, rfl⟩ := ht d (List.mem_cons_self ..)
    cases r with
    | @tuple a o xs n _ _ ho hc hd hr =>
      refine ⟨xs[0]? :: os, ?_, fun {Q} hq => ?_⟩
      · rw [List.map_cons, List.map_cons, h1]
        congr 1
        have n1 : xs.size = rest.length := by simpa using SeqAt.ReadsAll.length _ _ _ hr
        cases rest with
        | nil =>
          have z : xs[0]? = none := Array.getElem?_eq_none (by rw [n1]; exact Nat.le_refl _)
          rw [z]; rfl
        | cons x r =>
          have z : 0 < xs.size := by rw [n1]; simp
          rw [Array.getElem?_eq_getElem z]; rfl
      · rw [List.mapM_cons]
        refine wpAny_bind ?_
        rw [kas_first_eq]
        refine wpAny_bind (Looks.here (show Looks M s.heap (typeOf (.ref a)) o.cls from (Looks.ld ho).andThen .now) ?_)
        rw [hc, if_neg (by first | decide | simp)]
        refine wpAny_bind (listItems_at ho hd (wpAny_pure ?_))
        exact wpAny_bind (h2 (wpAny_pure hq))
theorem kind_any {vs : List Value} {ds : List PyData} {Q : SortKind → Shared → Prop} (e : EachIs (fun v d => ∃ as, Reads s.heap v d as) vs ds) (ht : ∀ d, d ∈ ds → ∃ r, d = .tuple r) (h2 : 2 ≤ vs.length) (hz : .tuple [] ∈ ds)
    (h : Q (if (ds.head?.map nonE).getD false then general' else oneType') s) : wpAny (model prog w) A (keyKind' vs.toArray) Q E s := by
  obtain ⟨os, h1, hm⟩ := firsts_any (M := model prog w) (A := A) (E := E) e ht
  rw [kat_kind_eq, List.mapM_toArray, map_eq_pure_bind]
  refine wpAny_bind (wpAny_bind (hm (wpAny_pure ?_)))
  have hall : ¬ (os.toArray.all fun x => x.isSome) = true := by
    rw [List.all_toArray, List.all_eq_true]
    intro q
    have : (os.map (·.isSome)).all id = true := by
      rw [List.all_eq_true]
      intro b hb
      obtain ⟨o, ho, rfl⟩ := List.mem_map.mp hb
      exact q o ho
    rw [h1, List.all_eq_true] at this
    have := this _ (List.mem_map.mpr ⟨_, hz, rfl⟩)
    exact absurd this (by simp [nonE])
  rw [if_neg hall]
  have hh : ((os.toArray[0]?.bind id).isSome) = (ds.head?.map nonE).getD false := by
    cases os with
    | nil =>
      cases ds with
      | nil => rfl
      | cons d r => rw [List.map_nil, List.map_cons] at h1; cases h1
    | cons o os =>
      cases ds with
      | nil => rw [List.map_nil, List.map_cons] at h1; cases h1
      | cons d r =>
        rw [List.map_cons, List.map_cons] at h1
        obtain ⟨z, _⟩ := List.cons.inj h1
        simp [← z]
  rw [hh]
  by_cases c : (ds.head?.map nonE).getD false = true
  · rw [if_pos c] at h ⊢
    exact wpAny_pure h
  · rw [if_neg c] at h ⊢
    have hT : ∀ v ∈ vs, Looks (model prog w) s.heap (typeOf v) (.type "tuple") := fun v hv => by
      obtain ⟨d, hd, as, r⟩ := e.left v hv
      obtain ⟨rest, rfl⟩ := ht d hd
      exact looks_reads r
    obtain ⟨v₁, v₂, rest, rfl⟩ : ∃ v₁ v₂ rest, vs = v₁ :: v₂ :: rest := by
      match vs, h2 with
      | [], h2 => simp at h2
      | [_], h2 => simp at h2
      | v₁ :: v₂ :: rest, _ => exact ⟨v₁, v₂, rest, rfl⟩
    rw [oneTypeOnly'_eq, List.mapM_toArray, map_eq_pure_bind]
    refine wpAny_bind (wpAny_bind (wpAny_bind (kas_mapM (r := Value.type "tuple") _ (fun v hv Q' hq => (hT v hv).here hq) (wpAny_pure ?_))))
    have hall : ((List.map (fun _ => Value.type "tuple") (v₁ :: v₂ :: rest)).toArray.all fun x => x == Value.type "tuple") = true := by
      simp only [List.all_toArray, List.all_map, List.all_eq_true]
      intro _ _
      exact beq_self_eq_true _
    have h0 : (List.map (fun _ => Value.type "tuple") (v₁ :: v₂ :: rest)).toArray[0]? = some (Value.type "tuple") := by simp
    rw [h0]
    simp only [hall, if_true]
    exact wpAny_pure (wpAny_pure h)
theorem keyLt_general (x y : Value) : keyLt' general' x y = oneLt' false x y := rfl
/-- tuples of any lengths, () too -/
theorem SortsAt.tups {vs : List Value} {ds : List PyData} (e : EachIs (fun v d => ∃ as, Reads s.heap v d as) vs ds) (hal : AllAlike ds) (ht : ∀ d, d ∈ ds → ∃ r, d = .tuple r) (hu : ∀ d, d ∈ ds → A.units + d.depth < cLine) : SortsAt prog w A s (dataKind s.heap ds) vs := by
  by_cases hz : .tuple [] ∈ ds
  · refine ⟨fun v hv => ?_, ?_⟩
    · obtain ⟨d, hd, as, r⟩ := e.left v hv
      exact ⟨_, dataKind_some hal hd r⟩
    · refine ⟨if (ds.head?.map nonE).getD false then general' else oneType', ?_, fun h2 E Q hq => kind_any e ht h2 hz hq⟩
      intro E x y a b Q ha hb hq
      obtain ⟨d, as, hd, ra, rfl⟩ := dataKind_inv ha
      obtain ⟨d', as', hd', rb, rfl⟩ := dataKind_inv hb
      obtain ⟨r1, rfl⟩ := ht d hd
      obtain ⟨r2, rfl⟩ := ht d' hd'
      have room : A.units + min (PyData.tuple r1).depth (PyData.tuple r2).depth < cLine := Nat.lt_of_le_of_lt (Nat.add_le_add_left (Nat.min_le_left _ _) _) (hu _ hd)
      by_cases c : (ds.head?.map nonE).getD false = true
      · rw [if_pos c, keyLt_general]
        exact oneLt_tup ra rb (hal _ hd _ hd') room hq
      · rw [if_neg c, keyLt'_oneType]
        exact oneLt_tup ra rb (hal _ hd _ hd') room hq
  · refine SortsAt.data e hal (.inl fun d hd => ?_) hu
    obtain ⟨r, rfl⟩ := ht d hd
    cases r with
    | nil => exact absurd hd hz
    | cons x r => exact ⟨x, r, rfl⟩
end
end PySem.W

namespace DL
open PySem PySem.Spec PyProof.Rows L2
section
variable {X : Cx} {pinz : List (Addr × Obj)} {σ : L2.St} {H : Hp} {s : Shared} {a : Addr} {L : List (List Int)} {K : Fg}
def leL : List Int → List Int → Bool := fun a b => decide (a ≤ b)
abbrev encP : List Int × Addr → PyData := fun p => .tuple (p.1.map PyData.int)
theorem encP_le : PySem.W.dataLe false encP = fun a b => leL a.1 b.1 := by
  rw [PySem.W.dataLe_eq]
  funext a b
  have h := dle_tuI a.1 b.1
  unfold dleD at h
  rw [show (tuI b.1).py = encP b from py_tI b.1, show (tuI a.1).py = encP a from py_tI a.1] at h
  exact h
theorem reads_ints {h : Heap} : ∀ {its : List Value} {ns : List Int}, IntsAre its ns → ReadsAll h its (ns.map PyData.int) []
  | _, _, .nil => .nil
  | _, _, .cons x t r => .cons (as := []) (.int x t) (reads_ints r)
theorem reads_ps {h : Heap} (hh : ∀ p : List Int × Addr, H p.2 = some (.tup (p.1.map V.int)) → ∃ as, Reads h (Value.ref p.2) (encP p) as) : ∀ {ps : List (List Int × Addr)}, (∀ p ∈ ps, H p.2 = some (.tup (p.1.map V.int))) →
    PySem.W.EachIs (fun v d => ∃ as, Reads h v (encP d) as) ((ps.map Prod.snd).map Value.ref) ps
  | [], _ => .nil
  | p :: ps, hp => .cons (hh p (hp p List.mem_cons_self)) (reads_ps hh fun q hq => hp q (List.mem_cons_of_mem _ hq))
theorem sortT_src {Q : VK} (hr : X.A.units + 64 < cLine) (calm : X.A.handled = none) (I : Inv X pinz σ H s) (h : SrcT X.K H a L) (hz : L.length ≤ sizeLine)
    (q : ∀ bs p, Tups H (L.mergeSort leL) bs → H p = none → Q (.ref p) (upd H p (.lst (bs.map V.ref)))) : wpAny (model X.prog X.w) X.A (call (.builtin "sorted") [.ref a]) (EP X pinz σ Q) X.xe s := by
  refine Calls.call_function_entry kind_sorted plain_sorted entry_sorted (args_sorted1 _) ?_
  unfold Builtin.«sorted»
  refine wpAny_bind (m := checkCount "sorted" 1 1 _) (wpAny_pure ?_)
  refine wpAny_bind (collect_src (A := X.A.in1) calm I h hz fun h' tk bs kp ht => ?_)
  obtain ⟨ps, e1, e2, hp⟩ := tups_zip ht
  have lb : bs.length ≤ sizeLine := by rw [← ht.length]; exact hz
  refine wpAny_bind (wpAny_newList ?_ (by rw [List.length_map]; exact lb))
  obtain ⟨l, hl⟩ : ∃ l, l = h'.objs.size := ⟨_, rfl⟩
  have at0 : (h'.push (seqObj "list" (bs.map Value.ref).toArray 0)).get? l = some (seqObj "list" (bs.map Value.ref).toArray 0) := by rw [hl]; exact Heap.get?_push_size _ rfl
  have old : ∀ b o, s.heap.get? b = some o → b ≠ l ∧ (h'.push (seqObj "list" (bs.map Value.ref).toArray 0)).get? b = some o := fun b o e =>
    ⟨by rw [hl]; exact Nat.ne_of_lt (Heap.lt_size (kp b o e)), Heap.get?_push_of_some _ (kp b o e)⟩
  show wpAny _ _ (holding [Value.ref h'.objs.size] (call (.builtin "list.sort") [Value.ref h'.objs.size] _) >>= _) _ _ { s with heap := h'.push (seqObj "list" (bs.map Value.ref).toArray 0), toks := tk }
  rw [← hl]
  generalize hh0 : h'.push (seqObj "list" (bs.map Value.ref).toArray 0) = h0 at at0 old ⊢
  have ew := each_refs (H := H) (ps := ps)
  rw [e2] at ew
  have lp : ps.length = bs.length := by rw [← e2, List.length_map]
  let hs : Heap := PySem.W.sortingHeap h0 l (bs.map Value.ref)
  have er : PySem.W.EachIs (fun v d => ∃ as, Reads hs v (encP d) as) (bs.map Value.ref) ps := by
    rw [← e2]
    refine reads_ps (H := H) (fun p hm => ?_) hp
    obtain ⟨z, its, rv, o, g1, g2, n, g3⟩ := (show ObjOk X.prog X.w H s.heap p.2 (.tup (p.1.map V.int)) from I.hok _ _ hm)
    have g0 := old _ _ g1
    exact ⟨_, .tuple (PySem.W.sortingHeap_old g0.1 g0.2) g2 g3 (reads_ints (intsAre_of rv))⟩
  have hal : PySem.W.AllAlike (ps.map encP) := PySem.W.AllAlike.of fun b b' => by simp only [encP, PySem.W.alike]; exact PySem.W.alike_ints _ _
  refine wpAny_bind (wpAny_holding (wpAny_call_entry slot_list_sort ⟨_, at0, rfl⟩ entry_list_sort (PySem.W.list_sort_vals (κ := PySem.W.dataKind hs (ps.map encP)) (s := { s with heap := h0, toks := tk }) at0
    (PySem.W.SortsAt.tups (s := { s with heap := hs, toks := tk }) (PySem.W.each_map (R := fun v d => ∃ as, Reads hs v d as) encP er) hal (fun d hd => ?_) (fun d hd => ?_)) (by rw [List.length_map]; exact lb) ⟨.none, rfl, ?_⟩) (args_list_sort _)))
  · obtain ⟨b, _, rfl⟩ := List.mem_map.mp hd
    exact ⟨_, rfl⟩
  · obtain ⟨b, _, rfl⟩ := List.mem_map.mp hd
    have : (encP b).depth ≤ 1 := by
      show PyData.depth (.tuple (b.1.map PyData.int)) ≤ 1
      rw [PyData.depth, PySem.W.depth_ints]
      omega
    show X.A.units + 1 + 1 + _ < cLine
    omega
  have eo := PySem.W.sortVals_data (h' := hs) (enc := encP) false ew er hal
  rw [encP_le] at eo
  have ho := PySem.W.sortVals_length (κ := PySem.W.dataKind hs (ps.map encP)) false (ks := bs.map Value.ref) (vs := bs.map Value.ref) rfl
  generalize PySem.W.sortVals (PySem.W.dataKind hs (ps.map encP)) false (bs.map Value.ref) (bs.map Value.ref) = out at eo ho ⊢
  have ew2 := each_back eo
  refine wpAny_pure ⟨_, rfl, ?_⟩
  obtain ⟨c, hc⟩ := PyProof.Rows.sortedHeap_at (vs := bs.map Value.ref) (out := out.toArray) at0
  have perm := List.mergeSort_perm ps fun a b => leL a.1 b.1
  have em : (ps.mergeSort fun a b => leL a.1 b.1).map Prod.fst = L.mergeSort leL := by
    rw [← e1]
    exact List.map_mergeSort (r := fun a b => leL a.1 b.1) (s := leL) (f := Prod.fst) (l := ps) fun a _ b _ => rfl
  have ht2 : Tups H (L.mergeSort leL) ((ps.mergeSort fun a b => leL a.1 b.1).map Prod.snd) := by
    rw [← em]
    exact tups_of fun p hm => hp p (perm.mem_iff.mp hm)
  have J1 : Inv X pinz σ H { s with heap := h', toks := tk } := I.kept kp
  have k2 : ∀ b o, h'.get? b = some o → (PyProof.Rows.sortedHeap h0 l (bs.map Value.ref) out.toArray).get? b = some o := fun b o e => by
    have hb : b < h'.objs.size := Heap.lt_size e
    have sz : h0.objs.size = h'.objs.size + 1 := by rw [← hh0, size_push']
    rw [PyProof.Rows.sortedHeap_old (by rw [hl]; exact Nat.ne_of_lt hb) (by rw [sz]; exact Nat.lt_succ_of_lt hb), ← hh0]
    exact Heap.get?_push_of_some _ e
  refine ⟨.ref l, upd H l (.lst (((ps.mergeSort fun a b => leL a.1 b.1).map Prod.snd).map V.ref)), J1.laid (t' := tk) k2 (Nat.le_of_eq hl.symm) ⟨by rw [List.length_map, List.length_map, List.length_mergeSort, lp]; exact lb, out, c, by rw [ew2]; exact tups_refs _, hc⟩, rfl, q _ _ ht2 (J1.hok.fresh (Nat.le_of_eq hl.symm))⟩
def RSortT (K : Fg) : List V → Hp → VK → Prop := fun xs H Q => ∃ a L, xs = [V.ref a] ∧ L.length ≤ sizeLine ∧ SrcT K H a L ∧ ∀ bs p, Tups H (L.mergeSort leL) bs → H p = none → Q (.ref p) (upd H p (.lst (bs.map V.ref)))
theorem cr_sortT (hr : X.A.units + 64 < cLine) (calm : X.calm = true) : CallR X (.builtin "sorted") (RSortT X.K) := by
  intro pins s σ H xs us Q I r ⟨a, L, ex, hz, src, q⟩
  subst ex
  obtain rfl := Vals.ref1 r
  exact sortT_src hr (I.ok.hd calm) I src hz q
/-- x: tuples of ints in a list or a dict's keys -/
def rrSortT : RRs := rr1 fun x g P => ∃ L, ItT g x L ∧ L.length ≤ sizeLine ∧ P (.lst ((L.mergeSort leL).map tuI))
theorem ref_sortT : RefCall K rrSortT (RSortT K) := by
  intro xs P vs H g Q rg r k h
  obtain ⟨x, v, rfl, rfl, rx, L, hi, hz, h⟩ := rr1_of r h
  obtain ⟨a, rfl, hsrc⟩ := itT_src rg rx hi
  exact ⟨a, L, rfl, hz, hsrc, fun bs p ht hp => fz_lift rg k (tuI_rds ht) h p hp⟩
theorem rd_sortT {g : DG} {x : DV} {P : DV → Prop} {L : List (List Int)} (hi : ItT g x L) (hz : L.length ≤ 16777216) (h : P (.lst ((L.mergeSort leL).map tuI))) : rrSortT [x] g P := ⟨L, hi, by rw [sizeLine_eq]; exact hz, h⟩
end
end DL

/-! Deep layer AG: == and != where dicts with tuples as keys stand, alone or in tuples and lists; bool, len, copies of such dicts. -/
namespace DL
open PySem PySem.Spec PyProof.Rows L2
open PySem.SeqAt (EqIn EqAt rcIn_lists rcIn_tuples)
section
variable {K : Fg} {H : Hp}
end
section
variable {X : Cx} {pins : List (Addr × Obj)} {σ : L2.St} {H : Hp} {s : Shared}
/-! ### d != e -/
end
end DL

/-! Deep layer AH: dict(d), dict(pairs), bool(d), max(xs, default=d), -x of an instance, defaults. -/
namespace DL
open PySem PySem.Spec PyProof.Rows L2
section
variable {prog : Program} {w : World} {A : Around} {E : Value → Shared → Prop} {s : Shared}
/-- dict(d) -/
theorem call_dictT {o : Addr} {more : List (List Key × Addr × Value)} {Q : Value → Shared → Prop} (hu : A.units + 8 < cLine) (hoS : (o == sysModules) = false) (ho : s.heap.DictOfH (tupleKind (mixKind prog w)) o more)
    (hap : (more.map fun x => (tupleKind (mixKind prog w)).hash x.1).Nodup) (hsz : more.length ≤ sizeLine)
    (h : ∀ h', h'.DictOfH (tupleKind (mixKind prog w)) s.heap.objs.size more → (∀ b o, s.heap.get? b = some o → h'.get? b = some o) → Q (.ref s.heap.objs.size) { s with heap := h' }) :
    wpAny (model prog w) A (call (.type "dict") [.ref o]) Q E s := by
  refine callType_codes (Q₁ := fun obj s₁ => obj = .ref s.heap.objs.size ∧ s₁ = { s with heap := s.heap.push { cls := .type "dict", data := .dict #[] } }) PySem.F.kt_called_dict (PySem.F.kt_typeCall_dict_1 _) PySem.F.entry_dict_init (kt_code_dict_new _ ⟨rfl, rfl⟩) ?_
  rintro obj s₁ ⟨rfl, rfl⟩
  have hnew : (s.heap.push { cls := .type "dict", data := .dict #[] }).DictOfH (tupleKind (mixKind prog w)) s.heap.objs.size [] := Heap.DictOfH.new s.heap
  have hty : ∀ x ∈ more, Shared.TypeIs { s with heap := s.heap.push { cls := .type "dict", data := .dict #[] } } (.ref x.2.1) "tuple" := fun x hx => by
    obtain ⟨_, _, _, _, _, _, _, his, _⟩ := id ho
    obtain ⟨ob, hob, hc⟩ := tupleKind_stays.tuple (s := s) (his x hx)
    exact ⟨ob, Heap.get?_push_of_some _ hob, hc⟩
  have ho' : (s.heap.push { cls := .type "dict", data := .dict #[] }).DictOfH (tupleKind (mixKind prog w)) o more := ho.at' (fun o e => Heap.get?_push_of_some _ e) fun y hy => by
    obtain ⟨_, _, _, _, _, _, _, his, _⟩ := id ho
    exact tupleKind_stays.stays (fun b o vs n e _ => Heap.get?_push_of_some _ e) (his y hy)
  have hn : (more.map (·.1)).Nodup := let ⟨_, _, _, _, _, _, _, _, hn⟩ := ho; hn
  have hdo : s.heap.objs.size ≠ o := by
    obtain ⟨_, _, _, hg, _⟩ := ho
    exact fun e => absurd (Heap.lt_size hg) (by rw [e]; exact Nat.lt_irrefl _)
  refine ⟨hnew.typeIs, PySem.F.args_dict_init_2 _ _, ?_⟩
  unfold Builtin.«dict.__init__»
  refine wpAny_bind ?_
  unfold Builtin.Dict.selfAndRest
  refine wpAny_bind (wpAny_notOrdered_dict hnew.typeIs ?_)
  show wpAny _ _ (pure (s.heap.objs.size, [Value.ref o])) _ _ _
  refine wpAny_pure ?_
  show wpAny _ _ (Builtin.Dict.updateFrom "dict.__init__" s.heap.objs.size (.ref o) [] .none) _ _ _
  refine updateFrom_dictH (A := A.in1) .none (show A.in1.in1.units < cLine from by show A.units + 1 + 1 < cLine; omega) hdo hoS hnew ho' (.inr ⟨hty, hap⟩) (by simpa using hsz) fun h' hd' _ hs => ?_
  rw [storedAllH_nil_of_nodup more hn] at hd'
  exact ⟨rfl, h h' hd' fun b ob e => (hs.2 b (Nat.ne_of_lt (Heap.lt_size e))).trans (Heap.get?_push_of_some _ e)⟩
end
section
variable {X : Cx} {K : Fg} {pins : List (Addr × Obj)} {σ : L2.St} {H : Hp} {s : Shared}
/-- no two keys hash alike -/
def HashOk (ks : List (List Key)) : Prop := ∀ (P : Program) (w : World), (ks.map (tupleKind (mixKind P w)).hash).Nodup
theorem kt_new (I : Inv X pins σ H s) {p : Addr} {kvs : List (List Key × V)} {h' : Heap} {xs : List (List Key × Addr × Value)} (z : kvs.length ≤ sizeLine) (hp : s.heap.objs.size ≤ p) (hn : H p = none) (r : KT H kvs xs) (d : h'.DictOfH (tupleKind (mixKind X.prog X.w)) p xs) :
    ObjOk X.prog X.w (upd H p (.dT kvs)) h' p (.dT kvs) := by
  obtain ⟨o, es, ep, h1, h2, h3, h4, _, h5⟩ := d
  refine ⟨z, beq_eq_false_iff_ne.mpr (Nat.ne_of_gt (Nat.lt_of_lt_of_le I.big hp)), xs, r.keeps fun b ys e => ?_, o, es, ep, h1, h2, h3, h4, h5⟩
  rw [upd_ne (ne_of_none e hn)]
  exact e
def rDictT : List V → Hp → VK → Prop := fun xs H Q => ∃ a kvs, xs = [V.ref a] ∧ Rd H a (.dT kvs) ∧ HashOk (kvs.map (·.1)) ∧ ∀ p, H p = none → Q (.ref p) (upd H p (.dT kvs))
theorem kt_fst {H : Hp} {l : List (List Key × V)} {m : List (List Key × Addr × Value)} (q : KT H l m) : l.map (·.1) = m.map (·.1) := by
  induction q with
  | nil => rfl
  | cons hq _ ih => rw [List.map_cons, List.map_cons, ih, hq.1]
theorem cr_dictT (hu : X.A.units + 64 < cLine) : CallR X (.type "dict") rDictT := by
  intro pins s σ H xs us Q I r ⟨a, kvs, ex, hd, hh, q⟩
  subst ex
  obtain rfl := Vals.ref1 r
  obtain ⟨z, y, ys, rel, dd⟩ := dt_rd I.hok hd
  have l1 : kvs.length = ys.length := Paired.length rel
  have hh2 := hh X.prog X.w
  rw [kt_fst rel, List.map_map] at hh2
  refine call_dictT (by omega) y dd hh2 (by omega) fun h' dd' k => ?_
  have hn : H s.heap.objs.size = none := I.hok.fresh (Nat.le_refl _)
  exact ⟨.ref _, _, I.laid (t' := s.toks) k (Nat.le_refl _) (kt_new I z (Nat.le_refl _) hn rel dd'), rfl, q _ hn⟩
/-! ### dict(pairs) -/
/-! ### bool(d), len(d) -/
end
section
variable {prog : Program} {w : World} {A : Around} {E : Value → Shared → Prop} {s : Shared}
end
section
variable {X : Cx} {K : Fg}
end
end DL

/-! Deep layer AI: max(xs, default=d), -x of an instance, defs with a default. -/
namespace DL
open PySem PySem.Spec PyProof.Rows L2 He
section
variable {X : Cx} {K : Fg} {pinz : List (Addr × Obj)} {σ : L2.St} {H : Hp} {s : Shared}
/-! ### -x by its own __neg__ -/
variable {C f : Addr} {n : Nat} {sp : Sp} {sd : SpD} {EX : XK} {CX : CXT} {a : Expr} {ta : TDE} {pos : Pos}
/-! ### defs with defaults that are ints -/
def spDf (es : List DV) (sp : SpD) : SpD := fun ds g P => sp (ds ++ es) g P
theorem rd_spDf {es ds : List DV} {g : DG} {P : DV → DG → Prop} (h : sd (ds ++ es) g P) : spDf es sd ds g P := h
structure MtdD (K : Fg) (C : Addr) (x qual : Str) (st : Stmt) (ps : List Str) (dv : List Int) (f : Addr) (fd : FuncData) : Prop where
  fn : FunD K x qual (defArgs st) (defBody st) (defScope st) (dv.map V.int) [] f fd
  bd : Binds K fd ps []
  bd1 : ∃ ds, Vals (dv.map V.int) ds ∧ Binds K fd ps ds
  at_ : PySem.W.findIn K (.ref C) x = some (some (.ref f))
  isf : PySem.W.isFn K (.ref f) = true
theorem MtdD.meth {K : Fg} {C : Addr} {x qual : Str} {st : Stmt} {ps : List Str} {dv : List Int} {f : Addr} {fd : FuncData} (D : MtdD K C x qual st ps dv f fd) : Meth K C x f := ⟨D.at_, D.isf, D.fn.kp⟩
theorem fun_okDD {P : Program} {w : World} {K : Fg} {mg : Str → Option Value} {base : Heap} {x qual : Str} {st : Stmt} {f : Addr} {fd : FuncData} {N ps : List Str} {k : Nat} {sp : SpD} {dvs : List V} (F : FunD K x qual (defArgs st) (defBody st) (defScope st) dvs [] f fd) (S : FnScope N ps (defScope st))
    (len : ∀ ds g Q, sp ds g Q → ds.length = ps.length)
    (hbody : ∀ (cdv : Value) (A : Around) (outer : List Env) (s : Shared) (H : Hp) (E : XK), Room k (A.deeper (envOfC qual (defScope st) s.heap.objs.size f cdv)) →
      ∃ t : TDS, PSs (cxOf CX0 P w K mg base N qual (defScope st) f cdv A outer s H E).nox (defBody st) (upS K t) ∧ ∀ ds g Q, sp ds g Q → t (dEnds Q) (startD N ds) g) :
    FnOk P w K mg base CX0 (k + 1) f fd ps (upSp K sp) := by
  refine F.ok S (fun vs H Q E ⟨ds, g, R, rd, rg, h, _⟩ => by rw [← rd.length]; exact len _ _ _ h) fun cdv A outer s H vs Q E hr ⟨ds, g, R, rd, rg, h, k⟩ => ?_
  obtain ⟨t, ht, hq⟩ := hbody cdv A outer s H E hr
  refine ⟨_, ht.nox, startD N ds, g, dEnds R, start_rs rd, rg, hq ds g R h, fun δ' g' σ' H' e rg' _ z => ?_, fun d g' v H' e rg' rv z => ?_, fun _ _ _ _ _ _ _ z => z, fun _ _ _ _ _ _ _ z => z⟩
  · obtain ⟨g2, su, z⟩ := z
    exact k _ g2 _ _ (su.ext e) (su.rg rg') .non z
  · obtain ⟨g2, su, z⟩ := z
    exact k _ g2 _ _ (su.ext e) (su.rg rg') rv z
theorem FnOk_r1 {P : Program} {w : World} {K : Fg} {mg : Str → Option Value} {base : Heap} {CX : CXT} {k : Nat} {f : Addr} {fd : FuncData} {ps : List Str} {sp : SpD} {dv : List Int} (F : FnOk P w K mg base CX k f fd ps (upSp K sp)) (hb : ∃ ds, Vals (dv.map V.int) ds ∧ Binds K fd ps ds) :
    FnR P w K mg base CX k f (upSp K (spDf (dv.map DV.int) sp)) := by
  obtain ⟨ds, hv, hb⟩ := hb
  exact (F.raw hb hv).imp fun vs H Q E ⟨es, g, R, rd, rg, h, k⟩ => ⟨es ++ dv.map DV.int, g, R, rd.append (RDs.ofInts _), rg, h, k⟩
theorem funD_mk {K : Fg} {x qual : Str} {st : Stmt} {f : Addr} {oc dV : Value} {od an : Option Addr} {osl : Array (Option Value)} {kV doc pm cdv ct : Value} {dv : List Int} (l : K.lookup f = some ⟨oc, od, .func (PySem.W.fnOf x qual (defArgs st) (defBody st) (defScope st) dV kV doc pm an cdv ct), osl⟩)
    (c : PySem.W.codeIn K cdv qual = true) (k : PySem.W.keepIn K (.ref f) = true) (d : dflB K dV (dv.map V.int) = true) : FunD K x qual (defArgs st) (defBody st) (defScope st) (dv.map V.int) [] f (PySem.W.fnOf x qual (defArgs st) (defBody st) (defScope st) dV kV doc pm an cdv ct) :=
  ⟨⟨oc, od, dV, kV, doc, pm, an, cdv, ct, osl, rfl, l, c, dflB_ok d, .inl rfl⟩, k⟩
theorem funD_all {K : Fg} {x qual : Str} {st : Stmt} {f : Addr} {fd : FuncData} {ps : List Str} {dv : List Int} (F : FunD K x qual (defArgs st) (defBody st) (defScope st) (dv.map V.int) [] f fd) (hd : dv ≠ [])
    (h : ∀ (T : Addr) (kV doc pm : Value) (an : Option Addr) (cdv ct : Value) (us its : List Value), us.length = ps.length → its.length = dv.length →
      ∃ k, bindArgs (PySem.W.fnOf x qual (defArgs st) (defBody st) (defScope st) (.ref T) kV doc pm an cdv ct) ⟨us, []⟩ = seqItems? (.ref T) >>= k ∧ k (some its.toArray) = pure (ps.zip us)) : Binds K fd ps [] := by
  obtain ⟨ds, hv, hb⟩ := F.binds1 ps.length dv.length (by simpa using hd) (by rw [List.length_map, Nat.sub_self]; rfl) fun T kV doc pm an cdv ct us its h1 h2 => by
    rw [List.length_map] at h2
    rw [List.drop_of_length_le (by omega), List.append_nil]
    exact h T kV doc pm an cdv ct us its h1 h2
  rw [List.drop_of_length_le (by rw [List.length_map]; exact Nat.le_refl _)] at hv
  cases hv
  exact hb
theorem funD_few {K : Fg} {x qual : Str} {st : Stmt} {f : Addr} {fd : FuncData} {ps : List Str} {dv : List Int} (F : FunD K x qual (defArgs st) (defBody st) (defScope st) (dv.map V.int) [] f fd) (hd : dv ≠ []) (n : Nat) (hn : n + dv.length = ps.length)
    (h : ∀ (T : Addr) (kV doc pm : Value) (an : Option Addr) (cdv ct : Value) (us its : List Value), us.length = n → its.length = dv.length →
      ∃ k, bindArgs (PySem.W.fnOf x qual (defArgs st) (defBody st) (defScope st) (.ref T) kV doc pm an cdv ct) ⟨us, []⟩ = seqItems? (.ref T) >>= k ∧ k (some its.toArray) = pure (ps.zip (us ++ its))) : ∃ ds, Vals (dv.map V.int) ds ∧ Binds K fd ps ds := by
  exact F.binds1 n 0 (by simpa using hd) (by rw [List.length_map]; exact hn) fun T kV doc pm an cdv ct us its h1 h2 => by
    rw [List.length_map] at h2
    exact h T kV doc pm an cdv ct us its h1 h2
end
end DL

/-! Deep layer AJ: displays of dicts with tuples as keys; readings. -/
namespace DL
open PySem PySem.Spec PyProof.Rows L2
section
variable {X : Cx} {K : Fg}
end
/-! ### readings -/
section
variable {δ : DS} {g : DG} {E : DEnds} {Q : DV → DG → Prop} {P : DV → Prop} {a b c : TDE} {x y v z d : DV} {ds es : List DV} {ks ls : List (List Key)} {ns ms : List Int} {p C : Addr} {k : List Key} {sp : SpD} {R : DG → Prop} {RL : List DV → DG → Prop}
theorem rd_dget (h : a δ g fun x g1 => b δ g1 fun y g2 => ∃ d, atD g2 x y = some (some d) ∧ Q d g2) : dGet a b δ g Q := h
theorem rd_dget2 (h : a δ g fun x g1 => isDct g1 x = true ∧ b δ g1 fun y g2 => c δ g2 fun z g3 => ∃ r, atD g3 x y = some r ∧ Q (r.getD z) g3) : dGet2 a b c δ g Q := h
theorem rd_isd {W : Prop} (h : W) : isDct g (.dT ks ds) = true ∧ W := ⟨rfl, h⟩
theorem atD_T (e : keyT y = some k) : atD g (.dT ks ds) y = some (valD ks ds k) := by unfold atD; rw [show dctT g (.dT ks ds) = some (ks, ds) from rfl, e]
theorem atD_R (eg : g p = some (.dT ks ds)) (e : keyT y = some k) : atD g (.ref p) y = some (valD ks ds k) := by
  unfold atD
  rw [show dctT g (.ref p) = some (ks, ds) by unfold dctT; dsimp only; rw [eg], e]
theorem rd_dIn {neg : Bool} {r : Option DV} (e : atD g x y = some r) (h : P (.bl (if neg then !r.isSome else r.isSome))) : rrDIn neg y x g P := ⟨r, e, h⟩
theorem rd_dputT (h : a δ g fun v g1 => b δ g1 fun x g2 => c δ g2 fun y g3 => dputT x y v g3 fun g4 => E.nx δ g4) : dDPutT b c a E δ g := h
theorem rd_dputTK (e : g p = some (.dT ks ds)) (ek : keyT y = some k) (c : ds.length < 16777216) (h : R (gup g p (.dT (putKs ks k) (putDs ks ds k v)))) : dputT (.ref p) y v g R := ⟨p, ks, ds, k, rfl, e, ek, by rw [sizeLine_eq]; exact c, h⟩
theorem rd_newT (h : ∀ p, g p = none → Q (.ref p) (gup g p (.dT [] []))) : dNewT δ g Q := h
theorem rd_newTF (h : Q (.dT [] []) g) : dNewTF δ g Q := h
theorem rd_listTM (e : dctT g x = some (ks, ds)) (h : ∀ p, g p = none → Q (.ref p) (gup g p (.lst (ks.map keyDT)))) : rrListTM [x] g Q := ⟨x, ks, ds, rfl, e, h⟩
end
end DL

/-! Deep layer AK: // by any divisor but 0. -/
namespace DL
open PySem PySem.Spec PyProof.Rows L2
section
variable {X : Cx} {pos : Pos} {a b : Expr} {ta tb : TDE}
end
end DL
namespace DL
open PySem PySem.Spec PyProof.Rows L2
theorem rd_fzT {n : Nat} {δ : DS} {g : DG} {E : DEnds} {t : TDS} {p : Addr} {ks : List (List Key)} {ds : List DV} (e : nth δ n = some (.ref p)) (e2 : g p = some (.dT ks ds)) (h : t E (δ.set n (some (.dT ks ds))) (gdel g p)) : dFz n t E δ g := by
  unfold dFz
  rw [e]
  dsimp only
  rw [e2]
  exact ⟨trivial, h⟩
end DL

/-! Deep layer AL: {k: v for x in .. for y in ..}. -/
namespace DL
open PySem PySem.Spec PyProof.Rows L2

theorem turnD_out (kx vx t0 i0 t1 i1 : Expr) (ifs0 ifs1 : List Expr) (scope : Scope) (pos : Pos) (it : Value) (D : Addr) (env : Env) :
    compTurn (.DictComp kx vx [⟨t0, i0, ifs0, 0⟩, ⟨t1, i1, ifs1, 0⟩] scope pos) 0 it (.ref D) env = (do
      standAt i0.pos
      match ← pyNext it with
      | none => pure (.done .next)
      | some v =>
        letOwnedTupleGo t0 it v
        assign t0 env v
        let mut ok := true
        for c in ifs0 do
          if ok then ok ← isTrue c env (eval c env)
        if ok then
          let x ← eval i1 env
          standAt i1.pos
          let x ← foldedSetIterable i1 env x
          let _ ← runOwn (.compStart (.DictComp kx vx [⟨t0, i0, ifs0, 0⟩, ⟨t1, i1, ifs1, 0⟩] scope pos) 1 (← holding [x] (pyIter x)) (.ref D) env) env
        again (.compLoop (.DictComp kx vx [⟨t0, i0, ifs0, 0⟩, ⟨t1, i1, ifs1, 0⟩] scope pos) 0 it (.ref D) env)) := by rfl
theorem turnD_in (kx vx t0 i0 t1 i1 : Expr) (ifs0 ifs1 : List Expr) (scope : Scope) (pos : Pos) (it : Value) (D : Addr) (env : Env) :
    compTurn (.DictComp kx vx [⟨t0, i0, ifs0, 0⟩, ⟨t1, i1, ifs1, 0⟩] scope pos) 1 it (.ref D) env = (do
      standAt i1.pos
      match ← pyNext it with
      | none => pure (.done .next)
      | some v =>
        letOwnedTupleGo t1 it v
        assign t1 env v
        let mut ok := true
        for c in ifs1 do
          if ok then ok ← isTrue c env (eval c env)
        if ok then
          (do
            let kv ← eval kx env
            let vv ← holding [kv] (eval vx env)
            standAt { kx.pos with endLine := vx.pos.endLine, endCol := vx.pos.endCol }
            holding [kv, vv] (dictSet D kv vv))
        again (.compLoop (.DictComp kx vx [⟨t0, i0, ifs0, 0⟩, ⟨t1, i1, ifs1, 0⟩] scope pos) 1 it (.ref D) env)) := by rfl
section
variable {prog : Program} {w : World} {A : Around} {R : Result → Shared → Prop} {s : Shared} {kx vx t0 i0 t1 i1 : Expr} {ifs0 ifs1 : List Expr} {scope : Scope} {pos : Pos} {it : Value} {D : Addr} {env : Env}
theorem loopD_out (hs : ∀ x, foldedSetIterable i1 env x = pure x) (I : Nat → Shared → Prop)
    (turn : ∀ n s, I n s → wpAny (model prog w) A (pyNext it) (fun r s₁ => match r with
      | none => R (.ok .next) s₁
      | some v => wpAny (model prog w) A (letOwnedTupleGo t0 it v) (fun _ s₁' => wpAny (model prog w) A (assign t0 env v) (fun _ s₂ =>
          wpAny (model prog w) A (forIn ifs0 true fun c r => if r = true then do let ok ← isTrue c env (eval c env); pure (ForInStep.yield ok) else pure (ForInStep.yield r)) (fun ok s₃ =>
            if ok = true then wpAny (model prog w) A (eval i1 env) (fun x s₄ => wpAny (model prog w) A (pyIter x) (fun it1 s₅ =>
              codeAny (model prog w) A (.compStart (.DictComp kx vx [⟨t0, i0, ifs0, 0⟩, ⟨t1, i1, ifs1, 0⟩] scope pos) 1 it1 (.ref D) env) (fun r s' => match r with
                | .ok _ => ∃ m, m < n ∧ I m s'
                | .error _ => False) s₅) (notedBy (model prog w) A env fun e s' => R (.error e) s') s₄) (notedBy (model prog w) A env fun e s' => R (.error e) s') s₃
            else ∃ m, m < n ∧ I m s₃) (notedBy (model prog w) A env fun e s' => R (.error e) s') s₂) (notedBy (model prog w) A env fun e s' => R (.error e) s') s₁') (notedBy (model prog w) A env fun e s' => R (.error e) s') s₁) (notedBy (model prog w) A env fun e s' => R (.error e) s') s)
    (n : Nat) (h : I n s) :
    codeAny (model prog w) A (.compLoop (.DictComp kx vx [⟨t0, i0, ifs0, 0⟩, ⟨t1, i1, ifs1, 0⟩] scope pos) 0 it (.ref D) env) R s := by
  refine codeAny_loop rfl I (fun n s hI => ?_) n h
  show wpAny _ A ((compTurn (.DictComp kx vx [⟨t0, i0, ifs0, 0⟩, ⟨t1, i1, ifs1, 0⟩] scope pos) 0 it (.ref D) env).onRaise (fun x => do noteFrame x env; theTreesLotGoes x)) _ _ s
  refine wpAny_noted ?_
  rw [turnD_out]
  refine wpAny_bind (wpAny_standAt (wpAny_bind (wpAny_mono (turn n s hI) (fun r s₁ h₁ => ?_) fun _ _ h' => h')))
  cases r with
  | none => exact wpAny_pure h₁
  | some v =>
    refine wpAny_bind (wpAny_mono h₁ (fun _ s₁' h₁' => ?_) fun _ _ h' => h')
    refine wpAny_bind (wpAny_mono h₁' (fun _ s₂ h₂ => wpAny_bind (wpAny_mono h₂ (fun ok s₃ h₃ => ?_) fun _ _ h' => h')) fun _ _ h' => h')
    cases ok with
    | false => exact wpAny_pure ⟨rfl, h₃⟩
    | true =>
      refine wpAny_bind (wpAny_mono h₃ (fun x s₄ h₄ => ?_) fun _ _ h' => h')
      refine wpAny_bind (wpAny_standAt (wpAny_bind (wpAny_of_eq (hs x) (wpAny_bind (wpAny_holding (wpAny_mono h₄ (fun it1 s₅ h₅ => ?_) fun _ _ h' => h'))))))
      refine wpAny_bind (wpAny_runOwn ?_)
      rw [Around.mark_none]
      refine codeAny_mono h₅ fun r s' hr => ?_
      cases r with
      | ok f =>
        first
          | exact wpAny_pure ⟨rfl, hr⟩
          | exact wpAny_bind (wpAny_pure (wpAny_pure ⟨rfl, hr⟩))
      | error e => exact hr.elim
theorem loopD_in (I : Nat → Shared → Prop)
    (turn : ∀ n s, I n s → wpAny (model prog w) A (pyNext it) (fun r s₁ => match r with
      | none => R (.ok .next) s₁
      | some v => wpAny (model prog w) A (letOwnedTupleGo t1 it v) (fun _ s₁' => wpAny (model prog w) A (assign t1 env v) (fun _ s₂ =>
          wpAny (model prog w) A (forIn ifs1 true fun c r => if r = true then do let ok ← isTrue c env (eval c env); pure (ForInStep.yield ok) else pure (ForInStep.yield r)) (fun ok s₃ =>
            if ok = true then wpAny (model prog w) A (eval kx env) (fun kv s₄ => wpAny (model prog w) A (eval vx env) (fun vv s₅ =>
              wpAny (model prog w) A (dictSet D kv vv) (fun _ s₆ => ∃ m, m < n ∧ I m s₆) (notedBy (model prog w) A env fun e s' => R (.error e) s') s₅) (notedBy (model prog w) A env fun e s' => R (.error e) s') s₄) (notedBy (model prog w) A env fun e s' => R (.error e) s') s₃
            else ∃ m, m < n ∧ I m s₃) (notedBy (model prog w) A env fun e s' => R (.error e) s') s₂) (notedBy (model prog w) A env fun e s' => R (.error e) s') s₁') (notedBy (model prog w) A env fun e s' => R (.error e) s') s₁) (notedBy (model prog w) A env fun e s' => R (.error e) s') s)
    (n : Nat) (h : I n s) :
    codeAny (model prog w) A (.compLoop (.DictComp kx vx [⟨t0, i0, ifs0, 0⟩, ⟨t1, i1, ifs1, 0⟩] scope pos) 1 it (.ref D) env) R s := by
  refine codeAny_loop rfl I (fun n s hI => ?_) n h
  show wpAny _ A ((compTurn (.DictComp kx vx [⟨t0, i0, ifs0, 0⟩, ⟨t1, i1, ifs1, 0⟩] scope pos) 1 it (.ref D) env).onRaise (fun x => do noteFrame x env; theTreesLotGoes x)) _ _ s
  refine wpAny_noted ?_
  rw [turnD_in]
  refine wpAny_bind (wpAny_standAt (wpAny_bind (wpAny_mono (turn n s hI) (fun r s₁ h₁ => ?_) fun _ _ h' => h')))
  cases r with
  | none => exact wpAny_pure h₁
  | some v =>
    refine wpAny_bind (wpAny_mono h₁ (fun _ s₁' h₁' => ?_) fun _ _ h' => h')
    refine wpAny_bind (wpAny_mono h₁' (fun _ s₂ h₂ => wpAny_bind (wpAny_mono h₂ (fun ok s₃ h₃ => ?_) fun _ _ h' => h')) fun _ _ h' => h')
    cases ok with
    | false => exact wpAny_pure ⟨rfl, h₃⟩
    | true =>
      exact wpAny_bind (wpAny_bind (wpAny_mono h₃ (fun kv s₄ h₄ => wpAny_bind (wpAny_holding (wpAny_mono h₄ (fun vv s₅ h₅ => wpAny_bind (wpAny_standAt (wpAny_holding (wpAny_mono h₅ (fun _ s₆ h₆ => wpAny_pure ⟨rfl, h₆⟩) fun _ _ h' => h')))) fun _ _ h' => h'))) fun _ _ h' => h'))
theorem startD1 (h0 : codeAny (model prog w) A (.compLoop (.DictComp kx vx [⟨t0, i0, ifs0, 0⟩, ⟨t1, i1, ifs1, 0⟩] scope pos) 1 it (.ref D) env) R s)
    (h : wpAny (model prog w) A (pyIter it) (fun it' s' => codeAny (model prog w) A (.compLoop (.DictComp kx vx [⟨t0, i0, ifs0, 0⟩, ⟨t1, i1, ifs1, 0⟩] scope pos) 1 it' (.ref D) env) R s')
      (notedBy (model prog w) A env fun x s' => R (.error x) s') s) :
    codeAny (model prog w) A (.compStart (.DictComp kx vx [⟨t0, i0, ifs0, 0⟩, ⟨t1, i1, ifs1, 0⟩] scope pos) 1 it (.ref D) env) R s := by
  refine codeAny_of_tree ?_
  show wpAny _ _ ((compStart (.DictComp kx vx [⟨t0, i0, ifs0, 0⟩, ⟨t1, i1, ifs1, 0⟩] scope pos) 1 it (.ref D) env).onRaise (fun x => do noteFrame x env; standAt theWindowsPlace)) _ _ s
  refine wpAny_notedAt ?_
  unfold compStart
  show wpAny _ _ (ask >>= _) _ _ s
  refine wpAny_bind (wpAny_askSetting (wpAny_ite ?_))
  split
  · first
      | exact wpAny_bind (wpAny_pure (wpAny_pure (And.intro rfl h0)))
      | exact wpAny_pure (And.intro rfl h0)
  · first
      | exact wpAny_bind (wpAny_rule (wpAny_bind (wpAny_standAt (wpAny_bind (wpAny_mono h (fun it' s' h' => wpAny_pure (And.intro rfl h')) fun _ _ x => x)))))
      | (refine wpAny_bind (wpAny_rule ?_); show wpAny _ _ (standAt i1.pos >>= _) _ _ s; exact wpAny_bind (wpAny_standAt (wpAny_bind (wpAny_mono h (fun it' s' h' => wpAny_pure (And.intro rfl h')) fun _ _ x => x))))
end
section
variable {X : Cx}
/-- {k: v for x in .. for y in ..}: D the new dict -/
def tDcA2 (o0 : HO) (wi : TI) (g : TG) (tt : TT) (wi1 : TI) (g1 : TG) (tt1 : TT) (tk tv : TE) (vs vs1 : List Nat) : TE := fun σ H Q => wi σ H fun J H1 => ∀ D, H1 D = none → ∃ W : Nat → Nat → Hp → Prop, (∃ m, W 0 m (upd H1 D o0)) ∧ ∀ i m H, W i m H →
  (J.stop i H ∧ Q (.ref D) H) ∨ (J.go i H ∧ ∃ Nx : Hp → Prop, (∀ H', Nx H' → ∃ m', m' < m ∧ W (i + 1) m' H') ∧ ∀ x H', J.yld i H x H' → g x (wipe σ vs) H' fun σ2 H2 => wipe σ2 vs = wipe σ vs ∧ tt σ2 H2 fun b H3 =>
    if b = true then wi1 σ2 H3 fun J1 H4 => ∃ W1 : Nat → Nat → Hp → Prop, (∃ m, W1 0 m H4) ∧ ∀ j k H, W1 j k H →
      (J1.stop j H ∧ Nx H) ∨ (J1.go j H ∧ ∃ Nx1 : Hp → Prop, (∀ H', Nx1 H' → ∃ k', k' < k ∧ W1 (j + 1) k' H') ∧ ∀ x H', J1.yld j H x H' → g1 x (wipe σ2 vs1) H' fun σ3 H5 => wipe σ3 vs1 = wipe σ2 vs1 ∧ tt1 σ3 H5 fun b H6 =>
        if b = true then tk σ3 H6 fun y H7 => tv σ3 H7 fun z H8 => ∃ H9, DPut H8 D y z H9 ∧ Nx1 H9 else Nx1 H6)
    else Nx H3)
theorem pe_dcA2 {kx vx tgx iter tgx1 iter1 : Expr} {ifs ifs1 : List Expr} {vs1 : List Nat} {wi1 : TI} {tg1 : TG} {tt1 : TT} {scope : Scope} {own : List (Str × Nat)} {pos : Pos} {wi : TI} {tg : TG} {tt : TT} {tk tv : TE} {o0 : HO} (h0 : EmptyD o0) (room : X.A.units + 1 < cLine) (calm : X.calm = true) (nd : X.N.Nodup) (hi : PI X tgx iter wi) (ok : BlkOk X.N X.env.scope scope own)
    (hg : ∀ (s : Shared) (H : Hp) (C : Addr) (cl : List (Str × Addr)) (fp : List Addr), PG (X.blk s H scope (compEnvC scope cl C X.env) fp) tgx tg) (ht : ∀ (s : Shared) (H : Hp) (C : Addr) (cl : List (Str × Addr)) (fp : List Addr), PTs (X.blk s H scope (compEnvC scope cl C X.env) fp) ifs tt)
    (hv : ∀ i ∈ vs1, i ∈ own.map (·.2)) (hi1 : ∀ (s : Shared) (H : Hp) (C : Addr) (cl : List (Str × Addr)) (fp : List Addr), PI (X.blk s H scope (compEnvC scope cl C X.env) fp) tgx1 iter1 wi1)
    (hg1 : ∀ (s : Shared) (H : Hp) (C : Addr) (cl : List (Str × Addr)) (fp : List Addr), PG (X.blk s H scope (compEnvC scope cl C X.env) fp) tgx1 tg1) (ht1 : ∀ (s : Shared) (H : Hp) (C : Addr) (cl : List (Str × Addr)) (fp : List Addr), PTs (X.blk s H scope (compEnvC scope cl C X.env) fp) ifs1 tt1) (hs1 : ∀ env x, foldedSetIterable iter1 env x = pure x)
    (hk : ∀ (s : Shared) (H : Hp) (C : Addr) (cl : List (Str × Addr)) (fp : List Addr), PE (X.blk s H scope (compEnvC scope cl C X.env) fp) kx tk)
    (he : ∀ (s : Shared) (H : Hp) (C : Addr) (cl : List (Str × Addr)) (fp : List Addr), PE (X.blk s H scope (compEnvC scope cl C X.env) fp) vx tv) (hs : ∀ x, foldedSetIterable iter X.env x = pure x := by intro _; rfl) :
    PE X (.DictComp kx vx [⟨tgx, iter, ifs, 0⟩, ⟨tgx1, iter1, ifs1, 0⟩] scope pos) (tDcA2 o0 wi tg tt wi1 tg1 tt1 tk tv (own.map (·.2)) vs1) := by
  refine ⟨fun pinz s σ H Q J0 h => ?_⟩
  rw [arm_eval_DictComp]
  have free : ∀ y ∈ scope.names, y.2 = .free → ∃ c, X.env.cells.lookup y.1 = some c := fun y hy e => (ok.free y hy e).elim (fun k => J0.ok.has _ (.inl k)) fun k => J0.ok.has _ (.inr k)
  refine wpAny_comprehension_free (use := none) rfl hs (closure_ok free) ok.kind (fun y hy e => by rw [ok.uniq y hy, e]) (thn (hi.run pinz s σ H _ J0 h) fun xv s1 w1 => thn w1 fun itv s2 w2 => ?_)
  obtain ⟨it, fp, walk, J, H2, e, I2, T, at2, free2, q⟩ := w2
  subst e
  refine wpAny_newObj_type (newEnv_comp ?_)
  -- the dict, behind it the block's own names
  obtain ⟨D, hD⟩ : ∃ D, D = s2.heap.objs.size := ⟨_, rfl⟩
  have hD2 : H2 D = none := by rw [hD]; exact I2.hok.fresh (Nat.le_refl _)
  obtain ⟨W, ⟨m0, w0⟩, turn⟩ := q D hD2
  obtain ⟨s3, e3⟩ : ∃ s3 : Shared, s3 = { s2 with heap := s2.heap.push { cls := .type "dict", data := .dict #[] } } := ⟨_, rfl⟩
  have p3 : s3.heap = s2.heap.push { cls := .type "dict", data := .dict #[] } := by rw [e3]
  obtain ⟨H3, eH3⟩ : ∃ H3, H3 = upd H2 D o0 := ⟨_, rfl⟩
  rw [← eH3] at w0
  have I3 : Inv X pinz σ H3 s3 := by
    rw [e3, eH3, hD]
    exact I2.laid (t' := s2.toks) (fun b o e => Heap.get?_push_of_some _ e) (Nat.le_refl _) (empty_ok h0 s2.heap I2.big)
  have old : ∀ b ∈ fp, b < s2.heap.objs.size := fun b hb => let ⟨o, e, _⟩ := T.obj _ _ at2 b hb; Heap.lt_size e
  have free3 : ∀ b ∈ fp, FpOk X pinz H3 b ∧ b < s3.heap.objs.size := fun b hb => by
    have hlt := old b hb
    refine ⟨⟨?_, (free2 b hb).2⟩, by rw [p3, Heap.size_push]; exact Nat.lt_succ_of_lt hlt⟩
    rw [eH3, upd_ne (by rw [hD]; exact Nat.ne_of_lt hlt)]
    exact (free2 b hb).1
  have at3 : walk 0 s3.heap := T.keep _ _ _ at2 fun b _ o e => by rw [p3]; exact Heap.get?_push_of_some _ e
  have I4 := block_start I3 ok nd free3
  obtain ⟨cl, hcl⟩ : ∃ cl, cl = cellsFrom (s3.heap.objs.size + 1) scope.names (cloFrom X.env.cells scope.names []) := ⟨_, rfl⟩
  have pg := hg s3 H3 s3.heap.objs.size cl fp
  have pt := ht s3 H3 s3.heap.objs.size cl fp
  have pk := hk s3 H3 s3.heap.objs.size cl fp
  have pi1 := hi1 s3 H3 s3.heap.objs.size cl fp
  have pg1 := hg1 s3 H3 s3.heap.objs.size cl fp
  have pt1 := ht1 s3 H3 s3.heap.objs.size cl fp
  have pv := he s3 H3 s3.heap.objs.size cl fp
  rw [← hcl] at I4
  obtain ⟨ce, hce⟩ : ∃ ce, ce = compEnvC scope cl s3.heap.objs.size X.env := ⟨_, rfl⟩
  have locals : ce.locals = s3.heap.objs.size := by rw [hce]; rfl
  rw [← hce] at I4 pg pt pk pv pi1 pg1 pt1
  obtain ⟨s4, e4⟩ : ∃ s4 : Shared, s4 = { s3 with heap := pushCells (s3.heap.push { cls := .type "dict", data := .dict #[] }) scope.names } := ⟨_, rfl⟩
  rw [← e4] at I4
  have at4 : walk 0 s4.heap := T.keep _ _ _ at3 fun b _ o e => by rw [e4]; exact pushCells_keeps _ _ _ _ (Heap.get?_push_of_some _ e)
  have quiet : ∀ {σ' : L2.St} {G : Hp} {t : Shared}, Inv (X.blk s3 H3 scope ce fp) [] σ' G t → (∀ b ∈ fp, G b = none) → ∀ b ∈ fp, FpOk (X.blk s3 H3 scope ce fp) [] G b := fun {σ' G t} I' n b hb =>
    ⟨n b hb, (I'.ok.exf b hb).1, I'.ok.exfs b hb, .inl hb, fun x c e => (I'.ok.exf b hb).2 x c e, fun p hp => absurd (show p ∈ ([] : List (Addr × Obj)) ++ [] from hp) (by simp)⟩
  have loop : codeAny (model X.prog X.w) X.A (.compLoop (.DictComp kx vx [⟨tgx, iter, ifs, 0⟩, ⟨tgx1, iter1, ifs1, 0⟩] scope pos) 0 (.ref it) (.ref D) ce) (compPost (model X.prog X.w) X.A X.xe none (EP X pinz σ Q) (.ref D) s3.heap.objs.size) s4 := by
    refine loopD_out (hs1 ce) (fun n t => ∃ i G, Inv (X.blk s3 H3 scope ce fp) [] (wipe σ (own.map (·.2))) G t ∧ walk i t.heap ∧ (∀ b ∈ fp, G b = none) ∧ W i n G) ?_ m0 ⟨0, H3, I4, at4, fun b hb => (free3 b hb).1.1, w0⟩
    rintro n t ⟨i, G, I5, at5, n5, w5⟩
    rcases turn i n G w5 with ⟨stop, fin⟩ | ⟨go, Nx, less, step⟩
    · refine thnF (T.done (X.blk s3 H3 scope ce fp) rfl rfl rfl calm i [] t _ G (fun _ _ => False) I5 (quiet I5 n5) at5 stop) fun r t6 ⟨er, I6⟩ => ?_
      subst er
      have I7 : Inv X pinz σ G t6 := I3.call' (ch := fp) I6.os I6.base I6.hok I6.bare fun b hb => ⟨(free3 b hb).1.2.2.2.1, (free3 b hb).1.2.1, (free3 b hb).1.2.2.2.2.1, (free3 b hb).1.2.2.2.2.2⟩
      have noC : G s3.heap.objs.size = none := by rw [← locals]; exact I6.free
      obtain ⟨m, hn, _⟩ := I6.loc
      have hn : t6.heap.Ns ce.locals m := hn
      rw [locals] at hn
      obtain ⟨f0, f1, f2, f3, f4, f5⟩ := I3.fpOk (Nat.le_refl _) noC
      exact ⟨m, hn, fun h'' sb => ⟨.ref D, G, I7.turned (t' := t6.toks) (fun b o hb e => (sb.2 b hb).trans e) f0 f1 f3 f4 f5, rfl, fin⟩⟩
    · refine thnF (T.item (X.blk s3 H3 scope ce fp) rfl rfl rfl calm i [] t _ G (fun _ _ => False) I5 (quiet I5 n5) at5 go) fun r t6 ⟨u, er, w6⟩ => ?_
      subst er
      refine thnF w6 fun _ t7 ⟨x, G7, I7, r7, y7, at7, n7⟩ => ?_
      refine thnF (pg.run _ t7 _ G7 x u _ (I7.pinned (quiet I7 n7) (T.obj _ _ at7)) r7 (step x G7 y7)) fun _ t8 ⟨σ8, G8, I8, wp8, q8⟩ => ?_
      refine thnF (pt.run _ t8 σ8 G8 _ I8 q8) fun b t9 ⟨G9, I9, q9⟩ => ?_
      have fin : ∀ {σ9 : L2.St} {t' : Shared} {G' : Hp}, Inv (X.blk s3 H3 scope ce fp) ([] ++ pinsAt fp t7.heap) σ9 G' t' → (wipe σ (own.map (·.2))).length = σ9.length → (∀ (j : Nat) v, (wipe σ (own.map (·.2)))[j]? = some (some v) → σ9[j]? = some (some v)) → Nx G' →
          ∃ m, m < n ∧ ∃ i G', Inv (X.blk s3 H3 scope ce fp) [] (wipe σ (own.map (·.2))) G' t' ∧ walk i t'.heap ∧ (∀ b ∈ fp, G' b = none) ∧ W i m G' := fun {σ9 t' G'} I' hl hk nx => by
        obtain ⟨m', hm, w'⟩ := less G' nx
        have held : ∀ b ∈ fp, ∀ o, t7.heap.get? b = some o → t'.heap.get? b = some o ∧ G' b = none := fun b hb o e =>
          let z := I'.pin (b, o) (List.mem_append_right _ (List.mem_append_right _ (mem_pinsAt hb e)))
          ⟨z.1, z.2.1⟩
        refine ⟨m', hm, i + 1, G', (I'.unpinned (pins := [])).weak hl hk, T.keep _ _ _ at7 fun b hb o e => (held b hb o e).1, fun b hb => ?_, w'⟩
        obtain ⟨o, e, _⟩ := T.obj _ _ at7 b hb
        exact (held b hb o e).2
      have hl8 : (wipe σ (own.map (·.2))).length = σ8.length := by rw [← wp8, wipe_length]
      have hk8 : ∀ (j : Nat) v, (wipe σ (own.map (·.2)))[j]? = some (some v) → σ8[j]? = some (some v) := fun j v e => by
        rw [← wp8] at e
        exact (wipe_some e).1
      have hk9 : ∀ (j : Nat) v, (wipe σ (own.map (·.2)))[j]? = some (some v) → (wipe σ8 vs1)[j]? = some (some v) := fun j v e => by
        rw [← wp8] at e
        obtain ⟨e1, e2⟩ := wipe_some e
        rw [wipe_out fun z => e2 (hv j z)]
        exact e1
      cases b with
      | false =>
        simp only [Bool.false_eq_true, if_false] at q9 ⊢
        exact fin I9 hl8 hk8 q9
      | true =>
        simp only [if_true] at q9 ⊢
        refine thnF (pi1.run _ t9 σ8 G9 _ I9 q9) fun xv t10 hx => thnF hx fun itv t11 h11 => ?_
        obtain ⟨it1, fp1, tn1, J1, G11, e1, I11, T1, st11, f11, W1, ⟨m1, w1⟩, turn1⟩ := h11
        subst e1
        have quiet1 : ∀ {G' : Hp}, (∀ b ∈ fp1, G' b = none) → ∀ b ∈ fp1, FpOk (X.blk s3 H3 scope ce fp) ([] ++ pinsAt fp t7.heap) G' b := fun hn b hb => ⟨hn b hb, (f11 b hb).2⟩
        have loop1 : codeAny (model X.prog X.w) X.A (.compLoop (.DictComp kx vx [⟨tgx, iter, ifs, 0⟩, ⟨tgx1, iter1, ifs1, 0⟩] scope pos) 1 (.ref it1) (.ref D) ce)
            (fun r t' => match r with
              | .ok _ => ∃ m, m < n ∧ ∃ i G', Inv (X.blk s3 H3 scope ce fp) [] (wipe σ (own.map (·.2))) G' t' ∧ walk i t'.heap ∧ (∀ b ∈ fp, G' b = none) ∧ W i m G'
              | .error _ => False) t11 := by
          refine loopD_in (fun k t' => ∃ j G', Inv (X.blk s3 H3 scope ce fp) ([] ++ pinsAt fp t7.heap) (wipe σ8 vs1) G' t' ∧ tn1 j t'.heap ∧ (∀ b ∈ fp1, G' b = none) ∧ W1 j k G') ?_ m1 ⟨0, G11, I11.weak (wipe_length _ _) (fun j v e => (wipe_some e).1), st11, fun b hb => (f11 b hb).1, w1⟩
          rintro k t12 ⟨j, G12, I12, st12, n12, w12⟩
          rcases turn1 j k G12 w12 with ⟨stop1, nx1⟩ | ⟨go1, Nx1, less1, step1⟩
          · refine thnF (T1.done (X.blk s3 H3 scope ce fp) rfl rfl rfl calm j _ t12 (wipe σ8 vs1) G12 (fun _ _ => False) I12 (quiet1 n12) st12 stop1) fun r t13 ⟨hr, I13⟩ => ?_
            subst hr
            exact fin I13 (hl8.trans (wipe_length σ8 vs1).symm) hk9 nx1
          · refine thnF (T1.item (X.blk s3 H3 scope ce fp) rfl rfl rfl calm j _ t12 (wipe σ8 vs1) G12 (fun _ _ => False) I12 (quiet1 n12) st12 go1) fun r t13 ⟨u1, hr, h13⟩ => ?_
            subst hr
            refine thnF h13 fun _ t14 ⟨x1, G14, I14, r14, y14, st14, n14⟩ => ?_
            have I14' := I14.pinned (quiet1 n14) (T1.obj _ _ st14)
            refine thnF (pg1.run _ t14 (wipe σ8 vs1) G14 x1 u1 _ I14' r14 (step1 x1 G14 y14)) fun _ t15 ⟨σ15, G15, I15, hw15, q15⟩ => ?_
            refine thnF (pt1.run _ t15 σ15 G15 _ I15 q15) fun b1 t16 ⟨G16, I16, q16⟩ => ?_
            have fin1 : ∀ {t' : Shared} {G' : Hp}, Inv (X.blk s3 H3 scope ce fp) (([] ++ pinsAt fp t7.heap) ++ pinsAt fp1 t14.heap) σ15 G' t' → Nx1 G' → ∃ m, m < k ∧ ∃ j G', Inv (X.blk s3 H3 scope ce fp) ([] ++ pinsAt fp t7.heap) (wipe σ8 vs1) G' t' ∧ tn1 j t'.heap ∧ (∀ b ∈ fp1, G' b = none) ∧ W1 j m G' := fun {t' G'} I' nx => by
              obtain ⟨m', hm, w'⟩ := less1 G' nx
              have held : ∀ b ∈ fp1, ∀ o, t14.heap.get? b = some o → t'.heap.get? b = some o ∧ G' b = none := fun b hb o e =>
                let z := I'.pin (b, o) (List.mem_append_right _ (List.mem_append_right _ (mem_pinsAt hb e)))
                ⟨z.1, z.2.1⟩
              refine ⟨m', hm, j + 1, G', I'.unpinned.weak (by rw [← hw15, wipe_length]) (fun j v e => by rw [← hw15] at e; exact (wipe_some e).1), T1.keep _ _ _ st14 fun b hb o e => (held b hb o e).1, fun b hb => ?_, w'⟩
              obtain ⟨o, e, _⟩ := T1.obj _ _ st14 b hb
              exact (held b hb o e).2
            cases b1 with
            | false =>
              simp only [Bool.false_eq_true, if_false] at q16 ⊢
              exact fin1 I16 q16
            | true =>
              simp only [if_true] at q16 ⊢
              refine thnF (pk.run _ t16 σ15 G16 _ I16 q16) fun ku t17 ⟨yk, G17, I17, r17, q17⟩ => ?_
              refine thnF (pv.run _ t17 σ15 G17 _ I17 q17) fun vu t18 ⟨yv, G18, I18, r18, G19, put, nx⟩ => ?_
              exact dset_put (X := X.blk s3 H3 scope ce fp) room I18 put r17 r18 fun t19 I19 => fin1 I19 nx
        exact startD1 loop1 (T1.self X.A 0 _ _ _ st11 loop1)
  have start := codeAny_compStart_dict loop (T.self X.A 0 _ _ _ at4 loop)
  rw [e4, hce, hcl, hD] at start
  subst e3
  exact start
/-! ### the same by content -/
def dDiI (tg : Tg) (vs : List Nat) (tt : TDT) (tk tv : TDE) (δ : DS) : List DV → List (List Key) → List DV → DG → (List (List Key) → List DV → DG → Prop) → Prop
  | [], ks, ys, g, R => R ks ys g
  | d :: ds, ks, ys, g, R => match bindT tg d (wipeD δ vs) with
    | some δ3 => tt δ3 g fun b g1 => if b = true then tk δ3 g1 fun y g2 => tv δ3 g2 fun z g3 => (match keyT y with | some k => ks.length < sizeLine ∧ dDiI tg vs tt tk tv δ ds (putKs ks k) (putDs ks ys k z) g3 R | none => False) else dDiI tg vs tt tk tv δ ds ks ys g1 R
    | none => False
def dDiO (tg : Tg) (own : List Nat) (tt : TDT) (wi1 : TDI) (tg1 : Tg) (vs1 : List Nat) (tt1 : TDT) (tk tv : TDE) (δ : DS) : List DV → List (List Key) → List DV → DG → (List (List Key) → List DV → DG → Prop) → Prop
  | [], ks, ys, g, R => R ks ys g
  | d :: ds, ks, ys, g, R => match bindT tg d (wipeD δ own) with
    | some δ2 => tt δ2 g fun b g1 => if b = true then wi1 δ2 g1 fun ds1 g2 => dDiI tg1 vs1 tt1 tk tv δ2 ds1 ks ys g2 fun ks ys g3 => dDiO tg own tt wi1 tg1 vs1 tt1 tk tv δ ds ks ys g3 R else dDiO tg own tt wi1 tg1 vs1 tt1 tk tv δ ds ks ys g1 R
    | none => False
def dDc2 (wi : TDI) (tg : Tg) (own : List Nat) (tt : TDT) (wi1 : TDI) (tg1 : Tg) (vs1 : List Nat) (tt1 : TDT) (tk tv : TDE) : TDE := fun δ g Q => wi δ g fun ds g1 => dDiO tg own tt wi1 tg1 vs1 tt1 tk tv δ ds [] [] g1 fun ks ys g2 => Q (.dT ks ys) g2
/-- what stands between two turns: the dict at D so far -/
structure AccD (K : Fg) (g : DG) (H : Hp) (D : Addr) (ks : List (List Key)) (ys : List DV) (kvs : List (List Key × V)) (g' : DG) (H' : Hp) : Prop where
  ext : Ext g H g' H'
  rg : RG K H' g'
  gD : g' D = none
  at_ : H' D = some (.dT kvs)
  ek : kvs.map (·.1) = ks
  rd : RDs K H' ys (kvs.map (·.2))
theorem AccD.step {K : Fg} {g g' g2 : DG} {H H' H2 : Hp} {D : Addr} {ks : List (List Key)} {ys : List DV} {kvs : List (List Key × V)} (a : AccD K g H D ks ys kvs g' H') (e : Ext g' H' g2 H2) (r : RG K H2 g2) : AccD K g H D ks ys kvs g2 H2 :=
  have z := e D _ a.at_ a.gD fun z => z
  ⟨a.ext.trans e, r, z.2, z.1, a.ek, a.rd.mono (e.kp a.rg)⟩
theorem AccD.put {K : Fg} {g g' : DG} {H H' : Hp} {D : Addr} {ks : List (List Key)} {ys : List DV} {kvs : List (List Key × V)} {y : DV} {v : V} {k : List Key} (a : AccD K g H D ks ys kvs g' H') (fresh : ∀ o, H D = some o → g D = none → ¬ OwnO o → False) (r : RD K H' y v) :
    Kp H' (upd H' D (.dT (putK kvs k v))) ∧ AccD K g H D (putKs ks k) (putDs ks ys k y) (putK kvs k v) g' (upd H' D (.dT (putK kvs k v))) := by
  have km : Kp H' (upd H' D (.dT (putK kvs k v))) := Kp.mut (by rw [a.at_]; exact True.intro)
  obtain ⟨z1, z2⟩ := putK_rd (k := k) r a.rd
  have ek := a.ek
  subst ek
  exact ⟨km, lock_ext a.ext fresh, (fun b u hb => (a.rg b u hb).keep km (upd_ne (fun q => by subst q; rw [a.gD] at hb; cases hb))), a.gD, upd_same, z1, z2.mono km⟩
variable {kx vx iter iter1 tgx tgx1 : Expr} {ifs ifs1 : List Expr} {scope : Scope} {own : List (Str × Nat)} {vs1 : List Nat} {wi wi1 : TDI} {tg tg1 : Tg} {tt tt1 : TDT} {tk tv : TDE} {pos : Pos}
theorem dc2_up {K : Fg} {own : List Nat} {δ : DS} {g : DG} {σ : L2.St} {H : Hp} {P : List (List Key) → List DV → DG → Prop} {Q : VK} (hix : ∀ i ∈ tg.ix, i ∈ own) (hix1 : ∀ i ∈ tg1.ix, i ∈ vs1) (rs : RS K H δ σ) (rg : RG K H g)
    (h : wi δ g fun ds g1 => dDiO tg own tt wi1 tg1 vs1 tt1 tk tv δ ds [] [] g1 P)
    (k : ∀ D kvs ks ys g' H', Ext g H g' H' → RG K H' g' → g' D = none → (∀ o, H D = some o → g D = none → ¬ OwnO o → False) → H' D = some (.dT kvs) → kvs.map (·.1) = ks → RDs K H' ys (kvs.map (·.2)) → P ks ys g' → Q (.ref D) H') :
    tDcA2 (.dT []) (upI K wi) (tgG K tg) (upT K tt) (upI K wi1) (tgG K tg1) (upT K tt1) (upE K tk) (upE K tv) own vs1 σ H Q := by
  refine ⟨δ, g, _, rs, rg, h, fun ds g1 J H1 e1 rg1 dw p D hD => ?_⟩
  have fresh : ∀ o, H D = some o → g D = none → ¬ OwnO o → False := fun o q n w => by
    have := (e1 D o q n w).1
    rw [hD] at this; cases this
  let Inn : Nat → Hp → Prop := fun i H' => Kp H1 H' ∧ ∃ ks ys kvs g', AccD K g H D ks ys kvs g' H' ∧ dDiO tg own tt wi1 tg1 vs1 tt1 tk tv δ (ds.drop i) ks ys g' P
  refine ⟨fun i m H' => m = ds.length - i ∧ i ≤ ds.length ∧ Inn i H', ⟨ds.length, rfl, Nat.zero_le _, Kp.fresh hD, [], [], [], g1, ⟨e1.trans (Ext.fresh rg1 hD), rg1.fresh hD, rg1.none hD, upd_same, rfl, .nil⟩, p⟩, ?_⟩
  rintro i m H2 ⟨rfl, hi, kp2, ks, ys, kvs, g2, ac, q⟩
  by_cases hlt : i < ds.length
  · rw [List.drop_eq_getElem_cons hlt] at q
    unfold dDiO at q
    refine .inr ⟨dw.goes i H2 hlt kp2, Inn (i + 1), fun H' z => ⟨ds.length - (i + 1), by omega, rfl, hlt, z⟩, fun x H3 y => ?_⟩
    obtain ⟨st, rd⟩ := dw.yields i H2 x H3 ds[i] (by simp [hlt]) kp2 y
    split at q
    · rename_i δ2 eb
      have ac3 := ac.step (step_ext st ac.rg) (step_rg st ac.rg)
      have kp3 := kp2.trans (step_kp st)
      have rs3 : RS K H3 (wipeD δ own) (wipe σ own) := (rs.mono (ac3.ext.kp rg)).wipe own
      refine tg_run rd rs3 eb fun σ2 rs2 hw => ⟨by rw [hw own hix]; exact wipe_wipe σ own, ?_⟩
      refine ⟨δ2, g2, _, rs2, ac3.rg, q, fun b g4 H4 e4 rg4 z => ?_⟩
      have ac4 := ac3.step e4 rg4
      have kp4 := kp3.trans (e4.kp ac3.rg)
      cases b with
      | false =>
        dsimp only
        rw [if_neg Bool.false_ne_true] at z ⊢
        exact ⟨kp4, ks, ys, kvs, g4, ac4, z⟩
      | true =>
        dsimp only
        rw [if_pos rfl] at z ⊢
        have rs4 := rs2.mono (e4.kp ac3.rg)
        refine ⟨δ2, g4, _, rs4, rg4, z, fun ds1 g5 J1 H5 e5 rg5 dw1 w => ?_⟩
        have ac5 := ac4.step e5 rg5
        have kp5 := kp4.trans (e5.kp rg4)
        have rs5 := rs4.mono (e5.kp rg4)
        refine ⟨fun j k H' => k = ds1.length - j ∧ j ≤ ds1.length ∧ Kp H5 H' ∧ ∃ ks ys kvs g', AccD K g H D ks ys kvs g' H' ∧ dDiI tg1 vs1 tt1 tk tv δ2 (ds1.drop j) ks ys g' fun ks ys g3 => dDiO tg own tt wi1 tg1 vs1 tt1 tk tv δ (ds.drop (i + 1)) ks ys g3 P,
          ⟨ds1.length, rfl, Nat.zero_le _, Kp.refl, ks, ys, kvs, g5, ac5, w⟩, ?_⟩
        rintro j k' H6 ⟨rfl, hj, kp6, ks6, ys6, kvs6, g6, ac6, q6⟩
        by_cases hlt6 : j < ds1.length
        · rw [List.drop_eq_getElem_cons hlt6] at q6
          unfold dDiI at q6
          refine .inr ⟨dw1.goes j H6 hlt6 kp6, fun H' => Kp H5 H' ∧ ∃ ks ys kvs g', AccD K g H D ks ys kvs g' H' ∧ dDiI tg1 vs1 tt1 tk tv δ2 (ds1.drop (j + 1)) ks ys g' fun ks ys g3 => dDiO tg own tt wi1 tg1 vs1 tt1 tk tv δ (ds.drop (i + 1)) ks ys g3 P,
            fun H' z => ⟨ds1.length - (j + 1), by omega, rfl, hlt6, z⟩, fun x7 H7 y7 => ?_⟩
          obtain ⟨st7, rd7⟩ := dw1.yields j H6 x7 H7 ds1[j] (by simp [hlt6]) kp6 y7
          split at q6
          · rename_i δ3 eb3
            have ac7 := ac6.step (step_ext st7 ac6.rg) (step_rg st7 ac6.rg)
            have kp7 := kp6.trans (step_kp st7)
            have rs7 : RS K H7 (wipeD δ2 vs1) (wipe σ2 vs1) := (rs5.mono kp7).wipe vs1
            refine tg_run rd7 rs7 eb3 fun σ3 rsT hw3 => ⟨by rw [hw3 vs1 hix1]; exact wipe_wipe σ2 vs1, ?_⟩
            refine ⟨δ3, g6, _, rsT, ac7.rg, q6, fun b8 g8 H8 e8 rg8 z8 => ?_⟩
            have ac8 := ac7.step e8 rg8
            have kp8 := kp7.trans (e8.kp ac7.rg)
            cases b8 with
            | false =>
              dsimp only
              rw [if_neg Bool.false_ne_true] at z8 ⊢
              exact ⟨kp8, ks6, ys6, kvs6, g8, ac8, z8⟩
            | true =>
              dsimp only
              rw [if_pos rfl] at z8 ⊢
              refine ⟨δ3, g8, _, rsT.mono (e8.kp ac7.rg), rg8, z8, fun y9 g9 v9 H9 e9 rg9 rd9 w9 => ?_⟩
              have ac9 := ac8.step e9 rg9
              have rs9 := (rsT.mono (e8.kp ac7.rg)).mono (e9.kp rg8)
              refine ⟨δ3, g9, _, rs9, rg9, w9, fun y10 g10 v10 H10 e10 rg10 rd10 w10 => ?_⟩
              have ac10 := ac9.step e10 rg10
              split at w10
              · rename_i kk ek
                obtain ⟨b, rfl, hb⟩ := keyT_of (rd9.mono (e10.kp rg9)) ek
                obtain ⟨km, ac11⟩ := ac10.put (k := kk) fresh rd10
                have hl : kvs6.length < sizeLine := by rw [← List.length_map (·.1), ac10.ek]; exact w10.1
                exact ⟨_, DPut.t ac10.at_ hb hl, ((kp8.trans (e9.kp rg8)).trans (e10.kp rg9)).trans km, putKs ks6 kk, putDs ks6 ys6 kk y10, putK kvs6 kk v10, g10, ac11, w10.2⟩
              · exact w10.elim
          · exact q6.elim
        · have ej : j = ds1.length := by omega
          subst ej
          rw [List.drop_length] at q6
          exact .inl ⟨dw1.stops H6 kp6, kp5.trans kp6, ks6, ys6, kvs6, g6, ac6, q6⟩
    · exact q.elim
  · have ei : i = ds.length := by omega
    subst ei
    rw [List.drop_length] at q
    exact .inl ⟨dw.stops H2 kp2, k D kvs ks ys g2 H2 ac.ext ac.rg ac.gD fresh ac.at_ ac.ek ac.rd q⟩
theorem pd_dc2 (room : X.A.units + 64 < cLine) (hc : X.calm = true) (hN : X.N.Nodup) (hi : PI X tgx iter (upI X.K wi)) (ok : BlkOk X.N X.env.scope scope own)
    (hg : ∀ (s : Shared) (H : Hp) (C : Addr) (cl : List (Str × Addr)) (fp : List Addr), PG (X.blk s H scope (compEnvC scope cl C X.env) fp) tgx (tgG X.K tg)) (ht : ∀ (s : Shared) (H : Hp) (C : Addr) (cl : List (Str × Addr)) (fp : List Addr), PTs (X.blk s H scope (compEnvC scope cl C X.env) fp) ifs (upT X.K tt))
    (hi1 : ∀ (s : Shared) (H : Hp) (C : Addr) (cl : List (Str × Addr)) (fp : List Addr), PI (X.blk s H scope (compEnvC scope cl C X.env) fp) tgx1 iter1 (upI X.K wi1))
    (hg1 : ∀ (s : Shared) (H : Hp) (C : Addr) (cl : List (Str × Addr)) (fp : List Addr), PG (X.blk s H scope (compEnvC scope cl C X.env) fp) tgx1 (tgG X.K tg1)) (ht1 : ∀ (s : Shared) (H : Hp) (C : Addr) (cl : List (Str × Addr)) (fp : List Addr), PTs (X.blk s H scope (compEnvC scope cl C X.env) fp) ifs1 (upT X.K tt1))
    (hk : ∀ (s : Shared) (H : Hp) (C : Addr) (cl : List (Str × Addr)) (fp : List Addr), PE (X.blk s H scope (compEnvC scope cl C X.env) fp) kx (upE X.K tk)) (he : ∀ (s : Shared) (H : Hp) (C : Addr) (cl : List (Str × Addr)) (fp : List Addr), PE (X.blk s H scope (compEnvC scope cl C X.env) fp) vx (upE X.K tv))
    (hv : ∀ i ∈ vs1, i ∈ own.map (·.2) := by decide) (hix : ∀ i ∈ tg.ix, i ∈ own.map (·.2) := by decide) (hix1 : ∀ i ∈ tg1.ix, i ∈ vs1 := by decide) (hs : ∀ x, foldedSetIterable iter X.env x = pure x := by intro _; rfl) (hs1 : ∀ env x, foldedSetIterable iter1 env x = pure x := by intro _ _; rfl) :
    PE X (.DictComp kx vx [⟨tgx, iter, ifs, 0⟩, ⟨tgx1, iter1, ifs1, 0⟩] scope pos) (upE X.K (dDc2 wi tg (own.map (·.2)) tt wi1 tg1 vs1 tt1 tk tv)) :=
  PE_weak (PE_fz (pe_dcA2 (.inr rfl) (by omega) hc hN hi ok hg ht hv hi1 hg1 ht1 hs1 hk he hs)) fun σ H Q ⟨δ, g, P, rs, rg, h, k⟩ => dc2_up (P := fun ks ys g2 => P (.dT ks ys) g2) hix hix1 rs rg h fun D kvs ks ys g' H' e rg' gD fresh hD ek rd p =>
    have km : ∀ o, Kp H' (upd H' D o) := fun o => Kp.mut (by rw [hD]; exact True.intro)
    .inr ⟨D, .dT kvs, rfl, hD, trivial, fun o => k _ g' _ _ (lock_ext e fresh) (fun a u ha => (rg' a u ha).keep (km _) (upd_ne (fun q => by subst q; rw [gD] at ha; cases ha))) (.dT ⟨o, kvs, upd_same, ek, rfl⟩ (rd.mono (km _))) p⟩
/-! ### {k: v for x in ..}, to be changed -/
theorem ext_gup {g g' : DG} {H H' : Hp} {D : Addr} {o : DO} (e : Ext g H g' H') (fresh : ∀ o, H D = some o → g D = none → ¬ OwnO o → False) : Ext g H (gup g' D o) H' := fun a u ha n w => by
  obtain ⟨z1, z2⟩ := e a u ha n w
  have na : a ≠ D := fun q => by subst q; exact fresh u ha n w
  exact ⟨z1, by rw [gup_ne na]; exact z2⟩
theorem rg_gupT {K : Fg} {g : DG} {H : Hp} {D : Addr} {kvs : List (List Key × V)} {ks : List (List Key)} {ys : List DV} (r : RG K H g) (hD : H D = some (.dT kvs)) (ek : kvs.map (·.1) = ks) (rd : RDs K H ys (kvs.map (·.2))) : RG K H (gup g D (.dT ks ys)) := fun a u e => by
  by_cases ha : a = D
  · subst ha
    rw [gup_same] at e; cases e
    exact ⟨kvs, hD, ek, rd⟩
  · rw [gup_ne ha] at e
    exact r a u e
def dDcTM (wi : TDI) (tg : Tg) (own : List Nat) (tt : TDT) (tk tv : TDE) : TDE := fun δ g Q => wi δ g fun ds g1 => ds.length ≤ sizeLine ∧ dDcC tg own tt tk tv δ ds [] [] g1 fun ks vs g2 => ∀ p, g2 p = none → Q (.ref p) (gup g2 p (.dT ks vs))
theorem rd_dcTM {wi : TDI} {tg : Tg} {own : List Nat} {tt : TDT} {tk tv : TDE} {δ : DS} {g : DG} {Q : DV → DG → Prop} (h : wi δ g fun ds g1 => zK (fun ds g1 => dDcC tg own tt tk tv δ ds [] [] g1 fun ks vs g2 => ∀ p, g2 p = none → Q (.ref p) (gup g2 p (.dT ks vs))) ds g1) : dDcTM wi tg own tt tk tv δ g Q := h
/-! ### readings -/
theorem rd_dc2 {wi wi1 : TDI} {tg tg1 : Tg} {own vs1 : List Nat} {tt tt1 : TDT} {tk tv : TDE} {δ : DS} {g : DG} {Q : DV → DG → Prop} (h : wi δ g fun ds g1 => dDiO tg own tt wi1 tg1 vs1 tt1 tk tv δ ds [] [] g1 fun ks ys g2 => Q (.dT ks ys) g2) : dDc2 wi tg own tt wi1 tg1 vs1 tt1 tk tv δ g Q := h
end
end DL

/-! Deep layer AM: y in t, t a tuple of content. -/
namespace DL
open PySem PySem.Spec PyProof.Rows L2
section
variable {X : Cx}
def rInTp (neg : Bool) (K : PySem.W.Frag) : R2 := fun x y H Q => ∃ d ds, Dp K H x d ∧ Dp K H y (.tuple ds) ∧ SeqAt.shaped d = true ∧ SeqAt.shaped (.tuple ds) = true ∧ Q (.bl (if neg then !ds.any fun z => PyData.eqv z d else ds.any fun z => PyData.eqv z d)) H
theorem op_notInTp (hu : X.A.units + 65 < cLine) : OpR X (compareOp .NotIn) (rInTp true X.K) := by
  intro pins s σ H x y v u Q I rx ry h
  obtain ⟨d, ds, hd, he, sd, se, q⟩ := h
  obtain ⟨as, r1⟩ := Dp.reads I d x v hd rx
  obtain ⟨bs, r2⟩ := Dp.reads I (.tuple ds) y u he ry
  exact SeqAt.notIn_tuple_reads r2 r1 (SeqAt.canLay_of_shaped se) (SeqAt.canLay_of_shaped sd) (room_in_shaped sd hu) ⟨.bl _, H, I, rfl, q⟩
def rrInTp (neg : Bool) : RR2 := fun x y _ P => okD x = true ∧ ∃ ds, y = .tup ds ∧ okD y = true ∧ P (.bl (if neg then !ds.any fun d => eqD d x else ds.any fun d => eqD d x))
theorem ref_inTp {K : Fg} {neg : Bool} : RefCmp K (rrInTp neg) (rInTp neg K) := by
  intro x y P v u H g Q rg rx ry k ⟨h1, ds, ey, h2, h⟩
  unfold okD at h1 h2
  rw [Bool.and_eq_true] at h1 h2
  subst ey
  refine ⟨_, _, rx.dp h1.1, ry.dp h2.1, h1.2, h2.2, ?_⟩
  rw [py_any]
  exact k _ h
theorem rd_inTp {g : DG} {x : DV} {ds : List DV} {P : DV → Prop} {neg : Bool} (c : okD x = true) (c2 : okD (.tup ds) = true) (h : P (.bl (if neg then !ds.any fun d => eqD d x else ds.any fun d => eqD d x))) : rrInTp neg x (.tup ds) g P := ⟨c, ds, rfl, c2, h⟩
end
end DL

/-! Deep layer AN: walks over instances, list(x): __iter__ that hands out a list's iterator; what is changed on the left of a comparison. -/
namespace DL
open PySem PySem.Spec PyProof.Rows L2
/-! ### a list's iterator at its start -/
def LitO (l it : Addr) : HO := .ext fun h => h.get? it = some { cls := .type "list_iterator", data := .fields #[.ref l, .int 0 0] }
/-- iter(l) -/
def rIterL (K : Fg) (n : Nat) : List V → Hp → VK → Prop := fun xs H Q => ∃ l zs, xs = [.ref l] ∧ FzL K H l zs ∧ ∀ it, H it = none → n ≤ it → Q (.ref it) (upd H it (LitO l it))
theorem cr_iterL {X : Cx} : CallR X (.builtin "iter") (rIterL X.K X.s_0.heap.objs.size) := by
  intro pinz s σ H xs us Q I r h
  obtain ⟨l, zs, rfl, hq, q⟩ := h
  obtain ⟨u, rfl, ru⟩ := vals1 r
  cases ru
  obtain ⟨its, rv, pl, hz⟩ := I.list hq.sq
  refine Calls.call_function_entry (by decide +kernel) (by decide +kernel) PySem.W.kdk_entry_iter (PySem.W.kdk_args_iter _) ?_
  unfold Builtin.«iter»
  refine wpAny_bind (m := someArgs "iter" 1 2 _) (wpAny_of_eq (a := [Value.ref l]) (by first | rfl | kernel_rfl!) ?_)
  show wpAny _ _ (pyIter (.ref l) >>= _) _ _ _
  refine wpAny_bind (wpAny_pyIter_list pl.isList (wpAny_pure ⟨_, rfl, ?_⟩))
  exact ⟨.ref s.heap.objs.size, upd H s.heap.objs.size (LitO l s.heap.objs.size), I.laid (t' := s.toks) (fun b u e => Heap.get?_push_of_some _ e) (Nat.le_refl _) ⟨Heap.get?_push_size _ rfl, ⟨_, Heap.get?_push_size _ rfl⟩, fun _ _ p k => k _ p⟩, rfl, q _ (I.hok.fresh (Nat.le_refl _)) I.sz⟩
/-- what such an __iter__ promises: i the slot of the list -/
def spIl (K : Fg) (C : Addr) (i : Nat) : Nat → Sp := fun n vs H Q _ => ∃ a sl l zs, vs = [.ref a] ∧ InsH K H a C sl ∧ sl[i]? = some (some (.ref l)) ∧ FzL K H l zs ∧ ∀ it, H it = none → n ≤ it → Q (.ref it) (upd H it (LitO l it))
/-- its body's reading -/
theorem spIl_body {K : Fg} {C : Addr} {i n : Nat} {vs : List V} {H : Hp} {Q : VK} {E : XK} {σ : L2.St} {D : Ends} (h : spIl K C i n vs H Q E) (hσ : σ[0]? = some (vs.head?)) (hD : D.rt = Q) :
    tRet (tCB (rIterL K n) (tCons (tInsF K C i (tVar 0)) tNil)) D σ H := by
  obtain ⟨a, sl, l, zs, rfl, hi, hl, hs, q⟩ := h
  subst hD
  exact ⟨.ref a, hσ, a, sl, .ref l, rfl, hi, hl, l, zs, rfl, hs, q⟩
section
variable {X : Cx} {C f : Addr} {i n : Nat} {tgx e : Expr} {te : TE}
end
section
variable {X : Cx} {K : Fg} {C f fl : Addr} {n nl i : Nat} {spl : Sp} {sd : SpD}
end
/-! ### reading -/
section
variable {C : Addr} {ds es : List DV} {x y d : DV} {g : DG} {P : DV → Prop} {sd : SpD} {i : Nat}
variable {δ : DS} {a : TDE} {QA : List DV → DG → Prop}
end
/-! ### a changed list on the left of == and != -/
def rsv (g : DG) : DV → DV
  | .ref p => match g p with | some (.lst ds) => .lst ds | _ => .ref p
  | d => d
def rrNeR : RR2 := fun x y g P => okD (rsv g x) = true ∧ okD y = true ∧ P (.bl (!eqD (rsv g x) y))
theorem rsv_dp {K : Fg} {H : Hp} {g : DG} {d : DV} {v : V} (rg : RG K H g) (r : RD K H d v) (h : (rsv g d).pl = true) : Dp K H v (rsv g d).py := by
  unfold rsv at h ⊢
  split at h
  · rename_i p
    cases r
    split at h
    · rename_i ds e
      obtain ⟨vs, q, rd⟩ := rg _ _ e
      exact .lst (SqL.of q) (rd.dp h)
    · cases h
  · exact r.dp h
theorem ref_neR {K : Fg} : RefCmp K rrNeR (rNeD K) := by
  intro x y P v u H g Q rg rx ry k ⟨h1, h2, h⟩
  unfold okD at h1 h2
  rw [Bool.and_eq_true] at h1 h2
  exact ⟨_, _, rsv_dp rg rx h1.1, ry.dp h2.1, h1.2, h2.2, k _ h⟩
theorem rd_neR {g : DG} {p : Addr} {ds : List DV} {y : DV} {P : DV → Prop} (e : g p = some (.lst ds)) (c : okD (.lst ds) = true) (c2 : okD y = true) (h : P (.bl (!eqD (.lst ds) y))) : rrNeR (.ref p) y g P := by
  unfold rrNeR
  rw [show rsv g (.ref p) = .lst ds by unfold rsv; dsimp only; rw [e]]
  exact ⟨c, c2, h⟩
end DL

/-! Deep layer AO: name = {k: v for ..} on one line, the name a local. -/
namespace DL
open PySem PySem.Spec PyProof.Rows L2
section
variable {X : Cx}
theorem dc_core {pinz : List (Addr × Obj)} {s : Shared} {σ : L2.St} {H : Hp} {Q : VK} {kx vx tgx iter : Expr} {ifs : List Expr} {scope : Scope} {own : List (Str × Nat)} {pos pos' : Pos} {wi : TI} {tg : TG} {tt : TT} {tk tv : TE} {o0 : HO} {use : Option (Value → Sem Unit)} {Qf : Value → Shared → Prop}
    (h0 : EmptyD o0) (room : X.A.units + 1 < cLine) (calm : X.calm = true) (nd : X.N.Nodup) (J0 : Inv X pinz σ H s) (hi : PI X tgx iter wi) (ok : BlkOk X.N X.env.scope scope own)
    (hg : ∀ (s : Shared) (H : Hp) (C : Addr) (cl : List (Str × Addr)) (fp : List Addr), PG (X.blk s H scope (compEnvC scope cl C X.env) fp) tgx tg) (ht : ∀ (s : Shared) (H : Hp) (C : Addr) (cl : List (Str × Addr)) (fp : List Addr), PTs (X.blk s H scope (compEnvC scope cl C X.env) fp) ifs tt)
    (hk : ∀ (s : Shared) (H : Hp) (C : Addr) (cl : List (Str × Addr)) (fp : List Addr), PE (X.blk s H scope (compEnvC scope cl C X.env) fp) kx tk)
    (he : ∀ (s : Shared) (H : Hp) (C : Addr) (cl : List (Str × Addr)) (fp : List Addr), PE (X.blk s H scope (compEnvC scope cl C X.env) fp) vx tv) (hs : ∀ x, foldedSetIterable iter X.env x = pure x)
    (h : tDcA o0 wi tg tt tk tv (own.map (·.2)) σ H Q)
    (hRR : ∀ D C s' m H', Inv X pinz σ H' s' → Q (.ref D) H' → s'.heap.Ns C m → FpOk X pinz H' C → compPost (model X.prog X.w) X.A X.xe use Qf (.ref D) C (.ok .next) s') :
    wpAny (model X.prog X.w) X.A (comprehension (.DictComp kx vx [⟨tgx, iter, ifs, 0⟩] scope pos) scope X.env pos' newDict false (eval iter X.env) use) Qf X.xe s := by
  have free : ∀ y ∈ scope.names, y.2 = .free → ∃ c, X.env.cells.lookup y.1 = some c := fun y hy e => (ok.free y hy e).elim (fun k => J0.ok.has _ (.inl k)) fun k => J0.ok.has _ (.inr k)
  refine wpAny_comprehension_free (use := use) rfl hs (closure_ok free) ok.kind (fun y hy e => by rw [ok.uniq y hy, e]) (thn (hi.run pinz s σ H _ J0 h) fun xv s1 w1 => thn w1 fun itv s2 w2 => ?_)
  obtain ⟨it, fp, walk, J, H2, e, I2, T, at2, free2, q⟩ := w2
  subst e
  refine wpAny_newObj_type (newEnv_comp ?_)
  -- the dict, behind it the block's own names
  obtain ⟨D, hD⟩ : ∃ D, D = s2.heap.objs.size := ⟨_, rfl⟩
  have hD2 : H2 D = none := by rw [hD]; exact I2.hok.fresh (Nat.le_refl _)
  obtain ⟨W, ⟨m0, w0⟩, turn⟩ := q D hD2
  obtain ⟨s3, e3⟩ : ∃ s3 : Shared, s3 = { s2 with heap := s2.heap.push { cls := .type "dict", data := .dict #[] } } := ⟨_, rfl⟩
  have p3 : s3.heap = s2.heap.push { cls := .type "dict", data := .dict #[] } := by rw [e3]
  obtain ⟨H3, eH3⟩ : ∃ H3, H3 = upd H2 D o0 := ⟨_, rfl⟩
  rw [← eH3] at w0
  have I3 : Inv X pinz σ H3 s3 := by
    rw [e3, eH3, hD]
    exact I2.laid (t' := s2.toks) (fun b o e => Heap.get?_push_of_some _ e) (Nat.le_refl _) (empty_ok h0 s2.heap I2.big)
  have old : ∀ b ∈ fp, b < s2.heap.objs.size := fun b hb => let ⟨o, e, _⟩ := T.obj _ _ at2 b hb; Heap.lt_size e
  have free3 : ∀ b ∈ fp, FpOk X pinz H3 b ∧ b < s3.heap.objs.size := fun b hb => by
    have hlt := old b hb
    refine ⟨⟨?_, (free2 b hb).2⟩, by rw [p3, Heap.size_push]; exact Nat.lt_succ_of_lt hlt⟩
    rw [eH3, upd_ne (by rw [hD]; exact Nat.ne_of_lt hlt)]
    exact (free2 b hb).1
  have at3 : walk 0 s3.heap := T.keep _ _ _ at2 fun b _ o e => by rw [p3]; exact Heap.get?_push_of_some _ e
  have I4 := block_start I3 ok nd free3
  obtain ⟨cl, hcl⟩ : ∃ cl, cl = cellsFrom (s3.heap.objs.size + 1) scope.names (cloFrom X.env.cells scope.names []) := ⟨_, rfl⟩
  have pg := hg s3 H3 s3.heap.objs.size cl fp
  have pt := ht s3 H3 s3.heap.objs.size cl fp
  have pk := hk s3 H3 s3.heap.objs.size cl fp
  have pv := he s3 H3 s3.heap.objs.size cl fp
  rw [← hcl] at I4
  obtain ⟨ce, hce⟩ : ∃ ce, ce = compEnvC scope cl s3.heap.objs.size X.env := ⟨_, rfl⟩
  have locals : ce.locals = s3.heap.objs.size := by rw [hce]; rfl
  rw [← hce] at I4 pg pt pk pv
  obtain ⟨s4, e4⟩ : ∃ s4 : Shared, s4 = { s3 with heap := pushCells (s3.heap.push { cls := .type "dict", data := .dict #[] }) scope.names } := ⟨_, rfl⟩
  rw [← e4] at I4
  have at4 : walk 0 s4.heap := T.keep _ _ _ at3 fun b _ o e => by rw [e4]; exact pushCells_keeps _ _ _ _ (Heap.get?_push_of_some _ e)
  have quiet : ∀ {σ' : L2.St} {G : Hp} {t : Shared}, Inv (X.blk s3 H3 scope ce fp) [] σ' G t → (∀ b ∈ fp, G b = none) → ∀ b ∈ fp, FpOk (X.blk s3 H3 scope ce fp) [] G b := fun {σ' G t} I' n b hb =>
    ⟨n b hb, (I'.ok.exf b hb).1, I'.ok.exfs b hb, .inl hb, fun x c e => (I'.ok.exf b hb).2 x c e, fun p hp => absurd (show p ∈ ([] : List (Addr × Obj)) ++ [] from hp) (by simp)⟩
  have loop : codeAny (model X.prog X.w) X.A (.compLoop (.DictComp kx vx [⟨tgx, iter, ifs, 0⟩] scope pos) 0 (.ref it) (.ref D) ce) (compPost (model X.prog X.w) X.A X.xe use Qf (.ref D) s3.heap.objs.size) s4 := by
    refine compLoop_anyD (fun n t => ∃ i G, Inv (X.blk s3 H3 scope ce fp) [] (wipe σ (own.map (·.2))) G t ∧ walk i t.heap ∧ (∀ b ∈ fp, G b = none) ∧ W i n G) ?_ m0 ⟨0, H3, I4, at4, fun b hb => (free3 b hb).1.1, w0⟩
    rintro n t ⟨i, G, I5, at5, n5, w5⟩
    rcases turn i n G w5 with ⟨stop, fin⟩ | ⟨go, Nx, less, step⟩
    · refine thnF (T.done (X.blk s3 H3 scope ce fp) rfl rfl rfl calm i [] t _ G (fun _ _ => False) I5 (quiet I5 n5) at5 stop) fun r t6 ⟨er, I6⟩ => ?_
      subst er
      have I7 : Inv X pinz σ G t6 := I3.call' (ch := fp) I6.os I6.base I6.hok I6.bare fun b hb => ⟨(free3 b hb).1.2.2.2.1, (free3 b hb).1.2.1, (free3 b hb).1.2.2.2.2.1, (free3 b hb).1.2.2.2.2.2⟩
      have noC : G s3.heap.objs.size = none := by rw [← locals]; exact I6.free
      obtain ⟨m, hn, _⟩ := I6.loc
      have hn : t6.heap.Ns ce.locals m := hn
      rw [locals] at hn
      exact hRR D s3.heap.objs.size t6 m G I7 fin hn (I3.fpOk (Nat.le_refl _) noC)
    · refine thnF (T.item (X.blk s3 H3 scope ce fp) rfl rfl rfl calm i [] t _ G (fun _ _ => False) I5 (quiet I5 n5) at5 go) fun r t6 ⟨u, er, w6⟩ => ?_
      subst er
      refine thnF w6 fun _ t7 ⟨x, G7, I7, r7, y7, at7, n7⟩ => ?_
      refine thnF (pg.run _ t7 _ G7 x u _ (I7.pinned (quiet I7 n7) (T.obj _ _ at7)) r7 (step x G7 y7)) fun _ t8 ⟨σ8, G8, I8, wp8, q8⟩ => ?_
      refine thnF (pt.run _ t8 σ8 G8 _ I8 q8) fun b t9 ⟨G9, I9, q9⟩ => ?_
      have done : ∀ {t' : Shared} {G' : Hp}, Inv (X.blk s3 H3 scope ce fp) ([] ++ pinsAt fp t7.heap) σ8 G' t' → Nx G' → ∃ m, m < n ∧ ∃ i G', Inv (X.blk s3 H3 scope ce fp) [] (wipe σ (own.map (·.2))) G' t' ∧ walk i t'.heap ∧ (∀ b ∈ fp, G' b = none) ∧ W i m G' := fun {t' G'} I' nx => by
        obtain ⟨m', hm, w'⟩ := less G' nx
        have held : ∀ b ∈ fp, ∀ o, t7.heap.get? b = some o → t'.heap.get? b = some o ∧ G' b = none := fun b hb o e =>
          let z := I'.pin (b, o) (List.mem_append_right _ (List.mem_append_right _ (mem_pinsAt hb e)))
          ⟨z.1, z.2.1⟩
        refine ⟨m', hm, i + 1, G', (I'.unpinned (pins := [])).weak (by rw [← wp8, wipe_length]) (fun j v e => by rw [← wp8] at e; exact (wipe_some e).1), T.keep _ _ _ at7 fun b hb o e => (held b hb o e).1, fun b hb => ?_, w'⟩
        obtain ⟨o, e, _⟩ := T.obj _ _ at7 b hb
        exact (held b hb o e).2
      cases b with
      | false =>
        simp only [Bool.false_eq_true, if_false] at q9 ⊢
        exact done I9 q9
      | true =>
        simp only [if_true] at q9 ⊢
        refine thnF (pk.run _ t9 σ8 G9 _ I9 q9) fun ku t10 ⟨yk, G10, I10, r10, q10⟩ => ?_
        refine thnF (pv.run _ t10 σ8 G10 _ I10 q10) fun vu t11 ⟨yv, G11, I11, r11, G12, put, nx⟩ => ?_
        exact dset_put (X := X.blk s3 H3 scope ce fp) room I11 put r10 r11 fun t12 I12 => done I12 nx
  have start := codeAny_compStart_dict loop (T.self X.A 0 _ _ _ at4 loop)
  rw [e4, hce, hcl, hD] at start
  subst e3
  exact start
theorem ps_setDc {i : Nat} {y : Str} {py : Pos} {kx vx tgx iter : Expr} {ifs : List Expr} {scope : Scope} {own : List (Str × Nat)} {pos spos : Pos} {wi : TI} {tg : TG} {tt : TT} {tk tv : TE} {o0 : HO} (h0 : EmptyD o0) (room : X.A.units + 1 < cLine) (calm : X.calm = true) (nd : X.N.Nodup) (hy : X.N[i]? = some y) (hyl : X.env.scope.names.lookup y = some .local)
    (hsw : swapsWith (.DictComp kx vx [⟨tgx, iter, ifs, 0⟩] scope pos) (some (.Name y py)) spos.line X.env = pure true) (hi : PI X tgx iter wi) (ok : BlkOk X.N X.env.scope scope own)
    (hg : ∀ (s : Shared) (H : Hp) (C : Addr) (cl : List (Str × Addr)) (fp : List Addr), PG (X.blk s H scope (compEnvC scope cl C X.env) fp) tgx tg) (ht : ∀ (s : Shared) (H : Hp) (C : Addr) (cl : List (Str × Addr)) (fp : List Addr), PTs (X.blk s H scope (compEnvC scope cl C X.env) fp) ifs tt)
    (hk : ∀ (s : Shared) (H : Hp) (C : Addr) (cl : List (Str × Addr)) (fp : List Addr), PE (X.blk s H scope (compEnvC scope cl C X.env) fp) kx tk)
    (he : ∀ (s : Shared) (H : Hp) (C : Addr) (cl : List (Str × Addr)) (fp : List Addr), PE (X.blk s H scope (compEnvC scope cl C X.env) fp) vx tv) (hs : ∀ x, foldedSetIterable iter X.env x = pure x := by intro _; rfl) :
    PS X (.Assign [.Name y py] (.DictComp kx vx [⟨tgx, iter, ifs, 0⟩] scope pos) spos) (tAsg (tDcA o0 wi tg tt tk tv (own.map (·.2))) (gName i)) := by
  refine ⟨fun pins s σ H D I h => ?_⟩
  rw [exec_Assign_Name_used _ _ _ _ hsw]
  refine wpAny_bind (wpAny_standAt (wpAny_bind ?_))
  show wpAny _ X.A (do let _ ← comprehension (.DictComp kx vx [⟨tgx, iter, ifs, 0⟩] scope pos) scope X.env (firstIterPos [⟨tgx, iter, ifs, 0⟩] pos) newDict false (eval iter X.env) (some (assign (.Name y py) X.env))) _ _ s
  have h : tDcA o0 wi tg tt tk tv (own.map (·.2)) σ H (fun x H1 => gName i x σ H1 D.nx) := h
  refine wpAny_bind (thn (dc_core (Qf := fun _ s' => SP X pins D .next s') h0 room calm nd I hi ok hg ht hk he hs h fun L C s' m H' I' q hn f => ?_) fun _ s' hq => wpAny_pure (wpAny_pure hq))
  show wpAny _ _ (assign (.Name y py) X.env (.ref L)) _ _ _
  refine wpAny_assign_Name (store_ok2 (v := V.ref L) I' nd hy (.inl hyl) rfl (fun s2 I2 ⟨a, sb, ha⟩ => ?_) (.inr hyl))
  obtain ⟨f0, f1, f2, f3, f4, f5⟩ := f
  have haC : C ≠ a := by
    rcases ha with z | z
    · rw [z]; exact f1
    · exact fun e => f4 y a z e.symm
  refine ⟨m, hn.sameBut sb haC, fun h3 sb3 => ?_⟩
  exact ⟨_, H', I2.turned (t' := s2.toks) (fun b o hb e => (sb3.2 b hb).trans e) f0 f1 f3 f4 f5, q⟩
theorem swD_true {kx vx : Expr} {gs : List Comprehension} {scope : Scope} {pos py : Pos} {y : Str} {l : Nat} {env : Env} (hk : env.scope.kind = .function) (hy : env.scope.names.lookup y = some .local) (hl : (py.line == pos.line) = true)
    (ha : (scope.names.any fun (n, k) => n == y && (k == .local || k == .cell)) = false) : swapsWith (.DictComp kx vx gs scope pos) (some (.Name y py)) l env = pure true := by
  have ky : env.kindOf y = some .local := hy
  have hb : env.blockKind = .function := by unfold Env.blockKind; rw [hk]; rfl
  unfold swapsWith
  simp only [hb, ky, ha, Expr.pos, hl]
  rfl
variable {kx vx iter tgx : Expr} {ifs : List Expr} {scope : Scope} {own : List (Str × Nat)} {wi : TDI} {tg : Tg} {tt : TDT} {tk tv : TDE} {pos spos : Pos}
theorem pds_setDc {i : Nat} {y : Str} {py : Pos} (room : X.A.units + 64 < cLine) (hc : X.calm = true) (hN : X.N.Nodup) (hsw : swapsWith (.DictComp kx vx [⟨tgx, iter, ifs, 0⟩] scope pos) (some (.Name y py)) spos.line X.env = pure true) (hi : PI X tgx iter (upI X.K wi)) (ok : BlkOk X.N X.env.scope scope own)
    (hg : ∀ (s : Shared) (H : Hp) (C : Addr) (cl : List (Str × Addr)) (fp : List Addr), PG (X.blk s H scope (compEnvC scope cl C X.env) fp) tgx (tgG X.K tg)) (ht : ∀ (s : Shared) (H : Hp) (C : Addr) (cl : List (Str × Addr)) (fp : List Addr), PTs (X.blk s H scope (compEnvC scope cl C X.env) fp) ifs (upT X.K tt))
    (hk : ∀ (s : Shared) (H : Hp) (C : Addr) (cl : List (Str × Addr)) (fp : List Addr), PE (X.blk s H scope (compEnvC scope cl C X.env) fp) kx (upE X.K tk)) (he : ∀ (s : Shared) (H : Hp) (C : Addr) (cl : List (Str × Addr)) (fp : List Addr), PE (X.blk s H scope (compEnvC scope cl C X.env) fp) vx (upE X.K tv)) (hy : X.N[i]? = some y := by rfl) (hyl : X.env.scope.names.lookup y = some .local := by rfl)
    (hix : ∀ i ∈ tg.ix, i ∈ own.map (·.2) := by decide) (hs : ∀ x, foldedSetIterable iter X.env x = pure x := by intro _; rfl) :
    PS X (.Assign [.Name y py] (.DictComp kx vx [⟨tgx, iter, ifs, 0⟩] scope pos) spos) (upS X.K (dAsg (.nm i) (dDcT wi tg (own.map (·.2)) tt tk tv))) :=
  PS_weak (PS_fz (ps_setDc (.inr rfl) (by omega) hc hN hy hyl hsw hi ok hg ht hk he hs)) fun D σ H ⟨δ, g, E, rs, rg, h, k1, _⟩ => dcT_up (P := fun ks vs g2 => E.nx (δ.set i (some (.dT ks vs))) g2) hix rs rg h fun L kvs ys g' H' e rg' gD hD0 hD rd p =>
    have km : ∀ o, Kp H' (upd H' L o) := fun o => Kp.mut (by rw [hD]; exact True.intro)
    .inr ⟨L, .dT kvs, hD, trivial, fun o => k1 _ g' _ _ (lock_ext e hD0) (fun a u ha => (rg' a u ha).keep (km _) (upd_ne (fun q => by subst q; rw [gD] at ha; cases ha))) ((rs.mono ((lock_ext e hD0).kp rg)).set i (.dT ⟨o, kvs, upd_same, rfl, rfl⟩ (rd.mono (km _)))) p⟩
theorem pds_setDcM {i : Nat} {y : Str} {py : Pos} (room : X.A.units + 64 < cLine) (hc : X.calm = true) (hN : X.N.Nodup) (hsw : swapsWith (.DictComp kx vx [⟨tgx, iter, ifs, 0⟩] scope pos) (some (.Name y py)) spos.line X.env = pure true) (hi : PI X tgx iter (upI X.K wi)) (ok : BlkOk X.N X.env.scope scope own)
    (hg : ∀ (s : Shared) (H : Hp) (C : Addr) (cl : List (Str × Addr)) (fp : List Addr), PG (X.blk s H scope (compEnvC scope cl C X.env) fp) tgx (tgG X.K tg)) (ht : ∀ (s : Shared) (H : Hp) (C : Addr) (cl : List (Str × Addr)) (fp : List Addr), PTs (X.blk s H scope (compEnvC scope cl C X.env) fp) ifs (upT X.K tt))
    (hk : ∀ (s : Shared) (H : Hp) (C : Addr) (cl : List (Str × Addr)) (fp : List Addr), PE (X.blk s H scope (compEnvC scope cl C X.env) fp) kx (upE X.K tk)) (he : ∀ (s : Shared) (H : Hp) (C : Addr) (cl : List (Str × Addr)) (fp : List Addr), PE (X.blk s H scope (compEnvC scope cl C X.env) fp) vx (upE X.K tv)) (hy : X.N[i]? = some y := by rfl) (hyl : X.env.scope.names.lookup y = some .local := by rfl)
    (hix : ∀ i ∈ tg.ix, i ∈ own.map (·.2) := by decide) (hs : ∀ x, foldedSetIterable iter X.env x = pure x := by intro _; rfl) :
    PS X (.Assign [.Name y py] (.DictComp kx vx [⟨tgx, iter, ifs, 0⟩] scope pos) spos) (upS X.K (dAsg (.nm i) (dDcTM wi tg (own.map (·.2)) tt tk tv))) :=
  PS_weak (ps_setDc (.inr rfl) (by omega) hc hN hy hyl hsw hi ok hg ht hk he hs) fun D σ H ⟨δ, g, E, rs, rg, h, k1, _⟩ => dcT_up (P := fun ks vs g2 => ∀ p, g2 p = none → E.nx (δ.set i (some (.ref p))) (gup g2 p (.dT ks vs))) hix rs rg h fun L kvs ys g' H' e rg' gD hD0 hD rd p =>
    k1 _ _ _ _ (ext_gup e hD0) (rg_gupT rg' hD rfl rd) ((rs.mono (e.kp rg)).set i (.ref L)) (p L gD)
end
end DL

/-! Deep layer AP: sorted(set(xs)), xs a tuple of ints. -/
namespace L2
open PyProof.Rows PySem.Spec PySem
section
variable {P : Program} {u : World} {A : Around} {E : Value → Shared → Prop} {s : Shared}
end
end L2
namespace DL
open PyProof.Rows PySem.Spec PySem L2
section
variable {X : Cx} {pos : Pos} {a : Expr} {ta : TDE}
end
/-! ### sorted(xs), xs a list or a tuple -/
section
open PySem.W (EachIs)
variable {X : Cx}
end
end DL

/-! Deep layer AQ: dicts of tuple keys: values(), items(), update(pairs), == with any values, displays to be changed. -/
namespace DL
open PySem PySem.Spec PyProof.Rows L2
open PySem.SeqAt (EqIn EqAt)
/-! ### walks -/
theorem frzT_raw {X : Cx} {pins : List (Addr × Obj)} {σ : L2.St} {H : Hp} {s : Shared} {d : Addr} {o : Obj} {kvs : List (List Key × V)} (I : Inv X pins σ H s) (h : H d = some (.frz o (.dT kvs))) :
    (d == sysModules) = false ∧ s.heap.get? d = some o ∧ o.ExactDict ∧ ∃ (es : Array DictEntry) (ep : Nat), o.data = .dict es ep ∧ es.size = kvs.length ∧ s.heap.DictRaw d es ep ∧
      ∀ (i : Nat) (k : List Key) (v : V), kvs[i]? = some (k, v) → ∃ (q : Addr) (hi : i < es.size), es[i].key = .ref q ∧ H q = some (.tup (k.map kV)) ∧ RelV v es[i].val := by
  obtain ⟨hd, z, hs, xs, pr, o', es, ep, ho, hx, hdt, he, _⟩ := I.hok d _ h
  rw [hd] at ho
  cases ho
  have l1 : es.size = xs.length := size_of_entries he
  have l2 : kvs.length = xs.length := Paired.length pr
  refine ⟨hs, hd, hx, es, ep, hdt, by omega, ⟨o, hd, hx, hdt⟩, fun i k v e => ?_⟩
  obtain ⟨b, hb, e1, e2, e3⟩ := paired_get pr e
  have hi : i < es.size := by
    have := (List.getElem?_eq_some_iff.mp hb).1
    omega
  have q := entry_at he i
  rw [hb, Array.getElem?_eq_getElem hi] at q
  have q' := Option.some.inj q
  exact ⟨b.2.1, hi, by rw [q']; rfl, e2, by rw [q']; exact e3⟩
def Itit (d : Addr) (o : Obj) (kvs : List (List Key × V)) : It :=
  ⟨fun i H => H d = some (.frz o (.dT kvs)) ∧ i < kvs.length, fun i H x H' => ∃ T k v q, kvs[i]? = some (k, v) ∧ x = .ref T ∧ H q = some (.tup (k.map kV)) ∧ H T = none ∧ H' = upd H T (.tup [.ref q, v]),
   fun i H => H d = some (.frz o (.dT kvs)) ∧ kvs.length ≤ i⟩
section
variable {P : Program} {w : World} {K : PySem.W.Frag} {tg : Expr} {d : Addr} {o : Obj} {es : Array DictEntry} {ep : Nat}
theorem turn_itemsT {kvs : List (List Key × V)} {elts : List Expr} {kk : Nat} {tpos : Pos} (it : Addr) (hod : o.data = .dict es ep) :
    Turn P w K (.Tuple elts kk tpos) (Itit d o kvs) [it] it (fun i h => ∃ ok ov, IsItemIter h it d i kvs.length ep ok ov) where
  mem := by simp
  obj := fun i h st b hb => by
    have e : b = it := by simpa using hb
    subst e
    obtain ⟨ok, ov, e⟩ := st
    exact ⟨_, e, fun v z => nomatch z⟩
  keep := fun i h h' st k => let ⟨ok, ov, e⟩ := st; ⟨ok, ov, k it (by simp) _ e⟩
  item := by
    intro X hP hw hK hc i pins s σ H E I hf st hg
    subst hP hw hK
    obtain ⟨hd, hi⟩ := hg
    obtain ⟨hs, hgd, hx, es', ep', hdt, hsz, hm, ent⟩ := frzT_raw I hd
    obtain ⟨rfl, rfl⟩ := dict_ep hod hdt
    obtain ⟨⟨k, v⟩, hkv⟩ : ∃ p, kvs[i]? = some p := ⟨kvs[i], List.getElem?_eq_getElem hi⟩
    obtain ⟨q, hi', hkey, hq, ru⟩ := ent i k v hkv
    obtain ⟨ok, ov, he⟩ := st
    rw [← hsz] at he
    have hlt : it < s.heap.objs.size := Heap.lt_size he
    refine wpAny_pyNext_items_item_raw he hm hi' fun h' ho hT hz hk => ?_
    refine ⟨_, rfl, wpAny_letOwnedTupleGo_items (s := { s with heap := h' }) ho fun h'' he' sb => ?_⟩
    have hT2 : h''.get? s.heap.objs.size = some { cls := .type "tuple", data := .seq #[es'[i].key, es'[i].val] } := (sb.2 _ (Nat.ne_of_gt hlt)).trans hT
    have new : ObjOk X.prog X.w (upd H s.heap.objs.size (.tup [.ref q, v])) h'' s.heap.objs.size (.tup [.ref q, v]) :=
      ⟨by show 2 ≤ sizeLine; decide, [es'[i].key, es'[i].val], .cons hkey (.cons ru .nil), ⟨_, hT2, rfl, _, rfl⟩⟩
    have I1 : Inv X pins σ (upd H s.heap.objs.size (.tup [.ref q, v])) { s with heap := h'' } :=
      I.turnedNew (t' := s.toks) (ch := [it]) (fun b ob hb e => (sb.2 b (by simpa using hb)).trans (hk b ob (by simpa using hb) e)) hf (Nat.le_refl _) new
    refine ⟨.ref s.heap.objs.size, _, I1, rfl, ⟨_, k, v, q, hkv, rfl, hq, I.hok.fresh (Nat.le_refl _), rfl⟩, ⟨es'[i].key, es'[i].val, ?_⟩, fun b hb => ?_⟩
    · rw [← hsz]; exact he'
    · have e : b = it := by simpa using hb
      rw [e, upd_ne (Nat.ne_of_lt hlt)]
      exact (hf it (by simp)).1
  done := by
    intro X hP hw hK hc i pins s σ H E I hf st hg
    subst hP hw hK
    obtain ⟨hd, hi⟩ := hg
    obtain ⟨f0, f1, f2, f3, f4, f5⟩ := hf it (by simp)
    obtain ⟨hs, hgd, hx, es', ep', hdt, hsz, hm, ent⟩ := frzT_raw I hd
    obtain ⟨rfl, rfl⟩ := dict_ep hod hdt
    obtain ⟨ok, ov, he⟩ := st
    rw [← hsz] at he
    exact wpAny_pyNext_items_end_raw (I.ok.hd hc) he hm (by omega) fun h' eb => ⟨rfl, I.turned (t' := s.toks) (fun b ob hb e => eb b ob hb e) f0 f1 f3 f4 f5⟩
  self := fun A i s Q E st h => let ⟨_, _, e⟩ := st; PySem.W.kcp_self e h
end
section
variable {X : Cx} {tg e : Expr} {td : TE} {apos cpos : Pos}
def iItemsT (td : TE) : TI := fun σ H R => td σ H fun x H1 => ∃ d o kvs, x = .ref d ∧ H1 d = some (.frz o (.dT kvs)) ∧ R (Itit d o kvs) H1
theorem pi_itemsT {elts : List Expr} {kk : Nat} {tpos : Pos} (he : PE X e td) (hbase : attributeBase e "items" X.env (eval e X.env) = eval e X.env := by rfl) (hline : (apos.endLine == cpos.line) = true := by rfl) :
    PI X (.Tuple elts kk tpos) (.Call (.Attribute e "items" apos) [] [] cpos) (iItemsT td) := by
  refine ⟨fun pins s σ H R I h => ?_⟩
  refine wpAny_Call_method (T := "dict") (id := "dict.items") hbase rfl hline F.plainAttrs_dict F.slot_dict_items F.type_dict_items (thn (he.run pins s σ H _ I h) fun u s1 ⟨x, H1, I1, rx, d, o, kvs, ex, hd, q⟩ => ?_)
  subst ex
  obtain rfl : u = Value.ref d := rx
  obtain ⟨hs, hgd, hx, es, ep, hdt, hsz, hm, ent⟩ := frzT_raw I1 hd
  refine ⟨hm.typeIs, fun a e => by cases e; exact ⟨_, hgd, hx.2.1⟩, ?_⟩
  have I2 : Inv X pins σ H1 { s1 with heap := s1.heap.push { cls := .type "dict_items", data := .fields #[.ref d] } } := I1.kept (t' := s1.toks) fun b ob q => Heap.get?_push_of_some _ q
  have fin : wpAny (model X.prog X.w) X.A (pyIter (.ref s1.heap.objs.size)) (PIE X pins σ (.Tuple elts kk tpos) R) X.xe { s1 with heap := s1.heap.push { cls := .type "dict_items", data := .fields #[.ref d] } } := by
    refine wpAny_pyIter_items_raw (d := d) ⟨_, Heap.get?_push_size _ rfl, rfl, rfl⟩ (hm.at fun o e => Heap.get?_push_of_some _ e) (pi_one (tk := s1.toks) I2 _ (turn_itemsT _ hdt) ⟨.none, .none, ?_⟩ q)
    rw [← hsz]
    exact Heap.get?_push_size _ rfl
  show wpAny _ _ (callWith cpos (.builtin "dict.items") [.ref d] [] []) _ X.xe s1
  exact method_meetsIn F.slot_dict_items F.entry_dict_items rfl (PySem.evalArgs_none ⟨rfl, hm.typeIs, F.args_dict_items_1 _, _, meets_dict_items_raw d hs, ⟨es, ep, hm⟩, fin⟩)
end
section
variable {X : Cx} {K : Fg} {e : Expr} {td : TDE} {apos cpos : Pos}
def pairsD (ks : List (List Key)) (ds : List DV) : List DV := (ks.zip ds).map fun p => .tup [keyDT p.1, p.2]
def wItemsT (te : TDE) : TDI := fun δ g R => te δ g fun x g1 => ∃ ks ds, x = .dT ks ds ∧ R (pairsD ks ds) g1
theorem dwalk_itemsT {d : Addr} {od : Obj} {H : Hp} {kvs : List (List Key × V)} {ds : List DV} (h : H d = some (.frz od (.dT kvs))) (r : RDs K H ds (kvs.map (·.2))) : DWalk K (Itit d od kvs) (pairsD (kvs.map (·.1)) ds) H := by
  have hl : ds.length = kvs.length := by rw [r.length, List.length_map]
  have hl2 : (pairsD (kvs.map (·.1)) ds).length = kvs.length := by unfold pairsD; rw [List.length_map, List.length_zip, List.length_map]; omega
  refine ⟨fun i H' hi k => ⟨k.f _ _ _ h, by omega⟩, fun H' k => ⟨k.f _ _ _ h, by omega⟩, fun i H1 x H' dv hd k y => ?_⟩
  obtain ⟨T, key, v, q, ek, ex, hq, hT, e⟩ := y
  subst e ex
  unfold pairsD at hd
  rw [List.getElem?_map] at hd
  obtain ⟨⟨k', d'⟩, hz, e2⟩ := Option.map_eq_some_iff.mp hd
  subst e2
  obtain ⟨hz1, hz2⟩ := List.getElem?_zip_eq_some.mp hz
  rw [List.getElem?_map, ek] at hz1
  cases hz1
  obtain ⟨v', hv, rv⟩ := r.get hz2
  rw [List.getElem?_map, ek] at hv
  cases hv
  have kk : Kp H1 (upd H1 T (.tup [.ref q, v])) := Kp.fresh hT
  exact ⟨.inr ⟨T, _, hT, rfl⟩, .tup upd_same (.cons (.tup (kk.t _ _ hq) (keysD_rd key)) (.cons ((rv.mono k).mono kk) .nil))⟩
theorem pid_itemsT {elts : List Expr} {kk : Nat} {tpos : Pos} (he : PE X e (upE X.K td)) (hbase : attributeBase e "items" X.env (eval e X.env) = eval e X.env := by rfl) (hline : (apos.endLine == cpos.line) = true := by rfl) : PI X (.Tuple elts kk tpos) (.Call (.Attribute e "items" apos) [] [] cpos) (upI X.K (wItemsT td)) := by
  refine PI_weak (pi_itemsT he hbase hline) fun σ H R ⟨δ, g, P, rs, rg, h, k⟩ => ⟨δ, g, _, rs, rg, h, fun d g1 v H1 e1 rg1 rd ⟨ks, ds, ed, p⟩ => ?_⟩
  subst ed
  cases rd with
  | dT hs hr =>
    obtain ⟨od, kvs, hd, e1', e2'⟩ := hs
    subst e1' e2'
    exact ⟨_, od, kvs, rfl, hd, k _ _ _ _ e1 rg1 (dwalk_itemsT hd hr) p⟩
end
/-! ### d.update(pairs), all keys new -/
section
variable {X : Cx} {K : Fg}
end
end DL

/-! Deep layer AR: update, == and != of dicts with any values, displays to be changed; readings. -/
namespace DL
open PySem PySem.Spec PyProof.Rows L2
open PySem.SeqAt (EqIn EqAt)
section
variable {X : Cx} {K : Fg} {pos apos cpos : Pos} {o e : Expr} {to : TDE} {t : TDA}
end
/-! ### == and != -/
section
variable {X : Cx} {pins : List (Addr × Obj)} {σ : L2.St} {H : Hp} {s : Shared}
end
/-! ### a display to be changed -/
section
variable {X : Cx} {K : Fg} {pos : Pos}
end
/-! ### readings of walks -/
section
variable {δ : DS} {g : DG} {a : TDE} {RL : List DV → DG → Prop} {ks : List (List Key)} {ds : List DV}
theorem rd_wiT (h : a δ g fun x g1 => ∃ ks ds, x = .dT ks ds ∧ RL (pairsD ks ds) g1) : wItemsT a δ g RL := h
end
end DL

/-! Deep layer AS: walks and `in` over what is a tuple, a list or a dict of tuple keys. -/
namespace L2.MulT
open PySem PySem.Spec PyProof.Rows
open PySem.AutoSeq1 (wpAny_loadPart')
theorem mul_zero (l : Addr) (items : Array Value) (n : Nat) (dd : Option Addr) (sl : Array (Option Value)) (u : Tok) (hi : items.isEmpty = false) :
    Meets (Builtin.«tuple.__mul__» ⟨[.ref l, .int 0 u], []⟩) (fun _ R s => s.heap.get? l = some { cls := .type "tuple", dict := dd, data := .seq items n, slots := sl } ∧
      R (.ok (.ret (Value.ref s.heap.objs.size))) { s with heap := s.heap.push { cls := Value.type "tuple", data := Data.seq #[] }, toks := s.toks }) :=
  .of_wp fun prog w A R s h => by
    obtain ⟨hp, g, d, tk, os⟩ := s
    obtain ⟨at0, h⟩ := h
    have f1 := AutoSeq1.idx_int
    have c1 : ¬ (items.isEmpty || (0 : Int) == 1) = true := by rw [hi]; decide
    have c2 : (decide ((0 : Int) ≤ 0) || items.isEmpty) = true := by simp
    wp_walk using wpAny_loadPart' at0
    repeat (first
      | (refine wpAny_ite_false (by decide) ?_; wp_walk using wpAny_loadPart' at0)
      | (refine wpAny_ite_false (decide_eq_false c1) ?_; wp_walk using wpAny_loadPart' at0)
      | (refine wpAny_ite_true (by simp) ?_; wp_walk using wpAny_loadPart' at0))
    all_goals exact ⟨_, rfl, h⟩
section
variable {X : Cx}
end
end L2.MulT
namespace DL
open PySem PySem.Spec PyProof.Rows L2
section
variable {X : Cx}
/-! ### t * k, k at least 0 -/
end
section
variable {X : Cx} {tgx : Expr}
end
/-! ### enumerate of a tuple or a list -/
section
variable {X : Cx} {pos : Pos}
theorem dwalk_enL {K : Fg} {H : Hp} {a : Addr} {xs : List DV} {vs : List V} (ha : FzL K H a vs) (ra : RDs K H xs vs) : DWalk K (Ite K a) (enD xs) H := by
  have l1 := ra.length
  have hl := enD_len xs
  refine ⟨fun i H' hi k => ?_, fun H' k => ⟨vs, (k.fz ha).sq, by omega⟩, fun i H1 x H' d hd k y => ?_⟩
  · have h1 : i < vs.length := by omega
    exact ⟨vs, vs[i], (k.fz ha).sq, by simp [h1]⟩
  · obtain ⟨T, v, h1, h2, h3, h4⟩ := y
    obtain ⟨x', y', e1, e2, rfl⟩ := zipD_get hd
    have ex := rangeD_at' e1
    subst ex
    have q1 := h4 vs (k.fz ha).sq
    obtain ⟨v', e1', r1⟩ := ra.get e2
    rw [q1] at e1'; cases e1'
    have kk : Kp H1 H' := by rw [h3]; exact Kp.fresh h2
    refine ⟨.inr ⟨T, _, h2, h3⟩, ?_⟩
    rw [h1]
    exact .tup (by rw [h3]; exact upd_same) (.cons (.int _) (.cons ((r1.mono k).mono kk) .nil))
def enKL (R : List DV → DG → Prop) (xs : List DV) (g : DG) : Prop := match xs with | [.lst ds] => R (enD ds) g | _ => False
def wEnL (ta : TDA) : TDI := fun δ g R => ta δ g fun xs g1 => enKL R xs g1
theorem pid_enL {e : Expr} {ta : TDA} {p pos tpos : Pos} {elts : List Expr} {kk : Nat} (hm : X.mg "enumerate" = none) (ha : PA X [e] (upA X.K ta)) (hg : Gl X "enumerate" := by rfl) (hs : starEach [e] X.env = [(false, eval e X.env)] := by rfl) :
    PI X (.Tuple elts kk tpos) (.Call (.Name "enumerate" p) [e] [] pos) (upI X.K (wEnL ta)) := by
  refine PI_weak (pi_enum hg hm ha hs) fun σ H R ⟨δ, g, P, rs, rg, h, k⟩ => ⟨δ, g, _, rs, rg, h, fun xs g1 vs H1 e1 rg1 rd1 h1 => ?_⟩
  unfold enKL at h1
  split at h1
  · obtain ⟨v, rfl, rx⟩ := rd1.inj1
    cases rx with
    | lst hs hr => exact ⟨_, _, rfl, hs.sq, k _ _ _ _ e1 rg1 (dwalk_enL hs hr) h1⟩
  · exact h1.elim
end
end DL

/-! Deep layer AT: zip of a list and a tuple; a list times a number. -/
namespace L2.ZM
open PySem PySem.Spec PyProof.Rows
end L2.ZM
namespace DL
open PySem PySem.Spec PyProof.Rows L2
section
variable {X : Cx} {e e2 : Expr} {t : TDA}
/-! ### [..] * k -/
def rlK (Q : DV → DG → Prop) (ds : List DV) (y : DV) (g : DG) : Prop := ∃ k : Int, y = .int k ∧ 0 ≤ k ∧ k ≤ 1000 ∧ Q (.lst (List.replicate k.toNat ds).flatten) g
def dRepL (ta : TDA) (tb : TDE) : TDE := fun δ g Q => ta δ g fun ds g1 => ds.length ≤ 1000 ∧ tb δ g1 fun y g2 => rlK Q ds y g2
theorem rds_repL {K : Fg} {H : Hp} {ds : List DV} {vs : List V} (r : RDs K H ds vs) : ∀ n : Nat, RDs K H (List.replicate n ds).flatten (List.replicate n vs).flatten
  | 0 => .nil
  | n + 1 => by
    rw [List.replicate_succ, List.replicate_succ, List.flatten_cons, List.flatten_cons]
    exact r.append (rds_repL r n)
theorem rd_repL {es : TDA} {b : TDE} {δ : DS} {g : DG} {Q : DV → DG → Prop} (h : es δ g fun ds g1 => ds.length ≤ 1000 ∧ b δ g1 fun y g2 => rlK Q ds y g2) : dRepL es b δ g Q := h
end
end DL

/-! Deep layer AU: list(enumerate(a tuple)). -/
namespace L2.EnL
open PySem PySem.Spec PyProof.Rows L2
section
variable {prog : Program} {w : World} {A : Around} {E : Value → Shared → Prop} {s : Shared}
end
theorem FpOk.at {X : Cx} {pins : List (Addr × Obj)} {H H' : Hp} {b : Addr} (h : FpOk X pins H b) (hn : H' b = none) : FpOk X pins H' b := ⟨hn, h.2⟩
section
variable {X : Cx} {pins : List (Addr × Obj)} {σ : St} {J : It} {S it : Addr} {fp : List Addr} {tn : Nat → Heap → Prop} {A : Around}
end
/-! ### enumerate of a tuple -/
/-! ### the expression -/
end L2.EnL
namespace DL
open PySem PySem.Spec PyProof.Rows L2 Builtin
section
variable {X : Cx} {pos : Pos}
theorem enD_get {ds : List DV} {i : Nat} {d : DV} (h : ds[i]? = some d) : (enD ds)[i]? = some (.tup [.int (i : Nat), d]) := by
  have hl := (List.getElem?_eq_some_iff.mp h).1
  have h2 : i < (enD ds).length := by rw [enD_len]; exact hl
  obtain ⟨x, y, e1, e2, e3⟩ := zipD_get (List.getElem?_eq_getElem h2)
  have ex := rangeD_at' e1
  rw [h] at e2
  cases e2
  subst ex
  rw [List.getElem?_eq_getElem h2, e3]
end
end DL

/-! Deep layer AV: dict(zip(a list of tuples, a list)). -/
namespace DL
open PySem PySem.Spec PyProof.Rows L2
section
variable {X : Cx} {K : Fg} {H : Hp} {pins : List (Addr × Obj)} {σ : L2.St} {s : Shared}
end
end DL

/-! Deep layer AW: list(a dict's items). -/
namespace L2.ItL
open PySem PySem.Spec PyProof.Rows L2 DL
section
variable {X : Cx} {pins : List (Addr × Obj)} {σ : L2.St} {H H' : Hp} {s : Shared} {h' : Heap}
end
section
variable {X : Cx} {e : Expr} {td : TE} {p apos cpos pos : Pos}
end
end L2.ItL
namespace DL
open PySem PySem.Spec PyProof.Rows L2 Builtin L2.ItL
section
variable {K : Fg} {g : DG}
end
section
variable {X : Cx} {pos : Pos} {δ : DS} {g : DG} {Q : DV → DG → Prop}
end
end DL
namespace DL
open PySem PySem.Spec PyProof.Rows L2 Builtin
section
variable {X : Cx} {K : Fg}
/-- dict(d), to be changed -/
def rrDictTM : RRsM := fun xs g P => ∃ x ks ds, xs = [x] ∧ dctT g x = some (ks, ds) ∧ HashOk ks ∧ ∀ p, g p = none → P (.ref p) (gup g p (.dT ks ds))
theorem ref_dictTM : RefCallM K rrDictTM rDictT := by
  intro xs P vs H g Q rg r k ⟨x, ks, ds, ex, e, hh, h⟩
  subst ex
  obtain ⟨v, rfl, rx⟩ := r.inj1
  obtain ⟨a, kvs, rfl, hd, ek, rd⟩ := dctT_of rg rx e
  exact ⟨a, kvs, rfl, hd, by rw [ek]; exact hh, fun p hp => .inl (k _ _ _ _ (Ext.new hp) (rg.newT hp ek rd) (.ref p) (h p (rg.none hp)))⟩
theorem rd_dictTM {g : DG} {x : DV} {ks : List (List Key)} {ds : List DV} {Q : DV → DG → Prop} (e : dctT g x = some (ks, ds)) (hh : HashOk ks) (h : ∀ p, g p = none → Q (.ref p) (gup g p (.dT ks ds))) : rrDictTM [x] g Q := ⟨x, ks, ds, rfl, e, hh, h⟩
end
end DL

/-! k07, plain: what the readings need. -/
namespace DL
open PySem L2
theorem all_tt (ds : List DV) : (ds.map fun _ => true).all id = true := by rw [List.all_map]; exact List.all_eq_true.mpr fun _ _ => rfl
theorem tI_mem {L : List (List Int)} {d : DV} (h : d ∈ L.map tI) : ∃ m ∈ L, d = tI m := by
  obtain ⟨m, hm, e⟩ := List.mem_map.mp h
  exact ⟨m, hm, e.symm⟩
theorem rd_neN {i j : Int} {g : DG} {P : DV → Prop} (h : i = j) (k : P (.bl false)) : rrNe (.int i) (.int j) g P := ⟨okD_int _, okD_int _, by rw [eqD_int, decide_eq_true h]; exact k⟩
theorem gdel_ne {g : DG} {p b : Addr} (h : b ≠ p) : gdel g p b = g b := by unfold gdel; rw [if_neg h]
theorem py_tIs : ∀ ws : List (List Int), pyAll (ws.map tI) = ws.map fun w => PyData.tuple (w.map PyData.int)
  | [] => rfl
  | w :: ws => by rw [List.map_cons, pyAll, py_tIs ws, py_tI]; rfl
theorem lay_tIs : ∀ ws : List (List Int), PyData.canLayAll0 (ws.map fun w => PyData.tuple (w.map PyData.int)) = true
  | [] => rfl
  | w :: ws => by simp [PyData.canLayAll0, PyData.canLay0, lay_is, lay_tIs ws]
theorem dep_tIs : ∀ ws : List (List Int), PyData.depthAll (ws.map fun w => PyData.tuple (w.map PyData.int)) ≤ 1
  | [] => by simp [PyData.depthAll]
  | w :: ws => by
    have := dep_tIs ws
    simp only [List.map_cons, PyData.depthAll, PyData.depth, dep_is]
    omega
theorem okD_tIs (ws : List (List Int)) : okD (.tup (ws.map tI)) = true := by
  unfold okD
  rw [show (DV.tup (ws.map tI)).pl = true from pl_tIs ws, Bool.true_and]
  show SeqAt.shaped (.tuple (pyAll (ws.map tI))) = true
  rw [py_tIs]
  have := dep_tIs ws
  simp only [SeqAt.shaped, PyData.canLay0, PyData.depth, lay_tIs, Bool.true_and]
  exact decide_eq_true (by omega)
/-- a new instance, made up -/
theorem mkK_mk {C p : Addr} {Q : DV → DG → Prop} {ds : List DV} {g : DG} {o : DO} (hp : g p = none) (ne : ds ≠ []) (h : Q (.ins C ds) g) : mkK C p Q .non (gup (gup g p o) p (.ins C (ds.map some))) := by
  refine ⟨rfl, ds, gup_same, ne, ?_⟩
  rw [gup_gup, gdel_gup hp]
  exact h
end DL

/-! k07, plain: texts of products and lots. -/
namespace DL
open PySem L2
end DL

/-! k07, plain: the law's own sums, and lots put together. -/
namespace DL
open PySem L2
theorem isWi_at {lo hi i : Int} (h1 : lo ≤ i) (h2 : i ≤ hi) : isWi lo hi (.int i) = true := by
  show (decide (lo ≤ i) && decide (i ≤ hi)) = true
  rw [decide_eq_true h1, decide_eq_true h2]
  rfl
/-! ### the law's way to divide -/
/-! ### the law's least members -/
theorem eqD_nilL (ds : List DV) : eqD (.lst ds) (.lst []) = ds.isEmpty := by
  cases ds <;> simp [eqD, DV.py, PyData.eqv, pyAll, PyData.eqvAll]
theorem okD_lIs' (ws : List (List Int)) : okD (.lst (ws.map tI)) = true := okD_tIs ws
/-! ### lots put together -/
/-! ### what is in the lots -/
/-! ### lots of given products, reckoned -/
def ascB : List (List Int) → Bool
  | [] => true
  | [_] => true
  | x :: y :: r => decide (x < y) && ascB (y :: r)
theorem asc_of_ascB : ∀ {M : List (List Int)}, ascB M = true → M.Pairwise (· < ·)
  | [], _ => .nil
  | [_], _ => List.pairwise_singleton _ _
  | x :: y :: r, h => by
    unfold ascB at h
    rw [Bool.and_eq_true, decide_eq_true_eq] at h
    have ih := asc_of_ascB h.2
    refine List.pairwise_cons.mpr ⟨fun z hz => ?_, ih⟩
    rcases List.mem_cons.mp hz with e | hz
    · subst e; exact h.1
    · exact List.lt_trans h.1 ((List.pairwise_cons.mp ih).1 z hz)
def leastIs (L M : List (List Int)) : Bool := ascB M && ((M.all fun m => decide (m ∈ L) && minB L m) && L.all fun k => !minB L k || decide (k ∈ M))
theorem leastL_eq {L M : List (List Int)} (h : leastIs L M = true) : leastL L = M := by
  unfold leastIs at h
  rw [Bool.and_eq_true, Bool.and_eq_true, List.all_eq_true, List.all_eq_true] at h
  obtain ⟨h1, h2, h3⟩ := h
  refine (leastL_is L).uniq ⟨asc_of_ascB h1, fun m => ⟨fun hm => ?_, fun hm => ?_⟩⟩
  · have := h2 m hm
    rw [Bool.and_eq_true, decide_eq_true_eq, minB_iff] at this
    exact this
  · have := h3 m hm.1
    rw [minB_iff.mpr hm.2] at this
    simpa using this
abbrev cE : List (List Int) := [[1, 1, 0, 0], [0, 1, 1, 0], [0, 0, 1, 1]]
abbrev cR : List (List Int) := [[1, 0, 1, 0], [0, 1, 0, 1]]
theorem cE_is : leastL cE = [[0, 0, 1, 1], [0, 1, 1, 0], [1, 1, 0, 0]] := leastL_eq (by decide +kernel)
theorem cR_is : leastL cR = [[0, 1, 0, 1], [1, 0, 1, 0]] := leastL_eq (by decide +kernel)
theorem c1 : (leastL (leastL cE ++ leastL cR)).length = 5 := by
  rw [cE_is, cR_is, leastL_eq (M := [[0, 0, 1, 1], [0, 1, 0, 1], [0, 1, 1, 0], [1, 0, 1, 0], [1, 1, 0, 0]]) (by decide +kernel)]
  rfl
theorem c2 : (leastL (pairs ad (leastL cE) (leastL cE))).length = 6 := by
  rw [cE_is, leastL_eq (M := [[0, 0, 2, 2], [0, 1, 2, 1], [0, 2, 2, 0], [1, 1, 1, 1], [1, 2, 1, 0], [2, 2, 0, 0]]) (by decide +kernel)]
  rfl
end DL

/-! k06, plain: what may be compared, texts, lots told in several ways. -/
namespace DL
open PySem L2
/-! ### what may be compared -/
def okE (d : DV) : Prop := okD d = true ∧ d.py.depth ≤ 60
theorem okE_all : ∀ {ds : List DV}, (∀ d ∈ ds, okE d) → plAll ds = true ∧ PyData.canLayAll0 (pyAll ds) = true ∧ PyData.depthAll (pyAll ds) ≤ 60
  | [], _ => ⟨rfl, rfl, by show PyData.depthAll [] ≤ 60; simp [PyData.depthAll]⟩
  | d :: ds, h => by
    obtain ⟨h1, h2, h3⟩ := okE_all (ds := ds) fun e he => h e (List.mem_cons_of_mem _ he)
    obtain ⟨hd, hp⟩ := h d List.mem_cons_self
    unfold okD SeqAt.shaped at hd
    rw [Bool.and_eq_true, Bool.and_eq_true] at hd
    refine ⟨by rw [plAll, hd.1, h1]; rfl, by rw [pyAll, PyData.canLayAll0, hd.2.1, h2]; rfl, ?_⟩
    rw [pyAll, PyData.depthAll]
    omega
theorem okD_lstE {ds : List DV} (h : ∀ d ∈ ds, okE d) : okD (.lst ds) = true := by
  obtain ⟨h1, h2, h3⟩ := okE_all h
  unfold okD
  rw [show (DV.lst ds).pl = true from h1, Bool.true_and]
  show SeqAt.shaped (.list (pyAll ds)) = true
  simp only [SeqAt.shaped, PyData.canLay0, PyData.depth, h2, Bool.true_and]
  exact decide_eq_true (by omega)
/-! ### sorted ints -/
theorem sort_is (ns : List Int) : SortOk (ns.map DV.int) := by
  refine ⟨pl_ints ns, ?_, .inr ?_, fun d hd => ?_⟩
  · rw [List.map_map]
    exact W.AllAlike.of fun a b => rfl
  · intro d hd
    obtain ⟨d', h1, e⟩ := List.mem_map.mp hd
    obtain ⟨i, _, e2⟩ := List.mem_map.mp h1
    subst e e2
    exact ⟨fun z => PyData.noConfusion z, fun xs z => PyData.noConfusion z⟩
  · obtain ⟨i, _, e⟩ := List.mem_map.mp hd
    subst e
    show PyData.depth (.int i) ≤ 60
    simp [PyData.depth]
theorem sortI_map (ns : List Int) : (ns.map DV.int).mergeSort dleD = (ns.mergeSort fun a b => decide (a ≤ b)).map DV.int := by
  refine (List.map_mergeSort (r := fun a b => decide (a ≤ b)) (s := dleD) (f := DV.int) (l := ns) fun a _ b _ => ?_).symm
  exact (congrFun (congrFun (W.dataLe_int (fun i : Int => i)) a) b).symm
/-! ### ints and truth values -/
/-! ### texts -/
/-! ### lots by their members -/
/-! ### values that are no products -/
/-! ### the told lots -/
end DL

/-! k24, plain: tables of fractions by places; lowest terms. -/
namespace DL
open PySem L2
abbrev Tab := List (List Int × Int)
def kI (k : List Int) : List Key := k.map Sum.inl
theorem kI_inj : ∀ {a b : List Int}, kI a = kI b → a = b
  | [], [], _ => rfl
  | [], _ :: _, h => by cases h
  | _ :: _, [], h => by cases h
  | x :: a, y :: b, h => by
    obtain ⟨h1, h2⟩ := List.cons.inj (show Sum.inl x :: kI a = Sum.inl y :: kI b from h)
    cases h1
    rw [kI_inj h2]
def keysOf (L : Tab) : List (List Int) := L.map (·.1)
def valsOf (L : Tab) : List Int := L.map (·.2)
abbrev tabD (L : Tab) : DV := .dT ((keysOf L).map kI) ((valsOf L).map DV.int)
def lookT : Tab → List Int → Option Int
  | [], _ => none
  | e :: r, k => if e.1 = k then some e.2 else lookT r k
theorem lookT_cons (e : List Int × Int) (r : Tab) (k : List Int) : lookT (e :: r) k = if e.1 = k then some e.2 else lookT r k := rfl
def getT (L : Tab) (k : List Int) : Int := (lookT L k).getD 0
def putT (L : Tab) (k : List Int) (v : Int) : Tab := if k ∈ keysOf L then L.map (fun e => if e.1 = k then (e.1, v) else e) else L ++ [(k, v)]
theorem keyDT_kI (k : List Int) : keyDT (kI k) = tI k := keyD_ints k
theorem keyT_tI (k : List Int) : keyT (tI k) = some (kI k) := keyT_ints k
theorem valD_tab (k : List Int) : ∀ L : Tab, valD ((keysOf L).map kI) ((valsOf L).map DV.int) (kI k) = (lookT L k).map DV.int
  | [] => rfl
  | e :: r => by
    show valD (kI e.1 :: (keysOf r).map kI) (DV.int e.2 :: (valsOf r).map DV.int) (kI k) = ((if e.1 = k then some e.2 else lookT r k)).map DV.int
    unfold valD
    by_cases h : e.1 = k
    · rw [if_pos h, if_pos (by rw [h])]; rfl
    · rw [if_neg h, if_neg (fun z => h (kI_inj z)), valD_tab k r]
theorem mem_kI {k : List Int} {ks : List (List Int)} : kI k ∈ ks.map kI ↔ k ∈ ks := by
  constructor
  · intro h
    obtain ⟨j, hj, e⟩ := List.mem_map.mp h
    rw [← kI_inj e]; exact hj
  · intro h; exact List.mem_map.mpr ⟨k, h, rfl⟩
theorem setD_tab (k : List Int) (v : Int) : ∀ L : Tab, setD ((keysOf L).map kI) ((valsOf L).map DV.int) (kI k) (.int v) = (valsOf (L.map (fun e => if e.1 = k then (e.1, v) else e))).map DV.int
  | [] => rfl
  | e :: r => by
    show setD (kI e.1 :: (keysOf r).map kI) (DV.int e.2 :: (valsOf r).map DV.int) (kI k) (.int v) = DV.int (if e.1 = k then (e.1, v) else e).2 :: _
    unfold setD
    rw [setD_tab k v r]
    by_cases h : e.1 = k
    · rw [if_pos h, if_pos (by rw [h])]; rfl
    · rw [if_neg h, if_neg (fun z => h (kI_inj z))]; rfl
theorem keys_repl (k : List Int) (v : Int) (L : Tab) : keysOf (L.map (fun e => if e.1 = k then (e.1, v) else e)) = keysOf L := by
  unfold keysOf
  rw [List.map_map]
  refine List.map_congr_left fun e _ => ?_
  show (if e.1 = k then (e.1, v) else e).1 = e.1
  split <;> rfl
theorem put_tab (k : List Int) (v : Int) (L : Tab) : putKs ((keysOf L).map kI) (kI k) = (keysOf (putT L k v)).map kI ∧ putDs ((keysOf L).map kI) ((valsOf L).map DV.int) (kI k) (.int v) = (valsOf (putT L k v)).map DV.int := by
  unfold putKs putDs putT
  by_cases h : k ∈ keysOf L
  · rw [if_pos (mem_kI.mpr h), if_pos (mem_kI.mpr h), if_pos h, keys_repl, setD_tab]
    exact ⟨rfl, rfl⟩
  · rw [if_neg (fun z => h (mem_kI.mp z)), if_neg (fun z => h (mem_kI.mp z)), if_neg h]
    unfold keysOf valsOf
    rw [List.map_append, List.map_append, List.map_append, List.map_append]
    exact ⟨rfl, rfl⟩
theorem lookT_none {k : List Int} : ∀ {L : Tab}, lookT L k = none ↔ k ∉ keysOf L
  | [] => by simp [lookT, keysOf]
  | e :: r => by
    show (if e.1 = k then some e.2 else lookT r k) = none ↔ k ∉ e.1 :: keysOf r
    by_cases h : e.1 = k
    · rw [if_pos h]; simp [h]
    · rw [if_neg h, lookT_none, List.mem_cons, not_or]
      exact ⟨fun z => ⟨fun q => h q.symm, z⟩, fun z => z.2⟩
theorem lookT_repl (k j : List Int) (v : Int) : ∀ L : Tab, lookT (L.map (fun e => if e.1 = k then (e.1, v) else e)) j = if j = k then (lookT L j).map (fun _ => v) else lookT L j
  | [] => by show none = _; split <;> rfl
  | e :: r => by
    show (if (if e.1 = k then (e.1, v) else e).1 = j then some (if e.1 = k then (e.1, v) else e).2 else lookT (r.map _) j) = _
    rw [lookT_repl k j v r, lookT_cons]
    by_cases h : e.1 = k
    · rw [if_pos h]
      by_cases q : e.1 = j
      · rw [if_pos q, if_pos q, if_pos (q.symm.trans h)]; rfl
      · rw [if_neg q, if_neg q]
    · rw [if_neg h]
      by_cases q : e.1 = j
      · rw [if_pos q, if_pos q, if_neg (fun z => h (q.trans z))]
      · rw [if_neg q, if_neg q]
theorem lookT_app {k j : List Int} {v : Int} : ∀ {L : Tab}, k ∉ keysOf L → lookT (L ++ [(k, v)]) j = if j = k then some v else lookT L j
  | [], _ => by
    show (if k = j then some v else none) = _
    by_cases h : k = j
    · rw [if_pos h, if_pos h.symm]
    · rw [if_neg h, if_neg (fun z => h z.symm)]; rfl
  | e :: r, h => by
    have h1 : ¬ k = e.1 := fun z => h (by rw [z]; exact List.mem_cons_self)
    have h2 : k ∉ keysOf r := fun z => h (List.mem_cons_of_mem _ z)
    show (if e.1 = j then some e.2 else lookT (r ++ [(k, v)]) j) = _
    rw [lookT_app h2, lookT_cons]
    by_cases q : e.1 = j
    · rw [if_pos q, if_pos q, if_neg (fun z => h1 (z.symm.trans q.symm))]
    · rw [if_neg q, if_neg q]
theorem lookT_put (L : Tab) (k j : List Int) (v : Int) : lookT (putT L k v) j = if j = k then some v else lookT L j := by
  unfold putT
  by_cases h : k ∈ keysOf L
  · rw [if_pos h, lookT_repl]
    by_cases q : j = k
    · rw [if_pos q, if_pos q]
      cases e : lookT L j with
      | none => exact absurd (q ▸ h) (lookT_none.mp e)
      | some _ => rfl
    · rw [if_neg q, if_neg q]
  · rw [if_neg h]
    exact lookT_app h
theorem getT_put (L : Tab) (k j : List Int) (v : Int) : getT (putT L k v) j = if j = k then v else getT L j := by
  unfold getT
  rw [lookT_put]
  split <;> rfl
theorem keys_put (L : Tab) (k : List Int) (v : Int) : keysOf (putT L k v) = if k ∈ keysOf L then keysOf L else keysOf L ++ [k] := by
  unfold putT
  by_cases h : k ∈ keysOf L
  · rw [if_pos h, if_pos h, keys_repl]
  · rw [if_neg h, if_neg h]
    unfold keysOf
    rw [List.map_append]; rfl
theorem nodup_put {L : Tab} (nd : (keysOf L).Nodup) (k : List Int) (v : Int) : (keysOf (putT L k v)).Nodup := by
  rw [keys_put]
  split
  · exact nd
  · rename_i h
    refine List.nodup_append.mpr ⟨nd, List.pairwise_singleton _ _, fun a ha b hb => ?_⟩
    rw [List.mem_singleton.mp hb]
    exact fun z => h (z ▸ ha)
theorem mem_put {L : Tab} {k j : List Int} {v : Int} : j ∈ keysOf (putT L k v) ↔ j ∈ keysOf L ∨ j = k := by
  rw [keys_put]
  split
  · rename_i h
    exact ⟨.inl, fun z => z.elim id fun z => z ▸ h⟩
  · rw [List.mem_append, List.mem_singleton]
theorem len_tab (L : Tab) : (valsOf L).length = (keysOf L).length := by unfold valsOf keysOf; rw [List.length_map, List.length_map]
theorem getT_mem {L : Tab} (nd : (keysOf L).Nodup) {e : List Int × Int} (h : e ∈ L) : lookT L e.1 = some e.2 := by
  induction L with
  | nil => exact nomatch h
  | cons x r ih =>
    have nd' := List.nodup_cons.mp (show (x.1 :: keysOf r).Nodup from nd)
    rw [lookT_cons]
    rcases List.mem_cons.mp h with rfl | h
    · rw [if_pos rfl]
    · rw [if_neg (fun z => nd'.1 (by rw [z]; exact List.mem_map.mpr ⟨e, h, rfl⟩)), ih nd'.2 h]
theorem lookT_mem {k : List Int} {v : Int} : ∀ {L : Tab}, lookT L k = some v → (k, v) ∈ L
  | [], h => by cases h
  | e :: r, h => by
    rw [lookT_cons] at h
    by_cases q : e.1 = k
    · rw [if_pos q] at h; cases h; rw [← q]; exact List.mem_cons_self
    · rw [if_neg q] at h; exact List.mem_cons_of_mem _ (lookT_mem h)
/-! ### common divisors -/
/-! ### lowest terms -/
end DL

/-! k24, plain: the places of the law's tables, bounds, sums. -/
namespace DL
open PySem L2
/-! ### places -/
def SP : List (List Int) := [[0, 0], [0, 1], [0, 2], [0, 3], [0, 5], [0, 480], [1, 0], [1, 1], [1, 2], [1, 3], [1, 5], [1, 480], [2, 0], [2, 1], [2, 2], [2, 3], [2, 5], [2, 480], [3, 0], [3, 1], [3, 2], [3, 3], [3, 5], [3, 480], [8, 0], [8, 1], [8, 2], [8, 3], [8, 5], [8, 480]]
def hK (k : List Int) : Int := reduceHash (Builtin.Tuple.tupleHashOf (k.map hashInt))
theorem hash_kI (P : Program) (w : World) (k : List Int) : (tupleKind (mixKind P w)).hash (kI k) = hK k := by
  show reduceHash (Builtin.Tuple.tupleHashOf ((k.map Sum.inl).map (keyH w))) = _
  rw [List.map_map]
  rfl
theorem inj_of {α β : Type} {f : α → β} : ∀ {l : List α}, (l.map f).Nodup → ∀ x ∈ l, ∀ y ∈ l, f x = f y → x = y
  | [], _, x, hx, _, _, _ => nomatch hx
  | a :: l, h, x, hx, y, hy, e => by
    obtain ⟨h1, h2⟩ := List.nodup_cons.mp (show (f a :: l.map f).Nodup from h)
    rcases List.mem_cons.mp hx with ex | hx2
    · rcases List.mem_cons.mp hy with ey | hy2
      · rw [ex, ey]
      · exact absurd (List.mem_map.mpr ⟨y, hy2, by rw [← e, ex]⟩) h1
    · rcases List.mem_cons.mp hy with ey | hy2
      · exact absurd (List.mem_map.mpr ⟨x, hx2, by rw [e, ey]⟩) h1
      · exact inj_of h2 x hx2 y hy2 e
/-! ### tables within bounds -/
section
variable {X Y : Nat} {L M : Tab} {b c : Int}
/-! ### sums -/
theorem get_none {k : List Int} (h : k ∉ keysOf L) : getT L k = 0 := by unfold getT; rw [lookT_none.mpr h]; rfl
/-! ### readings of tables -/
abbrev tabO (L : Tab) : DO := .dT ((keysOf L).map kI) ((valsOf L).map DV.int)
variable {g : DG} {k : List Int} {Q : DV → DG → Prop} {P : DV → Prop} {p : Addr}
theorem look_get (h : k ∈ keysOf L) : lookT L k = some (getT L k) := by
  cases e : lookT L k with
  | none => exact absurd h (lookT_none.mp e)
  | some v => unfold getT; rw [e]; rfl
theorem atD_tab : atD g (tabD L) (tI k) = some ((lookT L k).map DV.int) := by rw [atD_T (keyT_tI k), valD_tab]
theorem atD_tabR (eg : g p = some (tabO L)) : atD g (.ref p) (tI k) = some ((lookT L k).map DV.int) := by rw [atD_R eg (keyT_tI k), valD_tab]
theorem rd_atK (hk : k ∈ keysOf L) (h : P (.int (getT L k))) : ∃ d, atD g (tabD L) (tI k) = some (some d) ∧ P d := ⟨_, by rw [atD_tab, look_get hk]; rfl, h⟩
theorem get_getD (L : Tab) (k : List Int) : ((lookT L k).map DV.int).getD (.int 0) = .int (getT L k) := by unfold getT; cases lookT L k <;> rfl
theorem rd_putT {R : DG → Prop} {v : Int} (eg : g p = some (tabO L)) (c : (keysOf L).length < 16777216) (h : R (gup g p (tabO (putT L k v)))) : dputT (.ref p) (tI k) (.int v) g R := by
  refine rd_dputTK eg (keyT_tI k) (by rw [List.length_map, len_tab]; exact c) ?_
  obtain ⟨e1, e2⟩ := put_tab k v L
  rw [e1, e2]
  exact h
end
end DL

/-! k24, plain: what the law draws and compares. -/
namespace DL
open PySem L2
theorem gup_swap {g : DG} {p q : Addr} {a b c : DO} (h : q ≠ p) : gup (gup (gup g p a) q b) p c = gup (gup g p c) q b := by
  funext x
  unfold gup
  by_cases h1 : x = p
  · subst h1
    rw [if_pos rfl, if_neg (Ne.symm h), if_pos rfl]
  · rw [if_neg h1]
    by_cases h2 : x = q
    · rw [if_pos h2, if_pos h2]
    · rw [if_neg h2, if_neg h2, if_neg h1, if_neg h1]
section
variable {X Y : Nat} {L M : Tab} {b c f t : Int}
end
end DL

/-! k38, plain: the pot of drawn numbers. -/
namespace DL
open PySem PySem.Spec PyProof.Rows L2
/-- the pot: what is left of the great number, the seed, how often it was asked -/
def PotF (n : Nat) (L : List DV) : Prop := ∃ u v k : Int, L = [.int u, .int v, .int k] ∧ 0 ≤ v ∧ v < 2305843009213693951 ∧ 0 ≤ k ∧ k ≤ n
theorem PotF.more {n m : Nat} {L : List DV} (h : PotF n L) (hm : n ≤ m) : PotF m L := by
  obtain ⟨u, v, k, e, h1, h2, h3, h4⟩ := h
  exact ⟨u, v, k, e, h1, h2, h3, by omega⟩
theorem cut_to {ds : List DV} {i : Nat} (h : i ≤ ds.length) : cutD ds none (some (i : Int)) = ds.take i := by
  unfold cutD
  rw [HT.sIx_none, HT.sIx_nat, Nat.min_eq_left h, List.drop_zero, Nat.sub_zero]
theorem cut_fr {ds : List DV} {i : Nat} (h : i ≤ ds.length) : cutD ds (some (i : Int)) none = ds.drop i := by
  unfold cutD
  rw [HT.sIx_none, HT.sIx_nat, Nat.min_eq_left h, List.take_of_length_le (by rw [List.length_drop]; omega)]
/-- every list that lacks one place of xs -/
def dropsL (xs : List Int) : List (List Int) := (List.range xs.length).map fun i => xs.take i ++ xs.drop (i + 1)
def dropF (xs : List Int) : DV → DV
  | .int i => tI (xs.take i.toNat ++ xs.drop (i.toNat + 1))
  | d => d
theorem drops_map (xs : List Int) : (rangeD 0 xs.length).map (dropF xs) = (dropsL xs).map tI := by
  unfold rangeD dropsL
  rw [List.map_map, List.map_map]
  refine List.map_congr_left fun i _ => ?_
  show dropF xs (.int (0 + (i : Int))) = tI (xs.take i ++ xs.drop (i + 1))
  rw [Int.zero_add]
  rfl
theorem dropsL_mem {xs ys : List Int} : ys ∈ dropsL xs ↔ ∃ i, i < xs.length ∧ ys = xs.take i ++ xs.drop (i + 1) := by
  unfold dropsL
  rw [List.mem_map]
  exact ⟨fun ⟨i, h, e⟩ => ⟨i, List.mem_range.mp h, e.symm⟩, fun ⟨i, h, e⟩ => ⟨i, List.mem_range.mpr h, e.symm⟩⟩
theorem dropsL_len {xs ys : List Int} (h : ys ∈ dropsL xs) : ys.length + 1 = xs.length := by
  obtain ⟨i, hi, e⟩ := dropsL_mem.mp h
  subst e
  rw [List.length_append, List.length_take, List.length_drop]
  omega
/-! ### dicts whose values are all the same -/
theorem setD_rep {κ : Type} [DecidableEq κ] (v : DV) (k : κ) : ∀ ks : List κ, setD ks (List.replicate ks.length v) k v = List.replicate ks.length v
  | [] => rfl
  | a :: ks => by
    rw [List.length_cons, List.replicate_succ, setD, setD_rep v k ks]
    split <;> rfl
theorem putDs_rep {κ : Type} [DecidableEq κ] (v : DV) (ks : List κ) (k : κ) : putDs ks (List.replicate ks.length v) k v = List.replicate (putKs ks k).length v := by
  unfold putDs putKs
  split
  · exact setD_rep v k ks
  · rw [List.length_append, List.length_singleton, List.replicate_succ']
theorem valD_rep {κ : Type} [DecidableEq κ] (v : DV) (k : κ) : ∀ ks : List κ, valD ks (List.replicate ks.length v) k = if k ∈ ks then some v else none
  | [] => rfl
  | a :: ks => by
    rw [List.length_cons, List.replicate_succ, valD, valD_rep v k ks]
    by_cases e : a = k
    · rw [if_pos e, if_pos (by rw [e]; exact List.mem_cons_self)]
    · rw [if_neg e]
      by_cases m : k ∈ ks
      · rw [if_pos m, if_pos (List.mem_cons_of_mem _ m)]
      · rw [if_neg m, if_neg (fun z => (List.mem_cons.mp z).elim (fun q => e q.symm) m)]
theorem putKs_le1 {κ : Type} [DecidableEq κ] (ks : List κ) (k : κ) : (putKs ks k).length ≤ ks.length + 1 := by
  unfold putKs
  split
  · omega
  · rw [List.length_append, List.length_singleton]; omega
theorem putKs_leN {κ : Type} [DecidableEq κ] : ∀ (L ks : List κ), (L.foldl putKs ks).length ≤ ks.length + L.length
  | [], ks => Nat.le_refl _
  | x :: L, ks => by
    have h1 := putKs_le1 ks x
    have h2 := putKs_leN L (putKs ks x)
    rw [List.foldl_cons, List.length_cons]; omega
section
variable {g : DG} {δ : DS}
/-- {k: v for d in ds}, v the same for all -/
theorem dc_rep {tg : Tg} {own : List Nat} {tk tv : TDE} {kf : DV → List Key} {v : DV} : ∀ {ds : List DV} {ks : List (List Key)} {R : List (List Key) → List DV → DG → Prop},
    (∀ d ∈ ds, ∃ δ2 y, bindT tg d (wipeD δ own) = some δ2 ∧ keyT y = some (kf d) ∧ (∀ Q2 : DV → DG → Prop, Q2 y g → tk δ2 g Q2) ∧ ∀ Q2 : DV → DG → Prop, Q2 v g → tv δ2 g Q2) →
    R ((ds.map kf).foldl putKs ks) (List.replicate ((ds.map kf).foldl putKs ks).length v) g → dDcC tg own dYes tk tv δ ds ks (List.replicate ks.length v) g R
  | [], ks, R, _, h => h
  | d :: ds, ks, R, hk, h => by
    obtain ⟨δ2, y, e, ek, q, qv⟩ := hk d List.mem_cons_self
    unfold dDcC
    rw [e]
    dsimp only [dYes]
    rw [if_pos rfl]
    refine q _ (qv _ ?_)
    rw [ek]
    dsimp only
    rw [putDs_rep]
    exact dc_rep (fun d hd => hk d (List.mem_cons_of_mem _ hd)) h
theorem dci_rep {tg : Tg} {own : List Nat} {tk tv : TDE} {kf : DV → List Key} {v : DV} : ∀ {ds : List DV} {ks : List (List Key)} {R : List (List Key) → List DV → DG → Prop},
    (∀ d ∈ ds, ∃ δ2 y, bindT tg d (wipeD δ own) = some δ2 ∧ keyT y = some (kf d) ∧ (∀ Q2 : DV → DG → Prop, Q2 y g → tk δ2 g Q2) ∧ ∀ Q2 : DV → DG → Prop, Q2 v g → tv δ2 g Q2) →
    ks.length + ds.length ≤ 16777216 → R ((ds.map kf).foldl putKs ks) (List.replicate ((ds.map kf).foldl putKs ks).length v) g → dDiI tg own dYes tk tv δ ds ks (List.replicate ks.length v) g R
  | [], ks, R, _, _, h => h
  | d :: ds, ks, R, hk, hc, h => by
    obtain ⟨δ2, y, e, ek, q, qv⟩ := hk d List.mem_cons_self
    rw [List.length_cons] at hc
    unfold dDiI
    rw [e]
    dsimp only [dYes]
    rw [if_pos rfl]
    refine q _ (qv _ ?_)
    rw [ek]
    dsimp only
    rw [putDs_rep]
    have := putKs_le1 ks (kf d)
    exact ⟨by rw [sizeLine_eq]; omega, dci_rep (fun d hd => hk d (List.mem_cons_of_mem _ hd)) (by omega) h⟩
/-- {k: v for d in ds for e in F d}, v the same for all -/
theorem dco_rep {tg : Tg} {own : List Nat} {wi1 : TDI} {tg1 : Tg} {vs1 : List Nat} {tk tv : TDE} {F : DV → List DV} {kf : DV → List Key} {v : DV} : ∀ {ds : List DV} {ks : List (List Key)} {R : List (List Key) → List DV → DG → Prop},
    (∀ d ∈ ds, ∃ δ2, bindT tg d (wipeD δ own) = some δ2 ∧ (∀ QA : List DV → DG → Prop, QA (F d) g → wi1 δ2 g QA) ∧
      ∀ e ∈ F d, ∃ δ3 y, bindT tg1 e (wipeD δ2 vs1) = some δ3 ∧ keyT y = some (kf e) ∧ (∀ Q2 : DV → DG → Prop, Q2 y g → tk δ3 g Q2) ∧ ∀ Q2 : DV → DG → Prop, Q2 v g → tv δ3 g Q2) →
    ks.length + (ds.flatMap F).length ≤ 16777216 → R (((ds.flatMap F).map kf).foldl putKs ks) (List.replicate (((ds.flatMap F).map kf).foldl putKs ks).length v) g →
    dDiO tg own dYes wi1 tg1 vs1 dYes tk tv δ ds ks (List.replicate ks.length v) g R
  | [], ks, R, _, _, h => h
  | d :: ds, ks, R, hs, hc, h => by
    obtain ⟨δ2, eb, hw, hk⟩ := hs d List.mem_cons_self
    rw [List.flatMap_cons, List.length_append] at hc
    unfold dDiO
    rw [eb]
    dsimp only [dYes]
    rw [if_pos rfl]
    refine hw _ (dci_rep hk (by omega) (dco_rep (fun d hd => hs d (List.mem_cons_of_mem _ hd)) ?_ ?_))
    · have := putKs_leN ((F d).map kf) ks
      rw [List.length_map] at this
      omega
    · rw [List.flatMap_cons, List.map_append, List.foldl_append] at h
      exact h
end
/-! ### greatest_of -/
def oneI : DV → Int
  | .int i => i
  | _ => 0
def oneT : DV → List Int
  | .tup ds => ds.map oneI
  | _ => []
theorem oneT_tI (xs : List Int) : oneT (tI xs) = xs := by
  show (xs.map DV.int).map oneI = xs
  rw [List.map_map]
  exact List.map_id _
def dropD (d : DV) : List DV := (dropsL (oneT d)).map tI
def keyF (d : DV) : List Key := kI (oneT d)
theorem dropD_tI (xs : List Int) : dropD (tI xs) = (dropsL xs).map tI := by unfold dropD; rw [oneT_tI]
theorem keyF_tI (xs : List Int) : keyF (tI xs) = kI xs := by unfold keyF; rw [oneT_tI]
theorem flat_drop (S : List (List Int)) : ((S.map tI).flatMap dropD) = (S.flatMap dropsL).map tI := by
  induction S with
  | nil => rfl
  | cons x S ih => rw [List.map_cons, List.flatMap_cons, List.flatMap_cons, ih, dropD_tI, List.map_append]
theorem fold_keyF (L : List (List Int)) : ((L.map tI).map keyF).foldl putKs [] = (L.foldl putKs []).map kI := by
  rw [List.map_map, show (keyF ∘ tI) = kI from funext keyF_tI]
  exact foldK_map L []
theorem mem_kIs {x : List Int} {L : List (List Int)} : kI x ∈ L.map kI ↔ x ∈ L := by
  rw [List.mem_map]
  exact ⟨fun ⟨y, hy, e⟩ => by rw [← keyI_inj (show y.map (Sum.inl : Int → Key) = x.map Sum.inl from e)]; exact hy, fun h => ⟨x, h, rfl⟩⟩
/-- a dict of these tuples, every value v -/
def oneD (L : List (List Int)) (v : DV) : DV := .dT (L.map kI) (List.replicate (L.map kI).length v)
theorem rd_inOne {g : DG} {x : List Int} {L : List (List Int)} {v : DV} {neg : Bool} {P : DV → Prop} (h : P (.bl (if neg then !decide (x ∈ L) else decide (x ∈ L)))) : rrDIn neg (tI x) (oneD L v) g P := by
  refine rd_dIn (r := if x ∈ L then some v else none) ?_ ?_
  · unfold oneD
    rw [atD_T (keyT_tI x), valD_rep]
    by_cases m : x ∈ L
    · rw [if_pos m, if_pos (mem_kIs.mpr m)]
    · rw [if_neg m, if_neg (fun z => m (mem_kIs.mp z))]
  · by_cases m : x ∈ L
    · rw [if_pos m]
      rw [decide_eq_true m] at h
      exact h
    · rw [if_neg m]
      rw [decide_eq_false m] at h
      exact h
/-- those of S that lack in no other's drops -/
def belowL (S : List (List Int)) : List (List Int) := (S.flatMap dropsL).foldl putKs []
def greatL (S : List (List Int)) : List (List Int) := (S.filter fun x => !decide (x ∈ belowL S)).mergeSort leL
theorem flat_len {S : List (List Int)} (h : ∀ x ∈ S, x.length ≤ 8) : (S.flatMap dropsL).length ≤ 8 * S.length := by
  induction S with
  | nil => exact Nat.le_refl _
  | cons x S ih =>
    have h1 := h x List.mem_cons_self
    have h2 := ih fun y hy => h y (List.mem_cons_of_mem _ hy)
    rw [List.flatMap_cons, List.length_append, List.length_cons]
    have : (dropsL x).length = x.length := by unfold dropsL; rw [List.length_map, List.length_range]
    omega
def greatP (S : List (List Int)) (d : DV) : Bool := !decide (oneT d ∈ belowL S)
theorem great_map (S : List (List Int)) : ((S.map tI).filter (greatP S)).map (fun d => d) = (S.filter fun x => !decide (x ∈ belowL S)).map tI := by
  rw [List.map_id'', List.filter_map]
  · congr 1
    refine List.filter_congr fun x _ => ?_
    show greatP S (tI x) = _
    unfold greatP
    rw [oneT_tI]
  · exact fun _ => rfl
/-- by length, then by content -/
def sizeL (S : List (List Int)) : List (List Int) := (S.mergeSort leL).mergeSort (leK fun ns => (ns.length : Int))
theorem sizeL_perm (S : List (List Int)) : (sizeL S).Perm S := (List.mergeSort_perm _ _).trans (List.mergeSort_perm _ _)
/-! ### one inside another -/
def insB (x y : List Int) : Bool := x.all fun i => decide (i ∈ y)
def notInF (y : List Int) : DV → Bool
  | .int i => !decide (i ∈ y)
  | _ => false
theorem any_int (y : List Int) (i : Int) : ((y.map DV.int).any fun d => eqD d (.int i)) = decide (i ∈ y) := by
  rw [List.any_map, Bool.eq_iff_iff, List.any_eq_true, decide_eq_true_iff]
  constructor
  · rintro ⟨j, hj, e⟩
    have e : eqD (.int j) (.int i) = true := e
    rw [eqD_int, decide_eq_true_iff] at e
    rw [← e]; exact hj
  · intro h
    exact ⟨i, h, by show eqD (.int i) (.int i) = true; rw [eqD_int]; exact decide_eq_true rfl⟩
theorem lacks_map (x y : List Int) : ((x.map DV.int).filter (notInF y)).map (fun d => d) = (x.filter fun i => !decide (i ∈ y)).map DV.int := by
  rw [List.map_id'' (fun _ => rfl), List.filter_map]
  rfl
theorem okD_lI' (ns : List Int) : okD (.lst (ns.map DV.int)) = true := okD_tI ns
theorem lacks_nil (x y : List Int) : ((x.filter fun i => !decide (i ∈ y)).map DV.int).isEmpty = insB x y := by
  rw [Bool.eq_iff_iff, List.isEmpty_iff, List.map_eq_nil_iff, List.filter_eq_nil_iff]
  unfold insB
  rw [List.all_eq_true]
  constructor
  · intro h i hi
    have := h i hi
    simpa using this
  · intro h i hi
    have := h i hi
    simpa using this
/-! ### every subset -/
def subsL : Nat → List (List Int)
  | 0 => [[]]
  | n + 1 => subsL n ++ (subsL n).map fun x => x ++ [(n : Int)]
theorem subsL_len : ∀ n, (subsL n).length = 2 ^ n
  | 0 => rfl
  | n + 1 => by rw [subsL, List.length_append, List.length_map, subsL_len n, Nat.pow_succ]; omega
def endF (n : Nat) (d : DV) : DV := tI (oneT d ++ [(n : Int)])
theorem subs_map (n : Nat) : ((subsL n).map tI).map (endF n) = ((subsL n).map fun x => x ++ [(n : Int)]).map tI := by
  rw [List.map_map, List.map_map]
  refine List.map_congr_left fun x _ => ?_
  show tI (oneT (tI x) ++ [(n : Int)]) = tI (x ++ [(n : Int)])
  rw [oneT_tI]
theorem subs_each : ∀ n, ∀ x ∈ subsL n, x.length ≤ n
  | 0, x, h => by
    rw [List.mem_singleton.mp h]; exact Nat.le_refl _
  | n + 1, x, h => by
    rcases List.mem_append.mp h with h | h
    · have := subs_each n x h; omega
    · obtain ⟨y, hy, e⟩ := List.mem_map.mp h
      have := subs_each n y hy
      rw [← e, List.length_append, List.length_singleton]; omega
/-! ### those that lie in no longer one -/
theorem subs_nil : ∀ n, ([] : List Int) ∈ subsL n
  | 0 => List.mem_singleton.mpr rfl
  | n + 1 => List.mem_append.mpr (.inl (subs_nil n))
end DL

/-! k38, plain: closing downward, families by all their sets. -/
namespace DL
open PySem PySem.Spec PyProof.Rows L2
/-! ### ascending lists below n -/
def AscB (n : Nat) (x : List Int) : Prop := x.Pairwise (· < ·) ∧ ∀ i ∈ x, 0 ≤ i ∧ i < n
theorem AscB.sub {n : Nat} {x y : List Int} (h : AscB n y) (s : x.Sublist y) : AscB n x := ⟨h.1.sublist s, fun i hi => h.2 i (s.subset hi)⟩
theorem subs_iff : ∀ {n : Nat} {x : List Int}, x ∈ subsL n ↔ AscB n x
  | 0, x => by
    constructor
    · intro h
      rw [List.mem_singleton.mp h]
      exact ⟨.nil, fun i hi => nomatch hi⟩
    · intro h
      cases x with
      | nil => exact List.mem_singleton.mpr rfl
      | cons a r => have := h.2 a List.mem_cons_self; omega
  | n + 1, x => by
    have ih := @subs_iff n
    constructor
    · intro h
      rcases List.mem_append.mp h with h | h
      · have := ih.mp h
        exact ⟨this.1, fun i hi => by have := this.2 i hi; omega⟩
      · obtain ⟨y, hy, e⟩ := List.mem_map.mp h
        have hy := ih.mp hy
        subst e
        refine ⟨List.pairwise_append.mpr ⟨hy.1, List.pairwise_singleton _ _, fun a ha b hb => ?_⟩, fun i hi => ?_⟩
        · rw [List.mem_singleton.mp hb]; exact (hy.2 a ha).2
        · rcases List.mem_append.mp hi with hi | hi
          · have := hy.2 i hi; omega
          · rw [List.mem_singleton.mp hi]; omega
    · intro h
      rcases List.eq_nil_or_concat x with e | ⟨y, a, e⟩
      · subst e; exact subs_nil _
      · rw [List.concat_eq_append] at e
        subst e
        obtain ⟨p1, _, p3⟩ := List.pairwise_append.mp h.1
        have ha := h.2 a (by simp)
        by_cases q : a = n
        · subst q
          refine List.mem_append.mpr (.inr (List.mem_map.mpr ⟨y, ih.mpr ⟨p1, fun i hi => ⟨(h.2 i (by simp [hi])).1, p3 i hi _ (by simp)⟩⟩, rfl⟩))
        · refine List.mem_append.mpr (.inl (ih.mpr ⟨h.1, fun i hi => ⟨(h.2 i hi).1, ?_⟩⟩))
          rcases List.mem_append.mp hi with hi | hi
          · have := p3 i hi a (by simp); omega
          · rw [List.mem_singleton.mp hi]; omega
theorem subs_nodup : ∀ n, (subsL n).Nodup
  | 0 => List.nodup_cons.mpr ⟨(fun h => nomatch h), List.nodup_nil⟩
  | n + 1 => by
    refine List.nodup_append.mpr ⟨subs_nodup n, ?_, fun a ha b hb e => ?_⟩
    · exact List.pairwise_map.mpr ((subs_nodup n).imp fun hne e => hne (List.append_cancel_right e))
    · obtain ⟨y, hy, e2⟩ := List.mem_map.mp hb
      have := (subs_iff.mp ha).2 (n : Int) (by rw [e, ← e2]; simp)
      omega
theorem insB_iff {x y : List Int} : insB x y = true ↔ ∀ i ∈ x, i ∈ y := by
  unfold insB
  rw [List.all_eq_true]
  exact ⟨fun h i hi => of_decide_eq_true (h i hi), fun h i hi => decide_eq_true (h i hi)⟩
/-- of two ascending lists: inside is a part -/
theorem sub_of_in : ∀ {y x : List Int}, x.Pairwise (· < ·) → y.Pairwise (· < ·) → (∀ i ∈ x, i ∈ y) → x.Sublist y
  | [], x, _, _, h => by
    cases x with
    | nil => exact .slnil
    | cons a r => exact absurd (h a List.mem_cons_self) (by simp)
  | b :: y, [], _, _, _ => List.nil_sublist _
  | b :: y, a :: x, hx, hy, h => by
    obtain ⟨x1, x2⟩ := List.pairwise_cons.mp hx
    obtain ⟨y1, y2⟩ := List.pairwise_cons.mp hy
    by_cases q : a = b
    · subst q
      refine .cons₂ _ (sub_of_in x2 y2 fun i hi => ?_)
      rcases List.mem_cons.mp (h i (List.mem_cons_of_mem _ hi)) with e | e
      · have := x1 i hi; omega
      · exact e
    · have ha : a ∈ y := (List.mem_cons.mp (h a List.mem_cons_self)).resolve_left q
      have hb := y1 a ha
      refine .cons _ (sub_of_in hx y2 fun i hi => ?_)
      rcases List.mem_cons.mp (h i hi) with e | e
      · rcases List.mem_cons.mp hi with e2 | e2
        · omega
        · have := x1 i e2; omega
      · exact e
theorem drops_here (a : Int) (x : List Int) : x ∈ dropsL (a :: x) := dropsL_mem.mpr ⟨0, by simp, rfl⟩
theorem drops_cons {a : Int} {x y : List Int} (h : y ∈ dropsL x) : (a :: y) ∈ dropsL (a :: x) := by
  obtain ⟨i, hi, e⟩ := dropsL_mem.mp h
  exact dropsL_mem.mpr ⟨i + 1, by rw [List.length_cons]; omega, by rw [e]; rfl⟩
theorem drops_sub {x y : List Int} (h : y ∈ dropsL x) : y.Sublist x := by
  obtain ⟨i, hi, e⟩ := dropsL_mem.mp h
  subst e
  have : x.take i ++ x.drop i = x := List.take_append_drop i x
  conv => rhs; rw [← this]
  refine List.Sublist.append (List.Sublist.refl _) ?_
  rw [← List.drop_drop]
  exact List.drop_sublist _ _
theorem drops_between {x s : List Int} (h : x.Sublist s) : x ≠ s → ∃ y ∈ dropsL s, x.Sublist y := by
  induction h with
  | slnil => exact fun h => absurd rfl h
  | @cons l1 l2 a h ih => exact fun _ => ⟨l2, drops_here a l2, h⟩
  | @cons_cons l1 l2 a h ih =>
    intro hne
    obtain ⟨y, hy, hs⟩ := ih (fun e => hne (by rw [e]))
    exact ⟨a :: y, drops_cons hy, .cons₂ _ hs⟩
/-! ### all sets of a family -/
def allB (S : List (List Int)) (x : List Int) : Bool := S.any (insB x)
def inL (n : Nat) (S : List (List Int)) : List (List Int) := (subsL n).filter (allB S)
def closL (n : Nat) (S : List (List Int)) : List (List Int) := (inL n S).mergeSort leL
def allL (n : Nat) (S : List (List Int)) : List (List Int) := sizeL (inL n S)
def InS (n : Nat) (S : List (List Int)) : Prop := ∀ x ∈ S, x ∈ subsL n
theorem inL_mem {n : Nat} {S : List (List Int)} {x : List Int} : x ∈ inL n S ↔ x ∈ subsL n ∧ ∃ s ∈ S, insB x s = true := by
  unfold inL allB
  rw [List.mem_filter, List.any_eq_true]
theorem inL_part {n : Nat} {S : List (List Int)} (hS : InS n S) {x : List Int} : x ∈ inL n S ↔ ∃ s ∈ S, x.Sublist s := by
  rw [inL_mem]
  constructor
  · rintro ⟨h, s, hs, hi⟩
    exact ⟨s, hs, sub_of_in (subs_iff.mp h).1 (subs_iff.mp (hS s hs)).1 (insB_iff.mp hi)⟩
  · rintro ⟨s, hs, h⟩
    exact ⟨subs_iff.mpr ((subs_iff.mp (hS s hs)).sub h), s, hs, insB_iff.mpr fun i hi => h.subset hi⟩
theorem inL_sub {n : Nat} {S : List (List Int)} {x : List Int} (h : x ∈ inL n S) : x ∈ subsL n := (inL_mem.mp h).1
theorem inL_nodup (n : Nat) (S : List (List Int)) : (inL n S).Nodup := (subs_nodup n).filter _
theorem inL_down {n : Nat} {S : List (List Int)} (hS : InS n S) {x y : List Int} (h : y ∈ inL n S) (s : x.Sublist y) : x ∈ inL n S := by
  obtain ⟨z, hz, hs⟩ := (inL_part hS).mp h
  exact (inL_part hS).mpr ⟨z, hz, s.trans hs⟩
theorem inL_len {n : Nat} (hn : n ≤ 8) (S : List (List Int)) : (inL n S).length ≤ 256 := by
  have h1 := List.length_filter_le (allB S) (subsL n)
  rw [subsL_len] at h1
  have : 2 ^ n ≤ 2 ^ 8 := Nat.pow_le_pow_right (by decide) hn
  unfold inL
  omega
/-- a list without twins that is closed and within is all of it -/
theorem clos_of {n : Nat} {S L : List (List Int)} (hS : InS n S) (nd : L.Nodup) (h1 : ∀ x ∈ S, x ∈ L) (h2 : ∀ x ∈ L, x ∈ inL n S) (h3 : ∀ x ∈ L, ∀ y ∈ dropsL x, y ∈ L) : L.mergeSort leL = closL n S := by
  have down : ∀ (k : Nat) (s x : List Int), s.length ≤ k → s ∈ L → x.Sublist s → x ∈ L := by
    intro k
    induction k with
    | zero =>
      intro s x hk hs hx
      have : s = [] := List.length_eq_zero_iff.mp (by omega)
      subst this
      rw [List.sublist_nil.mp hx]; exact hs
    | succ k ih =>
      intro s x hk hs hx
      by_cases q : x = s
      · rw [q]; exact hs
      · obtain ⟨y, hy, hxy⟩ := drops_between hx q
        exact ih y x (by have := dropsL_len hy; omega) (h3 s hs y hy) hxy
  refine asc_unique (asc_of_sort nd) (asc_of_sort (inL_nodup n S)) fun x => ?_
  have e1 : x ∈ L.mergeSort leL ↔ x ∈ L := (List.mergeSort_perm L leL).mem_iff
  have e2 : x ∈ closL n S ↔ x ∈ inL n S := (List.mergeSort_perm _ leL).mem_iff
  show x ∈ L.mergeSort leL ↔ x ∈ closL n S
  rw [e1, e2]
  constructor
  · exact h2 x
  · intro h
    obtain ⟨s, hs, hx⟩ := (inL_part hS).mp h
    exact down s.length s x (Nat.le_refl _) (h1 s hs) hx
/-! ### the loop of closing -/
/-- between two turns: found, waiting -/
structure ClW (n : Nat) (S L W : List (List Int)) (k : Nat) : Prop where
  nd : L.Nodup
  s : ∀ x ∈ S, x ∈ L
  i : ∀ x ∈ L, x ∈ inL n S
  w : ∀ x ∈ W, x ∈ L
  wn : W.Nodup
  d : ∀ x ∈ L, x ∉ W → ∀ y ∈ dropsL x, y ∈ L
  m : k = 2 ^ n - L.length + W.length + 1
theorem sub_len {n : Nat} {S L : List (List Int)} (nd : L.Nodup) (h : ∀ x ∈ L, x ∈ inL n S) : L.length ≤ 2 ^ n := by
  rw [← subsL_len n]
  exact nodup_len nd fun x hx => inL_sub (h x hx)
/-- inside a turn: x was taken off, t of what lacks one was looked at -/
structure ClI (n : Nat) (S L W : List (List Int)) (k : Nat) (x : List Int) (t : Nat) : Prop where
  nd : L.Nodup
  s : ∀ x ∈ S, x ∈ L
  i : ∀ x ∈ L, x ∈ inL n S
  w : ∀ x ∈ W, x ∈ L
  wn : W.Nodup
  d : ∀ z ∈ L, z ∉ W → z ≠ x → ∀ y ∈ dropsL z, y ∈ L
  xm : x ∈ L
  tt : ∀ j y, j < t → (dropsL x)[j]? = some y → y ∈ L
  m : k = 2 ^ n - L.length + W.length + 1
theorem ClW.pop {n : Nat} {S L W : List (List Int)} {k : Nat} {x : List Int} (h : ClW n S L (W ++ [x]) (k + 1)) : ClI n S L W k x 0 :=
  ⟨h.nd, h.s, h.i, fun z hz => h.w z (by simp [hz]), (List.nodup_append.mp h.wn).1, fun z hz hw hx => h.d z hz (by simp [hw, hx]), h.w x (by simp), fun j y hj => by omega, by
    have := h.m
    rw [List.length_append, List.length_singleton] at this
    omega⟩
theorem ClI.skip {n : Nat} {S L W : List (List Int)} {k t : Nat} {x y : List Int} (h : ClI n S L W k x t) (hy : (dropsL x)[t]? = some y) (hm : y ∈ L) : ClI n S L W k x (t + 1) :=
  have q : ∀ j z, j < t + 1 → (dropsL x)[j]? = some z → z ∈ L := fun j z hj e => by
    by_cases q : j = t
    · subst q; rw [hy] at e; cases e; exact hm
    · exact h.tt j z (by omega) e
  { h with tt := q }
theorem ClI.put {n : Nat} {S L W : List (List Int)} {k t : Nat} {x y : List Int} (hS : InS n S) (h : ClI n S L W k x t) (hy : (dropsL x)[t]? = some y) (hm : y ∉ L) : ClI n S (L ++ [y]) (W ++ [y]) k x (t + 1) := by
  have iy : y ∈ inL n S := inL_down hS (h.i x h.xm) (drops_sub (List.mem_of_getElem? hy))
  have nd : (L ++ [y]).Nodup := List.nodup_append.mpr ⟨h.nd, by simp, fun a ha b hb e => hm (by rw [← List.mem_singleton.mp hb, ← e]; exact ha)⟩
  have ii : ∀ x ∈ L ++ [y], x ∈ inL n S := fun z hz => (List.mem_append.mp hz).elim (h.i z) fun e => by rw [List.mem_singleton.mp e]; exact iy
  refine ⟨nd, fun z hz => by simp [h.s z hz], ii, fun z hz => ?_, List.nodup_append.mpr ⟨h.wn, by simp, fun a ha b hb e => hm (by rw [← List.mem_singleton.mp hb, ← e]; exact h.w a ha)⟩, fun z hz hw hx u hu => ?_, by simp [h.xm], fun j z hj e => ?_, ?_⟩
  · rcases List.mem_append.mp hz with hz | hz
    · simp [h.w z hz]
    · exact List.mem_append.mpr (.inr hz)
  · rcases List.mem_append.mp hz with hz | hz
    · exact List.mem_append.mpr (.inl (h.d z hz (fun q => hw (by simp [q])) hx u hu))
    · exact absurd (List.mem_append.mpr (.inr hz)) hw
  · by_cases q : j = t
    · subst q; rw [hy] at e; cases e; simp
    · exact List.mem_append.mpr (.inl (h.tt j z (by omega) e))
  · have l1 := sub_len nd ii
    have := h.m
    rw [List.length_append, List.length_singleton] at l1
    rw [List.length_append, List.length_append, List.length_singleton]
    omega
theorem ClI.done {n : Nat} {S L W : List (List Int)} {k : Nat} {x : List Int} (h : ClI n S L W k x (dropsL x).length) : ClW n S L W k :=
  ⟨h.nd, h.s, h.i, h.w, h.wn, fun z hz hw y hy => by
    by_cases q : z = x
    · subst q
      obtain ⟨j, hj, e⟩ := List.mem_iff_getElem.mp hy
      exact h.tt j y hj (List.getElem?_eq_some_iff.mpr ⟨hj, e⟩)
    · exact h.d z hz hw q y hy, h.m⟩
theorem ClW.fin {n : Nat} {S L : List (List Int)} {k : Nat} (hS : InS n S) (h : ClW n S L [] k) : L.mergeSort leL = closL n S :=
  clos_of hS h.nd h.s h.i fun x hx => h.d x hx (by simp)
theorem ClW.start {n : Nat} {S : List (List Int)} (hS : InS n S) : ClW n S (S.foldl putKs []) (S.foldl putKs []) (2 ^ n - (S.foldl putKs []).length + (S.foldl putKs []).length + 1) := by
  obtain ⟨nd, hm, _⟩ := foldK S [] List.nodup_nil
  have mm : ∀ x, x ∈ S.foldl putKs [] ↔ x ∈ S := fun x => (hm x).trans (by simp)
  exact ⟨nd, fun x hx => (mm x).mpr hx, fun x hx => (inL_part hS).mpr ⟨x, (mm x).mp hx, .refl _⟩, fun x hx => hx, nd, fun x hx hn => absurd hx hn, rfl⟩
theorem ClI.len {n : Nat} {S L W : List (List Int)} {k : Nat} {x : List Int} {t : Nat} (h : ClI n S L W k x t) : W.length ≤ 2 ^ n := Nat.le_trans (nodup_len h.wn h.w) (sub_len h.nd h.i)
/-! ### by size -/
theorem leL_total (a b : List Int) : (leL a b || leL b a) = true := by
  unfold leL
  rw [Bool.or_eq_true, decide_eq_true_iff, decide_eq_true_iff]
  exact List.le_total a b
theorem leL_trans (a b c : List Int) (h : leL a b = true) (h' : leL b c = true) : leL a c = true :=
  decide_eq_true (List.le_trans (of_decide_eq_true h) (of_decide_eq_true h'))
theorem leL_anti {a b : List Int} (h : leL a b = true) (h' : leL b a = true) : a = b :=
  List.le_antisymm (of_decide_eq_true h) (of_decide_eq_true h')
/-- length first, then content -/
def leS (a b : List Int) : Bool := decide (a.length < b.length) || (decide (a.length = b.length) && leL a b)
theorem leS_anti {a b : List Int} (h : leS a b = true) (h' : leS b a = true) : a = b := by
  unfold leS at h h'
  simp only [Bool.or_eq_true, Bool.and_eq_true, decide_eq_true_eq] at h h'
  rcases h with h | ⟨h1, h2⟩ <;> rcases h' with h' | ⟨h3, h4⟩ <;> first | omega | exact leL_anti h2 h4
theorem leS_trans (a b c : List Int) (h : leS a b = true) (h' : leS b c = true) : leS a c = true := by
  unfold leS at h h' ⊢
  simp only [Bool.or_eq_true, Bool.and_eq_true, decide_eq_true_eq] at h h' ⊢
  rcases h with h | ⟨h1, h2⟩ <;> rcases h' with h' | ⟨h3, h4⟩ <;> first | exact .inl (by omega) | exact .inr ⟨by omega, leL_trans _ _ _ h2 h4⟩
theorem leS_total (a b : List Int) : (leS a b || leS b a) = true := by
  unfold leS
  have := leL_total a b
  simp only [Bool.or_eq_true, Bool.and_eq_true, decide_eq_true_eq] at this ⊢
  rcases Nat.lt_trichotomy a.length b.length with h | h | h
  · exact .inl (.inl h)
  · exact this.elim (fun q => .inl (.inr ⟨h, q⟩)) (fun q => .inr (.inr ⟨h.symm, q⟩))
  · exact .inr (.inl h)
theorem leK_tr (f : List Int → Int) (a b c : List Int) (h : leK f a b = true) (h' : leK f b c = true) : leK f a c = true := by
  unfold leK at h h' ⊢
  rw [decide_eq_true_iff] at h h' ⊢
  omega
theorem leK_to (f : List Int → Int) (a b : List Int) : (leK f a b || leK f b a) = true := by
  unfold leK
  rw [Bool.or_eq_true, decide_eq_true_iff, decide_eq_true_iff]
  omega
theorem size_fil (S : List (List Int)) (k : Nat) : (sizeL S).filter (fun x => decide (x.length = k)) = (S.mergeSort leL).filter (fun x => decide (x.length = k)) := by
  have p : ((S.mergeSort leL).filter (fun x => decide (x.length = k))).Pairwise fun a b => leK (fun ns : List Int => (ns.length : Int)) a b = true := by
    rw [List.pairwise_iff_forall_sublist]
    intro a b hab
    have ha := hab.subset List.mem_cons_self
    have hb := hab.subset (List.mem_cons_of_mem _ List.mem_cons_self)
    have h1 := of_decide_eq_true (List.mem_filter.mp ha).2
    have h2 := of_decide_eq_true (List.mem_filter.mp hb).2
    exact decide_eq_true (show (a.length : Int) ≤ (b.length : Int) by omega)
  have q := List.sublist_mergeSort (leK_tr _) (leK_to _) p List.filter_sublist
  have q2 := q.filter (fun x => decide (x.length = k))
  rw [List.filter_filter] at q2
  simp only [Bool.and_self] at q2
  refine (q2.eq_of_length ?_).symm
  exact (((List.mergeSort_perm (S.mergeSort leL) (leK fun ns => (ns.length : Int))).filter _).length_eq).symm
theorem sizeL_sorted (S : List (List Int)) : (sizeL S).Pairwise fun a b => leS a b = true := by
  have h1 : (S.mergeSort leL).Pairwise fun a b => leL a b = true := List.pairwise_mergeSort leL_trans leL_total S
  have h2 : (sizeL S).Pairwise fun a b => leK (fun ns : List Int => (ns.length : Int)) a b = true := List.pairwise_mergeSort (leK_tr _) (leK_to _) _
  rw [List.pairwise_iff_forall_sublist] at h2 ⊢
  intro a b hab
  have z : (a.length : Int) ≤ (b.length : Int) := of_decide_eq_true (h2 hab)
  unfold leS
  simp only [Bool.or_eq_true, Bool.and_eq_true, decide_eq_true_eq]
  by_cases q : a.length = b.length
  · refine .inr ⟨q, ?_⟩
    have f := hab.filter (fun x => decide (x.length = b.length))
    rw [size_fil] at f
    rw [show ([a, b].filter fun x => decide (x.length = b.length)) = [a, b] by simp [q]] at f
    exact (List.pairwise_iff_forall_sublist.mp h1) (f.trans List.filter_sublist)
  · exact .inl (by omega)
theorem perm_uniq {α : Type} {r : α → α → Prop} (anti : ∀ a b, r a b → r b a → a = b) : ∀ {M N : List α}, M.Perm N → M.Pairwise r → N.Pairwise r → M = N
  | [], N, h, _, _ => (List.nil_perm.mp h).symm
  | a :: M, [], h, _, _ => absurd (List.perm_nil.mp h) (by simp)
  | a :: M, b :: N, h, hm, hn => by
    obtain ⟨m1, m2⟩ := List.pairwise_cons.mp hm
    obtain ⟨n1, n2⟩ := List.pairwise_cons.mp hn
    have e : a = b := by
      rcases List.mem_cons.mp (h.mem_iff.mp List.mem_cons_self) with e | e
      · exact e
      · rcases List.mem_cons.mp (h.mem_iff.mpr List.mem_cons_self) with e2 | e2
        · exact e2.symm
        · exact anti a b (m1 b e2) (n1 a e)
    subst e
    rw [perm_uniq anti (List.Perm.cons_inv h) m2 n2]
theorem size_uniq {M N : List (List Int)} (p : M.Perm N) (hm : M.Pairwise fun a b => leS a b = true) (hn : N.Pairwise fun a b => leS a b = true) : M = N := perm_uniq (fun a b => leS_anti) p hm hn
theorem size_perm {S T : List (List Int)} (p : S.Perm T) : sizeL S = sizeL T := size_uniq ((sizeL_perm S).trans (p.trans (sizeL_perm T).symm)) (sizeL_sorted S) (sizeL_sorted T)
theorem size_clos (n : Nat) (S : List (List Int)) : sizeL (closL n S) = allL n S := size_perm (List.mergeSort_perm _ _)
/-! ### pairs of a length and a list -/
def prD2 (x : List Int) : DV := .tup [.int (x.length : Int), tI x]
theorem dle_ints (a b : List Int) : (!W.dataLt (.tuple (b.map PyData.int)) (.tuple (a.map PyData.int))) = leL a b := by
  have := dle_tuI a b
  unfold dleD at this
  rw [tuI_tI, tuI_tI, py_tI, py_tI] at this
  exact this
theorem prD2_py (x : List Int) : (prD2 x).py = .tuple [.int (x.length : Int), .tuple (x.map PyData.int)] := by
  show PyData.tuple (pyAll [.int (x.length : Int), tI x]) = _
  rw [pyAll, pyAll, pyAll, py_tI]
  rfl
theorem alike_i (i j : Int) : W.alike (.int i) (.int j) = true := by simp only [W.alike]
theorem alike_t (a b : List Int) : W.alike (.tuple (a.map PyData.int)) (.tuple (b.map PyData.int)) = true := by
  simp only [W.alike]; exact alike_is a b
theorem dle_pr (a b : List Int) : dleD (prD2 a) (prD2 b) = leS a b := by
  unfold dleD
  rw [prD2_py, prD2_py, W.dataLt_tuple]
  unfold leS
  by_cases q : a.length = b.length
  · rw [W.dataLt_all_yes (alike_i _ _) (by rw [q]; simp [PyData.eqv]), decide_eq_true q, decide_eq_false (show ¬ a.length < b.length by omega), Bool.false_or, Bool.true_and]
    by_cases e : a = b
    · subst e
      rw [W.dataLt_all_yes (alike_t _ _) (by show PyData.eqvAll _ _ = true; rw [eqv_is]; exact decide_eq_true rfl)]
      have := leL_total a a
      rw [Bool.or_self] at this
      rw [this]
      decide
    · rw [W.dataLt_all_no (alike_t _ _) (by show PyData.eqvAll _ _ = false; rw [eqv_is]; exact decide_eq_false fun z => e z.symm)]
      exact dle_ints a b
  · rw [W.dataLt_all_no (alike_i _ _) (by simp [PyData.eqv]; omega), W.dataLt_int, decide_eq_false q, Bool.false_and, Bool.or_false]
    rw [Bool.eq_iff_iff, Bool.not_eq_true', decide_eq_false_iff_not, decide_eq_true_iff]
    omega
theorem sort_prs (L : List (List Int)) : SortOk (L.map prD2) := by
  refine ⟨?_, ?_, ?_, ?_⟩
  · induction L with
    | nil => rfl
    | cons x L ih =>
      rw [List.map_cons, plAll, ih, Bool.and_true]
      show plAll [.int (x.length : Int), tI x] = true
      rw [plAll, plAll, plAll, pl_tI]
      rfl
  · intro d hd e he
    obtain ⟨a, ha, rfl⟩ := List.mem_map.mp hd
    obtain ⟨b, hb, rfl⟩ := List.mem_map.mp he
    obtain ⟨x, _, rfl⟩ := List.mem_map.mp ha
    obtain ⟨y, _, rfl⟩ := List.mem_map.mp hb
    rw [prD2_py, prD2_py]
    simp only [W.alike, W.alikeAll]
    rw [alike_is]
    rfl
  · refine .inl fun d hd => ?_
    obtain ⟨a, ha, rfl⟩ := List.mem_map.mp hd
    obtain ⟨x, _, rfl⟩ := List.mem_map.mp ha
    rw [prD2_py]
    exact ⟨_, _, rfl⟩
  · intro d hd
    obtain ⟨x, _, rfl⟩ := List.mem_map.mp hd
    rw [prD2_py]
    simp only [PyData.depth, PyData.depthAll]
    rw [dep_is]
    omega
theorem map_sort {α β : Type} (f : α → β) {r : β → β → Bool} {r' : α → α → Bool} (h : ∀ a b, r (f a) (f b) = r' a b) (L : List α) : (L.map f).mergeSort r = (L.mergeSort r').map f := by
  rw [List.map_mergeSort]
  intro a _ b _
  rw [h]
theorem sort_pr (L : List (List Int)) : (L.map prD2).mergeSort dleD = (sizeL L).map prD2 := by
  rw [map_sort prD2 dle_pr]
  congr 1
  exact size_uniq ((List.mergeSort_perm _ _).trans (sizeL_perm L).symm) (List.pairwise_mergeSort leS_trans leS_total L) (sizeL_sorted L)
/-! ### greatest ones -/
theorem allL_mem {n : Nat} {S : List (List Int)} {x : List Int} : x ∈ allL n S ↔ x ∈ inL n S := (sizeL_perm _).mem_iff
end DL

/-! k38, plain: texts of families, families as instances, the law's side. -/
namespace DL
open PySem PySem.Spec PyProof.Rows L2
/-! ### texts -/
/-- sets of corners -/
def Crn (M : List (List Int)) : Prop := M.length ≤ 300 ∧ ∀ x ∈ M, x.length ≤ 8 ∧ ∀ i ∈ x, 0 ≤ i ∧ i ≤ 8
/-! ### sets -/
def isSt (n : Nat) (ds : List DV) : Bool := ds.all (isWi 0 ((n : Int) - 1)) && ascD ds
theorem isSt_of {n : Nat} {x : List Int} (h : x ∈ subsL n) : isSt n (x.map DV.int) = true := by
  obtain ⟨h1, h2⟩ := subs_iff.mp h
  unfold isSt
  rw [Bool.and_eq_true]
  constructor
  · rw [List.all_eq_true]
    intro d hd
    obtain ⟨i, hi, e⟩ := List.mem_map.mp hd
    subst e
    have := h2 i hi
    unfold isWi
    rw [Bool.and_eq_true, decide_eq_true_iff, decide_eq_true_iff]
    omega
  · unfold ascD
    rw [← List.map_drop, zipD_ints_all (r := fun i j => decide (i < j)) (fun _ _ => rfl)]
    exact asc_all h1
theorem fold_self {α : Type} [DecidableEq α] : ∀ (A B : List α), (B ++ A).Nodup → A.foldl putKs B = B ++ A
  | [], B, _ => (List.append_nil B).symm
  | a :: A, B, h => by
    have hn : a ∉ B := fun q => (List.nodup_append.mp h).2.2 a q a List.mem_cons_self rfl
    rw [List.foldl_cons, show putKs B a = B ++ [a] by unfold putKs; rw [if_neg hn], fold_self A (B ++ [a]) (by rw [List.append_assoc]; exact h), List.append_assoc]
    rfl
theorem allL_nodup (n : Nat) (S : List (List Int)) : (allL n S).Nodup := (sizeL_perm _).nodup_iff.mpr (inL_nodup n S)
theorem allL_fold (n : Nat) (S : List (List Int)) : (allL n S).foldl putKs [] = allL n S := fold_self _ [] (by rw [List.nil_append]; exact allL_nodup n S)
theorem allL_len {n : Nat} (hn : n ≤ 8) (S : List (List Int)) : (allL n S).length ≤ 256 := by rw [show (allL n S).length = (inL n S).length from (sizeL_perm _).length_eq]; exact inL_len hn S
theorem allL_sub {n : Nat} {S : List (List Int)} {x : List Int} (h : x ∈ allL n S) : x ∈ subsL n := inL_sub (allL_mem.mp h)
theorem sub_crn {n : Nat} (hn : n ≤ 8) {x : List Int} (h : x ∈ subsL n) : x.length ≤ 8 ∧ ∀ i ∈ x, 0 ≤ i ∧ i ≤ 8 :=
  ⟨by have := subs_each n x h; omega, fun i hi => by have := (subs_iff.mp h).2 i hi; omega⟩
/-- a family: its corners, the dict of all its sets, its greatest members, all its sets -/
abbrev famD (c : Addr) (n : Nat) (A : List (List Int)) : DV := .ins c [.int (n : Int), oneD A (.bl true), .tup ((greatL A).map tI), .lst (A.map tI)]
/-! ### dicts with one value that change -/
def oneO (L : List (List Int)) (v : DV) : DO := .dT (L.map kI) (List.replicate (L.map kI).length v)
theorem keyDT_all (L : List (List Int)) : (L.map kI).map keyDT = L.map tI := by
  rw [List.map_map]
  exact List.map_congr_left fun x _ => keyD_ints x
theorem rd_inOneR {g : DG} {p : Addr} {x : List Int} {L : List (List Int)} {v : DV} {neg : Bool} {P : DV → Prop} (eg : g p = some (oneO L v)) (h : P (.bl (if neg then !decide (x ∈ L) else decide (x ∈ L)))) : rrDIn neg (tI x) (.ref p) g P := by
  refine rd_dIn (r := if x ∈ L then some v else none) ?_ ?_
  · rw [atD_R eg (keyT_tI x), valD_rep]
    by_cases m : x ∈ L
    · rw [if_pos m, if_pos (mem_kIs.mpr m)]
    · rw [if_neg m, if_neg (fun z => m (mem_kIs.mp z))]
  · by_cases m : x ∈ L
    · rw [if_pos m]
      rw [decide_eq_true m] at h
      exact h
    · rw [if_neg m]
      rw [decide_eq_false m] at h
      exact h
theorem rd_putOne {g : DG} {p : Addr} {x : List Int} {L : List (List Int)} {v : DV} {R : DG → Prop} (eg : g p = some (oneO L v)) (hm : x ∉ L) (c : L.length < 16777216) (h : R (gup g p (oneO (L ++ [x]) v))) : dputT (.ref p) (tI x) v g R := by
  refine rd_dputTK eg (keyT_tI x) (by rw [List.length_replicate, List.length_map]; exact c) ?_
  rw [putDs_rep, show putKs (L.map kI) (kI x) = (L ++ [x]).map kI by
    unfold putKs
    rw [if_neg fun z => hm (mem_kIs.mp z), List.map_append]; rfl]
  exact h
theorem itT_one {g : DG} {p : Addr} {L : List (List Int)} {v : DV} (eg : g p = some (oneO L v)) : ItT g (.ref p) L := .inr (.inr ⟨p, _, rfl, eg⟩)
theorem dctT_up {g : DG} {p : Addr} {L : List (List Int)} {v : DV} : dctT (gup g p (.dT (L.map kI) (List.replicate (L.map kI).length v))) (.ref p) = some (L.map kI, List.replicate (L.map kI).length v) := by
  unfold dctT
  dsimp only
  rw [gup_same]
/-! ### numbers of a family -/
def sgI (x : List Int) : Int := if (x.length : Int) % 2 = 1 then 1 else -1
def eulL (A : List (List Int)) : Int := (A.map sgI).sum
def sgF (d : DV) : DV := .int (sgI (oneT d))
theorem sgF_tI (x : List Int) : sgF (tI x) = .int (sgI x) := by unfold sgF; rw [oneT_tI]
theorem sg_map (M : List (List Int)) : (M.map tI).map sgF = (M.map sgI).map DV.int := by
  rw [List.map_map, List.map_map]
  exact List.map_congr_left fun x _ => sgF_tI x
/-! ### the law's list of all sets -/
def allF (S : List (List Int)) (d : DV) : Bool := allB S (oneT d)
theorem allF_tI (S : List (List Int)) (x : List Int) : allF S (tI x) = allB S x := by unfold allF; rw [oneT_tI]
theorem fil_id {p : DV → Bool} {q : List Int → Bool} (h : ∀ x, p (tI x) = q x) (L : List (List Int)) : ((L.map tI).filter p).map (fun d => d) = (L.filter q).map tI := by
  rw [List.map_id'' (fun _ => rfl), List.filter_map]
  congr 1
  exact List.filter_congr fun x _ => h x
theorem all_map (S : List (List Int)) (n : Nat) : (((subsL n).map tI).filter (allF S)).map (fun d => d) = (inL n S).map tI := fil_id (allF_tI S) _
def insF (x : List Int) (d : DV) : Bool := insB x (oneT d)
theorem insF_tI (x y : List Int) : insF x (tI y) = insB x y := by unfold insF; rw [oneT_tI]
theorem okD_insF (S : List (List Int)) (x : List Int) : okD (.lst (((S.map tI).filter (insF x)).map fun d => d)) = true := by rw [fil_id (insF_tI x)]; exact okD_lIs' _
theorem insF_nil (S : List (List Int)) (x : List Int) : (((S.map tI).filter (insF x)).map fun d => d).isEmpty = !allB S x := by
  rw [fil_id (insF_tI x), List.isEmpty_map, Bool.eq_iff_iff, List.isEmpty_iff, List.filter_eq_nil_iff]
  unfold allB
  rw [Bool.not_eq_true', List.any_eq_false]
def prF (d : DV) : DV := prD2 (oneT d)
theorem prF_tI (x : List Int) : prF (tI x) = prD2 x := by unfold prF; rw [oneT_tI]
theorem prF_map (L : List (List Int)) : (L.map tI).map prF = L.map prD2 := by
  rw [List.map_map]
  exact List.map_congr_left fun x _ => prF_tI x
def sndF : DV → DV
  | .tup [_, b] => b
  | d => d
theorem sndF_map (L : List (List Int)) : (L.map prD2).map sndF = L.map tI := by
  rw [List.map_map]
  rfl
/-! ### the law's look at one family -/
theorem inL_nil (n : Nat) : inL n [] = [] := by
  unfold inL
  rw [List.filter_eq_nil_iff]
  intro x _
  unfold allB
  simp
theorem allL_nil (n : Nat) : allL n [] = [] := by
  have := sizeL_perm (inL n [])
  rw [inL_nil] at this
  unfold allL
  rw [inL_nil]
  exact List.perm_nil.mp this
def lenF (d : DV) : DV := .int ((oneT d).length : Int)
theorem lenF_tI (x : List Int) : lenF (tI x) = .int (x.length : Int) := by unfold lenF; rw [oneT_tI]
theorem len_map (M : List (List Int)) : (M.map tI).map lenF = (M.map fun x => (x.length : Int)).map DV.int := by
  rw [List.map_map, List.map_map]
  exact List.map_congr_left fun x _ => lenF_tI x
end DL

/-! k38, plain: the told families. -/
namespace DL
open PySem PySem.Spec PyProof.Rows L2
theorem allL_eq {n : Nat} {S L : List (List Int)} (p : (inL n S).Perm L) (h : L.Pairwise fun a b => leS a b = true) : allL n S = L := size_uniq ((sizeL_perm _).trans p) (sizeL_sorted _) h
abbrev A3 : List (List Int) := [[], [0], [1], [2], [0, 1]]
theorem E3_in : InS 3 [[]] := by unfold InS; decide +kernel
theorem E3_all : allL 3 [[]] = [[]] := allL_eq (by decide +kernel) (by decide +kernel)
end DL

/-! Plain linear algebra over the integers and a prime ideal: determinants, minors, ranks. -/
namespace LA
/-! ### sums -/
def sumN : Nat → (Nat → Int) → Int
  | 0, _ => 0
  | n + 1, f => sumN n f + f n
theorem sum_congr {f g : Nat → Int} : ∀ {n : Nat}, (∀ i, i < n → f i = g i) → sumN n f = sumN n g
  | 0, _ => rfl
  | n + 1, h => by
    show sumN n f + f n = sumN n g + g n
    rw [sum_congr fun i hi => h i (by omega), h n (by omega)]
theorem sum_front (f : Nat → Int) : ∀ n : Nat, sumN (n + 1) f = f 0 + sumN n fun i => f (i + 1)
  | 0 => by show 0 + f 0 = f 0 + 0; omega
  | n + 1 => by
    show sumN (n + 1) f + f (n + 1) = f 0 + (sumN n (fun i => f (i + 1)) + f (n + 1))
    rw [sum_front f n]
    omega
theorem sum_add (f g : Nat → Int) : ∀ n : Nat, sumN n (fun i => f i + g i) = sumN n f + sumN n g
  | 0 => rfl
  | n + 1 => by
    show sumN n (fun i => f i + g i) + (f n + g n) = (sumN n f + f n) + (sumN n g + g n)
    rw [sum_add f g n]
    omega
theorem sum_mul (a : Int) (f : Nat → Int) : ∀ n : Nat, sumN n (fun i => a * f i) = a * sumN n f
  | 0 => by show (0 : Int) = a * 0; rw [Int.mul_zero]
  | n + 1 => by
    show sumN n (fun i => a * f i) + a * f n = a * (sumN n f + f n)
    rw [sum_mul a f n, Int.mul_add]
theorem sum_zero : ∀ n : Nat, sumN n (fun _ => 0) = 0
  | 0 => rfl
  | n + 1 => by show sumN n (fun _ => 0) + 0 = 0; rw [sum_zero n]; rfl
theorem sum_swap (f : Nat → Nat → Int) (m : Nat) : ∀ n : Nat, (sumN n fun i => sumN m fun j => f i j) = sumN m fun j => sumN n fun i => f i j
  | 0 => by
    show (0 : Int) = sumN m fun _ => 0
    rw [sum_zero]
  | n + 1 => by
    show (sumN n fun i => sumN m fun j => f i j) + (sumN m fun j => f n j) = sumN m fun j => ((sumN n fun i => f i j) + f n j)
    rw [sum_swap f m n, sum_add]
theorem sum_neg (f : Nat → Int) (n : Nat) : sumN n (fun i => -f i) = -sumN n f := by
  have := sum_mul (-1) f n
  rw [show (fun i => -f i) = fun i => -1 * f i from funext fun i => by omega, this]
  omega
/-! ### signs, skipped places -/
def sg (i : Nat) : Int := if i % 2 = 0 then 1 else -1
theorem sg_succ (i : Nat) : sg (i + 1) = -sg i := by
  unfold sg
  by_cases c : i % 2 = 0
  · rw [if_pos c, if_neg (by omega)]
  · rw [if_neg c, if_pos (by omega)]; rfl
theorem sg_0 : sg 0 = 1 := rfl
def sk (i k : Nat) : Nat := if k < i then k else k + 1
theorem sk_0 (k : Nat) : sk 0 k = k + 1 := by unfold sk; rw [if_neg (by omega)]
theorem sk_s0 (i : Nat) : sk (i + 1) 0 = 0 := by unfold sk; rw [if_pos (by omega)]
theorem sk_ss (i k : Nat) : sk (i + 1) (k + 1) = sk i k + 1 := by
  unfold sk
  by_cases c : k < i
  · rw [if_pos c, if_pos (by omega)]
  · rw [if_neg c, if_neg (by omega)]
theorem sk_lt {i k n : Nat} (h : k < n) : sk i k < n + 1 := by unfold sk; split <;> omega
/-! ### determinants -/
def det : Nat → (Nat → Nat → Int) → Int
  | 0, _ => 1
  | n + 1, A => sumN (n + 1) fun i => sg i * A i 0 * det n fun r c => A (sk i r) (c + 1)
theorem det_col (n : Nat) (A : Nat → Nat → Int) : det (n + 1) A = sumN (n + 1) fun i => sg i * A i 0 * det n fun r c => A (sk i r) (c + 1) := rfl
theorem det_congr : ∀ {n : Nat} {A B : Nat → Nat → Int}, (∀ i j, i < n → j < n → A i j = B i j) → det n A = det n B
  | 0, _, _, _ => rfl
  | n + 1, A, B, h => by
    rw [det_col, det_col]
    refine sum_congr fun i hi => ?_
    rw [h i 0 hi (by omega), det_congr (n := n) (A := fun r c => A (sk i r) (c + 1)) (B := fun r c => B (sk i r) (c + 1)) fun r c hr hc => h _ _ (sk_lt hr) (by omega)]
/-- along the first row -/
theorem det_row : ∀ (n : Nat) (A : Nat → Nat → Int), det (n + 1) A = sumN (n + 1) fun j => sg j * A 0 j * det n fun r c => A (r + 1) (sk j c)
  | 0, A => rfl
  | n + 1, A => by
    rw [det_col, sum_front, sum_front (fun j => sg j * A 0 j * det (n + 1) fun r c => A (r + 1) (sk j c))]
    have e0 : (det (n + 1) fun r c => A (sk 0 r) (c + 1)) = det (n + 1) fun r c => A (r + 1) (sk 0 c) := det_congr fun r c _ _ => by rw [sk_0, sk_0]
    rw [e0]
    congr 1
    have h1 : ∀ i, (det (n + 1) fun r c => A (sk (i + 1) r) (c + 1)) = sumN (n + 1) fun j => sg j * A 0 (j + 1) * det n fun r c => A (sk i r + 1) (sk j c + 1) := fun i => by
      rw [det_row n]
      refine sum_congr fun j _ => ?_
      rw [sk_s0]
      congr 1
      exact det_congr fun r c _ _ => by rw [sk_ss]
    have h2 : ∀ j, (det (n + 1) fun r c => A (r + 1) (sk (j + 1) c)) = sumN (n + 1) fun i => sg i * A (i + 1) 0 * det n fun r c => A (sk i r + 1) (sk j c + 1) := fun j => by
      rw [det_col]
      refine sum_congr fun i _ => ?_
      rw [sk_s0]
      congr 1
      exact det_congr fun r c _ _ => by rw [sk_ss]
    have e1 : (sumN (n + 1) fun i => sg (i + 1) * A (i + 1) 0 * det (n + 1) fun r c => A (sk (i + 1) r) (c + 1)) = sumN (n + 1) fun i => sumN (n + 1) fun j => -(sg i * sg j * A (i + 1) 0 * A 0 (j + 1) * det n fun r c => A (sk i r + 1) (sk j c + 1)) :=
      sum_congr fun i _ => by
        rw [h1 i, ← sum_mul]
        refine sum_congr fun j _ => ?_
        rw [sg_succ]
        grind
    have e2 : (sumN (n + 1) fun j => sg (j + 1) * A 0 (j + 1) * det (n + 1) fun r c => A (r + 1) (sk (j + 1) c)) = sumN (n + 1) fun j => sumN (n + 1) fun i => -(sg i * sg j * A (i + 1) 0 * A 0 (j + 1) * det n fun r c => A (sk i r + 1) (sk j c + 1)) :=
      sum_congr fun j _ => by
        rw [h2 j, ← sum_mul]
        refine sum_congr fun i _ => ?_
        rw [sg_succ]
        grind
    rw [e1, e2, sum_swap]
/-- two neighbouring rows are equal -/
theorem det_two : ∀ (n : Nat) (A : Nat → Nat → Int) (r : Nat), r + 1 < n → (∀ c, A r c = A (r + 1) c) → det n A = 0
  | 0, _, _, h, _ => by omega
  | n + 1, A, r, h, e => by
    have hz : ∀ i, i < n + 1 → i ≠ r → i ≠ r + 1 → (det n fun k c => A (sk i k) (c + 1)) = 0 := fun i hi h1 h2 => by
      rcases Nat.lt_or_ge i r with c | c
      · refine det_two n _ (r - 1) (by omega) fun c => ?_
        show A (sk i (r - 1)) (c + 1) = A (sk i (r - 1 + 1)) (c + 1)
        rw [show sk i (r - 1) = r by unfold sk; rw [if_neg (by omega)]; omega, show sk i (r - 1 + 1) = r + 1 by unfold sk; rw [if_neg (by omega)]; omega]
        exact e _
      · refine det_two n _ r (by omega) fun c => ?_
        show A (sk i r) (c + 1) = A (sk i (r + 1)) (c + 1)
        rw [show sk i r = r by unfold sk; rw [if_pos (by omega)], show sk i (r + 1) = r + 1 by unfold sk; rw [if_pos (by omega)]]
        exact e _
    have hm : (det n fun k c => A (sk r k) (c + 1)) = det n fun k c => A (sk (r + 1) k) (c + 1) := det_congr fun k c _ _ => by
      by_cases ck : k = r
      · subst ck
        rw [show sk k k = k + 1 by unfold sk; rw [if_neg (by omega)], show sk (k + 1) k = k by unfold sk; rw [if_pos (by omega)]]
        exact (e _).symm
      · rw [show sk r k = sk (r + 1) k by unfold sk; split <;> split <;> omega]
    rw [det_col]
    have key : ∀ m, m ≤ n + 1 → (sumN m fun i => sg i * A i 0 * det n fun k c => A (sk i k) (c + 1)) = if m = r + 1 then sg r * A r 0 * (det n fun k c => A (sk r k) (c + 1)) else 0 := by
      intro m
      induction m with
      | zero => intro _; rw [if_neg (by omega)]; rfl
      | succ m ih =>
        intro hm2
        show (sumN m fun i => sg i * A i 0 * det n fun k c => A (sk i k) (c + 1)) + sg m * A m 0 * (det n fun k c => A (sk m k) (c + 1)) = _
        rw [ih (by omega)]
        by_cases c1 : m = r
        · subst c1
          rw [if_neg (by omega), if_pos rfl]
          omega
        · by_cases c2 : m = r + 1
          · subst c2
            rw [if_pos rfl, if_neg (by omega), ← hm, ← e 0, sg_succ]
            grind
          · rw [if_neg c2, hz m (by omega) c1 c2, if_neg (by omega)]
            grind
    rw [key (n + 1) (Nat.le_refl _), if_neg (by omega)]
/-! ### lists of vectors -/
section
variable {κ : Type}
def rowAt (l : List (κ → Int)) (i : Nat) : κ → Int := l.getD i fun _ => 0
def dl (l : List (κ → Int)) (c : Nat → κ) : Int := det l.length fun i j => rowAt l i (c j)
theorem dl_nil (c : Nat → κ) : dl [] c = 1 := rfl
theorem dl_cons (x : κ → Int) (l : List (κ → Int)) (c : Nat → κ) : dl (x :: l) c = sumN (l.length + 1) fun j => sg j * x (c j) * dl l fun k => c (sk j k) := by
  show det (l.length + 1) _ = _
  rw [det_row]
  rfl
theorem dl_add (x y : κ → Int) (l : List (κ → Int)) (c : Nat → κ) : dl ((fun k => x k + y k) :: l) c = dl (x :: l) c + dl (y :: l) c := by
  rw [dl_cons, dl_cons, dl_cons, ← sum_add]
  exact sum_congr fun j _ => by grind
theorem dl_mul (a : Int) (x : κ → Int) (l : List (κ → Int)) (c : Nat → κ) : dl ((fun k => a * x k) :: l) c = a * dl (x :: l) c := by
  rw [dl_cons, dl_cons, ← sum_mul]
  exact sum_congr fun j _ => by grind
theorem dl_zero (l : List (κ → Int)) (c : Nat → κ) : dl ((fun _ => 0) :: l) c = 0 := by
  rw [dl_cons]
  rw [sum_congr (g := fun _ => 0) fun j _ => by grind, sum_zero]
theorem dl_add2 (u x y : κ → Int) (l : List (κ → Int)) (c : Nat → κ) : dl (u :: (fun k => x k + y k) :: l) c = dl (u :: x :: l) c + dl (u :: y :: l) c := by
  rw [dl_cons, dl_cons, dl_cons]
  show sumN (l.length + 1 + 1) _ = sumN (l.length + 1 + 1) _ + sumN (l.length + 1 + 1) _
  rw [← sum_add]
  exact sum_congr fun j _ => by rw [dl_add]; grind
theorem dl_two (x : κ → Int) (l : List (κ → Int)) (c : Nat → κ) : dl (x :: x :: l) c = 0 :=
  det_two _ _ 0 (by show 0 + 1 < l.length + 1 + 1; omega) fun _ => rfl
theorem dl_swap (x y : κ → Int) (l : List (κ → Int)) (c : Nat → κ) : dl (y :: x :: l) c = -dl (x :: y :: l) c := by
  have h := dl_two (fun k => x k + y k) l c
  rw [dl_add, dl_add2, dl_add2, dl_two, dl_two] at h
  omega
theorem dl_perm {l l' : List (κ → Int)} (h : l.Perm l') : ∃ e : Int, (e = 1 ∨ e = -1) ∧ ∀ c, dl l' c = e * dl l c := by
  induction h with
  | nil => exact ⟨1, .inl rfl, fun c => by rw [Int.one_mul]⟩
  | @cons x l l' h ih =>
    obtain ⟨e, he, hc⟩ := ih
    refine ⟨e, he, fun c => ?_⟩
    rw [dl_cons, dl_cons, h.length_eq, ← sum_mul]
    exact sum_congr fun j _ => by rw [hc]; grind
  | swap x y l => exact ⟨-1, .inr rfl, fun c => by rw [dl_swap]; omega⟩
  | trans _ _ ih1 ih2 =>
    obtain ⟨e, he, hc⟩ := ih1
    obtain ⟨f, hf, hd⟩ := ih2
    refine ⟨f * e, ?_, fun c => by rw [hd, hc]; grind⟩
    rcases he with rfl | rfl <;> rcases hf with rfl | rfl <;> simp
theorem dl_mem {x : κ → Int} {l : List (κ → Int)} (h : x ∈ l) (c : Nat → κ) : dl (x :: l) c = 0 := by
  obtain ⟨s, t, rfl⟩ := List.append_of_mem h
  have hp : (x :: x :: (s ++ t)).Perm (x :: (s ++ x :: t)) := List.Perm.cons x List.perm_middle.symm
  obtain ⟨e, _, hc⟩ := dl_perm hp
  rw [hc, dl_two, Int.mul_zero]
/-! ### a prime ideal -/
structure Prm (P : Int → Prop) : Prop where
  zero : P 0
  add : ∀ {x y : Int}, P x → P y → P (x + y)
  mul : ∀ {x : Int} (y : Int), P x → P (y * x)
  pr : ∀ {x y : Int}, P (x * y) → P x ∨ P y
  one : ¬ P 1
variable {P : Int → Prop}
theorem Prm.neg (h : Prm P) {x : Int} (hx : P x) : P (-x) := by
  have := h.mul (-1) hx
  rwa [show -1 * x = -x by omega] at this
theorem Prm.sub (h : Prm P) {x y : Int} (hx : P x) (hy : P y) : P (x - y) := by
  rw [show x - y = x + -y by omega]
  exact h.add hx (h.neg hy)
theorem Prm.mulr (h : Prm P) {x : Int} (y : Int) (hx : P x) : P (x * y) := by rw [Int.mul_comm]; exact h.mul y hx
theorem Prm.sum (h : Prm P) {f : Nat → Int} : ∀ {n : Nat}, (∀ i, i < n → P (f i)) → P (sumN n f)
  | 0, _ => h.zero
  | n + 1, hf => h.add (h.sum fun i hi => hf i (by omega)) (hf n (by omega))
theorem Prm.some (h : Prm P) {f : Nat → Int} {n : Nat} (hs : ¬ P (sumN n f)) : ∃ i, i < n ∧ ¬ P (f i) := Classical.byContradiction fun z => hs (h.sum fun i hi => Classical.byContradiction fun y => z ⟨i, hi, y⟩)
theorem Prm.nmul (h : Prm P) {x y : Int} (hx : ¬ P x) (hy : ¬ P y) : ¬ P (x * y) := fun z => (h.pr z).elim hx hy
theorem Prm.left (h : Prm P) {x y : Int} (hz : ¬ P (x * y)) : ¬ P x := fun z => hz (h.mulr y z)
theorem Prm.right (h : Prm P) {x y : Int} (hz : ¬ P (x * y)) : ¬ P y := fun z => hz (h.mul x z)
theorem Prm.unit (h : Prm P) {e x : Int} (he : e = 1 ∨ e = -1) (hx : ¬ P x) : ¬ P (e * x) := by
  rcases he with rfl | rfl
  · rw [Int.one_mul]; exact hx
  · intro z
    have := h.neg z
    rw [show -(-1 * x) = x by omega] at this
    exact hx this
/-! ### minors -/
def HasMin (P : Int → Prop) (R : List (κ → Int)) (k : Nat) : Prop := ∃ l : List (κ → Int), l.length = k ∧ (∀ v ∈ l, v ∈ R) ∧ ∃ c, ¬ P (dl l c)
def IsRk (P : Int → Prop) (R : List (κ → Int)) (k : Nat) : Prop := HasMin P R k ∧ ¬ HasMin P R (k + 1)
theorem min_0 (h : Prm P) [Inhabited κ] (R : List (κ → Int)) : HasMin P R 0 := ⟨[], rfl, fun _ hv => (by cases hv), fun _ => default, h.one⟩
theorem min_down (h : Prm P) {R : List (κ → Int)} {k : Nat} (hm : HasMin P R (k + 1)) : HasMin P R k := by
  obtain ⟨l, hl, hR, c, hc⟩ := hm
  cases l with
  | nil => cases hl
  | cons x l =>
    rw [dl_cons] at hc
    obtain ⟨j, _, hj⟩ := h.some hc
    exact ⟨l, by simpa using hl, fun v hv => hR v (List.mem_cons_of_mem _ hv), _, h.right hj⟩
theorem min_le (h : Prm P) {R : List (κ → Int)} {j k : Nat} (hm : HasMin P R k) (hj : j ≤ k) : HasMin P R j := by
  induction k with
  | zero => rw [show j = 0 by omega]; exact hm
  | succ k ih =>
    by_cases c : j = k + 1
    · subst c; exact hm
    · exact ih (min_down h hm) (by omega)
theorem IsRk.uniq (h : Prm P) {R : List (κ → Int)} {j k : Nat} (h1 : IsRk P R j) (h2 : IsRk P R k) : j = k := by
  rcases Nat.lt_trichotomy j k with c | c | c
  · exact absurd (min_le h h2.1 (show j + 1 ≤ k by omega)) h1.2
  · exact c
  · exact absurd (min_le h h1.1 (show k + 1 ≤ j by omega)) h2.2
/-- a vector that is spanned -/
def Span (P : Int → Prop) (R : List (κ → Int)) (v : κ → Int) : Prop := ∃ m : Int, ¬ P m ∧ ∃ l : List (Int × (κ → Int)), (∀ e ∈ l, e.2 ∈ R) ∧ ∀ c, P (m * v c - (l.map fun e => e.1 * e.2 c).sum)
theorem dl_comb (l : List (Int × (κ → Int))) (t : List (κ → Int)) (c : Nat → κ) : dl ((fun k => (l.map fun e => e.1 * e.2 k).sum) :: t) c = (l.map fun e => e.1 * dl (e.2 :: t) c).sum := by
  induction l with
  | nil => exact dl_zero t c
  | cons e l ih =>
    have := dl_add (fun k => e.1 * e.2 k) (fun k => (l.map fun e => e.1 * e.2 k).sum) t c
    rw [dl_mul, ih] at this
    exact this
theorem dl_mod (h : Prm P) {x y : κ → Int} (hxy : ∀ c, P (x c - y c)) (t : List (κ → Int)) (c : Nat → κ) : P (dl (x :: t) c - dl (y :: t) c) := by
  have e : dl (x :: t) c - dl (y :: t) c = sumN (t.length + 1) fun j => (sg j * dl t fun k => c (sk j k)) * (x (c j) - y (c j)) := by
    rw [dl_cons, dl_cons, show ∀ a b : Int, a - b = a + -b from fun a b => by omega, ← sum_neg, ← sum_add]
    exact sum_congr fun j _ => by grind
  rw [e]
  exact h.sum fun j _ => h.mul _ (hxy _)
theorem sum_some (h : Prm P) {α : Type} {f : α → Int} : ∀ {l : List α}, ¬ P (l.map f).sum → ∃ e ∈ l, ¬ P (f e)
  | [], hn => absurd h.zero hn
  | e :: l, hn => by
    by_cases c : P (f e)
    · obtain ⟨e', he', h'⟩ := sum_some h (l := l) fun z => hn (by rw [List.map_cons, List.sum_cons]; exact h.add c z)
      exact ⟨e', List.mem_cons_of_mem _ he', h'⟩
    · exact ⟨e, List.mem_cons_self, c⟩
theorem span_change (h : Prm P) {R : List (κ → Int)} {v : κ → Int} {t : List (κ → Int)} {c : Nat → κ} (hs : Span P R v) (hd : ¬ P (dl (v :: t) c)) : ∃ w ∈ R, ¬ P (dl (w :: t) c) := by
  obtain ⟨m, hm, l, hl, he⟩ := hs
  have h1 := dl_mod h (x := fun k => m * v k) (y := fun k => (l.map fun e => e.1 * e.2 k).sum) he t c
  rw [dl_mul, dl_comb] at h1
  have h2 : ¬ P ((l.map fun e => e.1 * dl (e.2 :: t) c).sum) := fun z => h.nmul hm hd (by
    have := h.add h1 z
    rw [show m * dl (v :: t) c - (l.map fun e => e.1 * dl (e.2 :: t) c).sum + (l.map fun e => e.1 * dl (e.2 :: t) c).sum = m * dl (v :: t) c by omega] at this
    exact this)
  obtain ⟨e, he2, h3⟩ := sum_some h h2
  exact ⟨e.2, hl e he2, h.right h3⟩
theorem span_all (h : Prm P) {R R' : List (κ → Int)} (hs : ∀ v ∈ R', Span P R v) (c : Nat → κ) : ∀ (t d : List (κ → Int)), (∀ v ∈ t, v ∈ R') → (∀ w ∈ d, w ∈ R) → ¬ P (dl (t ++ d) c) → ∃ l : List (κ → Int), l.length = t.length + d.length ∧ (∀ w ∈ l, w ∈ R) ∧ ¬ P (dl l c)
  | [], d, _, hd, hn => ⟨d, by simp, hd, hn⟩
  | v :: t, d, ht, hd, hn => by
    obtain ⟨w, hw, hn2⟩ := span_change h (hs v (ht v List.mem_cons_self)) hn
    have hp : (w :: (t ++ d)).Perm (t ++ w :: d) := List.perm_middle.symm
    obtain ⟨e, he, hc⟩ := dl_perm hp
    obtain ⟨l, h1, h2, h3⟩ := span_all h hs c t (w :: d) (fun x hx => ht x (List.mem_cons_of_mem _ hx)) (fun x hx => by
      rcases List.mem_cons.mp hx with z | z
      · rw [z]; exact hw
      · exact hd x z) (by rw [hc]; exact h.unit he hn2)
    exact ⟨l, by rw [h1, List.length_cons, List.length_cons]; omega, h2, h3⟩
theorem span_min (h : Prm P) {R R' : List (κ → Int)} (hs : ∀ v ∈ R', Span P R v) {k : Nat} (hm : HasMin P R' k) : HasMin P R k := by
  obtain ⟨l, hl, hR, c, hc⟩ := hm
  obtain ⟨l', h1, h2, h3⟩ := span_all h hs c l [] hR (fun _ hw => by cases hw) (by rw [List.append_nil]; exact hc)
  exact ⟨l', by rw [h1, hl]; rfl, h2, c, h3⟩
theorem span_self (h : Prm P) {R : List (κ → Int)} {v : κ → Int} (hv : v ∈ R) : Span P R v :=
  ⟨1, h.one, [(1, v)], fun e he => by rw [List.mem_singleton.mp he]; exact hv, fun c => by
    show P (1 * v c - (1 * v c + 0))
    rw [show 1 * v c - (1 * v c + 0) = 0 by omega]
    exact h.zero⟩
theorem rk_eq (h : Prm P) {R R' : List (κ → Int)} (h1 : ∀ v ∈ R', Span P R v) (h2 : ∀ v ∈ R, Span P R' v) {k : Nat} (hk : IsRk P R k) : IsRk P R' k :=
  ⟨span_min h h2 hk.1, fun z => hk.2 (span_min h h1 z)⟩
/-! ### one step of taking off -/
theorem step_up (h : Prm P) {x : κ → Int} {R : List (κ → Int)} {g : κ} (hx : ¬ P (x g)) (hR : ∀ v ∈ R, P (v g)) {k : Nat} (hm : HasMin P R k) : HasMin P (x :: R) (k + 1) := by
  obtain ⟨l, hl, hlR, c, hc⟩ := hm
  refine ⟨x :: l, by rw [List.length_cons, hl], fun v hv => ?_, fun j => if j = 0 then g else c (j - 1), ?_⟩
  · rcases List.mem_cons.mp hv with e | hv
    · rw [e]; exact List.mem_cons_self
    · exact List.mem_cons_of_mem _ (hlR v hv)
  · have e : dl (x :: l) (fun j => if j = 0 then g else c (j - 1)) = x g * dl l c + sumN l.length fun i => sg (i + 1) * rowAt l i g * det l.length fun r k => rowAt (x :: l) (sk (i + 1) r) (c k) := by
      show det (l.length + 1) _ = _
      rw [det_col, sum_front, sg_0, Int.one_mul]
      rfl
    rw [e]
    intro z
    have h1 : P (sumN l.length fun i => sg (i + 1) * rowAt l i g * det l.length fun r k => rowAt (x :: l) (sk (i + 1) r) (c k)) := h.sum fun i hi => h.mulr _ (h.mul _ (by
      unfold rowAt
      rw [List.getD_eq_getElem?_getD, List.getElem?_eq_getElem hi]
      exact hR _ (hlR _ (List.getElem_mem hi))))
    have h2 := h.sub z h1
    rw [Int.add_sub_cancel] at h2
    exact h.nmul hx hc h2
theorem step_down (h : Prm P) {x : κ → Int} {R : List (κ → Int)} {k : Nat} (hm : HasMin P (x :: R) (k + 1)) : HasMin P R k := by
  obtain ⟨l, hl, hlR, c, hc⟩ := hm
  by_cases hx : x ∈ l
  · obtain ⟨s, t, rfl⟩ := List.append_of_mem hx
    have hp : (s ++ x :: t).Perm (x :: (s ++ t)) := List.perm_middle
    obtain ⟨e, he, hd⟩ := dl_perm hp
    have hn : ¬ P (dl (x :: (s ++ t)) c) := by rw [hd]; exact h.unit he hc
    have hnx : x ∉ s ++ t := fun z => hn (by rw [dl_mem z]; exact h.zero)
    rw [dl_cons] at hn
    obtain ⟨j, _, hj⟩ := h.some hn
    refine ⟨s ++ t, by rw [List.length_append, List.length_cons] at hl; rw [List.length_append]; omega, fun v hv => ?_, _, h.right hj⟩
    have hv2 : v ∈ x :: R := hlR v (by rcases List.mem_append.mp hv with z | z; exact List.mem_append_left _ z; exact List.mem_append_right _ (List.mem_cons_of_mem _ z))
    rcases List.mem_cons.mp hv2 with e | hv2
    · rw [e] at hv; exact absurd hv hnx
    · exact hv2
  · have hall : ∀ v ∈ l, v ∈ R := fun v hv => by
      rcases List.mem_cons.mp (hlR v hv) with e | h2
      · rw [e] at hv; exact absurd hv hx
      · exact h2
    exact min_down h ⟨l, hl, hall, c, hc⟩
theorem step_rk (h : Prm P) {x : κ → Int} {R : List (κ → Int)} {g : κ} (hx : ¬ P (x g)) (hR : ∀ v ∈ R, P (v g)) {k : Nat} (hk : IsRk P R k) : IsRk P (x :: R) (k + 1) :=
  ⟨step_up h hx hR hk.1, fun z => hk.2 (step_down h z)⟩
theorem zero_rk (h : Prm P) [Inhabited κ] {R : List (κ → Int)} (hR : ∀ v ∈ R, ∀ c, P (v c)) : IsRk P R 0 := by
  refine ⟨min_0 h R, fun ⟨l, hl, hlR, c, hc⟩ => hc ?_⟩
  cases l with
  | nil => cases hl
  | cons x l =>
    rw [dl_cons]
    exact h.sum fun j _ => h.mulr _ (h.mul _ (hR x (hlR x List.mem_cons_self) _))
end
end LA

/-! Primes: the prime ideals of the integers; 2 ^ 61 - 1 is a prime. -/
namespace LA
/-- no divisor but 1 and itself -/
def Irr (p : Nat) : Prop := 2 ≤ p ∧ ∀ d, d ∣ p → d = 1 ∨ d = p
theorem Irr.euclid {p a b : Nat} (h : Irr p) (hd : p ∣ a * b) : p ∣ a ∨ p ∣ b := by
  rcases h.2 (Nat.gcd p a) (Nat.gcd_dvd_left p a) with e | e
  · exact .inr (Nat.Coprime.dvd_of_dvd_mul_left e hd)
  · exact .inl (by rw [← e]; exact Nat.gcd_dvd_right p a)
theorem irr_ex : ∀ n : Nat, 2 ≤ n → ∃ q, Irr q ∧ q ∣ n := by
  intro n
  induction n using Nat.strongRecOn with
  | ind n ih =>
    intro h
    by_cases c : Irr n
    · exact ⟨n, c, Nat.dvd_refl n⟩
    · have : ∃ d, d ∣ n ∧ d ≠ 1 ∧ d ≠ n := Classical.byContradiction fun z => c ⟨h, fun d hd => Classical.byContradiction fun y => z ⟨d, hd, fun e => y (.inl e), fun e => y (.inr e)⟩⟩
      obtain ⟨d, hd, h1, h2⟩ := this
      have hle := Nat.le_of_dvd (by omega) hd
      have h0 : d ≠ 0 := fun e => by rw [e] at hd; have := Nat.eq_zero_of_zero_dvd hd; omega
      obtain ⟨q, hq, hqd⟩ := ih d (by omega) (by omega)
      exact ⟨q, hq, Nat.dvd_trans hqd hd⟩
theorem Irr.prod {p : Nat} (h : Irr p) : ∀ {l : List Nat}, p ∣ l.foldr (· * ·) 1 → ∃ q ∈ l, p ∣ q
  | [], hd => by have := Nat.le_of_dvd (by decide) hd; have := h.1; simp at *; omega
  | q :: l, hd => by
    rcases h.euclid hd with c | c
    · exact ⟨q, List.mem_cons_self, c⟩
    · obtain ⟨q', hq', hc⟩ := h.prod c
      exact ⟨q', List.mem_cons_of_mem _ hq', hc⟩
theorem irr_small {p : Nat} (h : (decide (2 ≤ p) && (List.range p).all fun d => !decide (2 ≤ d) || decide (p % d ≠ 0)) = true) : Irr p := by
  rw [Bool.and_eq_true, decide_eq_true_eq, List.all_eq_true] at h
  refine ⟨h.1, fun d hd => ?_⟩
  have hle := Nat.le_of_dvd (by omega) hd
  rcases Nat.lt_or_ge d p with c | c
  · have := h.2 d (List.mem_range.mpr c)
    rcases Nat.lt_or_ge d 2 with c2 | c2
    · left
      rcases Nat.eq_zero_or_pos d with e | e
      · rw [e] at hd; have := Nat.eq_zero_of_zero_dvd hd; omega
      · omega
    · rw [decide_eq_true c2, Bool.not_true, Bool.false_or, decide_eq_true_eq] at this
      exact absurd (Nat.mod_eq_zero_of_dvd hd) this
  · right; omega
/-! ### powers modulo n -/
def pwm (n a : Nat) : Nat → Nat → Nat
  | 0, _ => 1 % n
  | f + 1, k => if k = 0 then 1 % n else if k % 2 = 0 then pwm n (a * a % n) f (k / 2) else a * pwm n (a * a % n) f (k / 2) % n
theorem pow_mod' (a n k : Nat) : (a % n) ^ k % n = a ^ k % n := (Nat.pow_mod a k n).symm
theorem pwm_is (n : Nat) : ∀ (f a k : Nat), k < 2 ^ f → pwm n a f k = a ^ k % n
  | 0, a, k, h => by
    have : k = 0 := by simpa using h
    subst this
    rfl
  | f + 1, a, k, h => by
    unfold pwm
    by_cases c : k = 0
    · subst c; rw [if_pos rfl]; rfl
    · rw [if_neg c]
      have hk : k / 2 < 2 ^ f := by rw [Nat.pow_succ] at h; omega
      have e2 : pwm n (a * a % n) f (k / 2) = (a * a) ^ (k / 2) % n := by rw [pwm_is n f _ _ hk, pow_mod']
      have e3 : (a * a) ^ (k / 2) = a ^ (2 * (k / 2)) := by rw [Nat.pow_mul, Nat.pow_two]
      by_cases c2 : k % 2 = 0
      · rw [if_pos c2, e2, e3]
        congr 2
        omega
      · rw [if_neg c2, e2, e3, Nat.mul_mod_mod]
        congr 1
        rw [Nat.mul_comm, ← Nat.pow_succ]
        congr 1
        omega
/-! ### a number with a great order is a prime -/
theorem pow_one_mul {r a d : Nat} (h : a ^ d % r = 1 % r) : ∀ k, a ^ (d * k) % r = 1 % r
  | 0 => by rw [Nat.mul_zero]; rfl
  | k + 1 => by
    rw [Nat.mul_succ, Nat.pow_add, Nat.mul_mod, pow_one_mul h k, h, ← Nat.mul_mod]
theorem least_of {p : Nat → Prop} : ∀ n, p n → ∃ k, p k ∧ k ≤ n ∧ ∀ j, j < k → ¬ p j := by
  intro n
  induction n using Nat.strongRecOn with
  | ind n ih =>
    intro h
    by_cases c : ∃ j, j < n ∧ p j
    · obtain ⟨j, hj, hp⟩ := c
      obtain ⟨k, h1, h2, h3⟩ := ih j hj hp
      exact ⟨k, h1, by omega, h3⟩
    · exact ⟨n, h, Nat.le_refl n, fun j hj hp => c ⟨j, hj, hp⟩⟩
theorem nodup_bd : ∀ (l : List Nat) (n : Nat), l.Nodup → (∀ x ∈ l, x < n) → l.length ≤ n := by
  intro l n hn hl
  have h1 : l.length ≤ (List.range n).length := by
    have : ∀ (l m : List Nat), l.Nodup → (∀ x ∈ l, x ∈ m) → l.length ≤ m.length := by
      intro l
      induction l with
      | nil => intro m _ _; exact Nat.zero_le _
      | cons x l ih =>
        intro m hn hs
        obtain ⟨h1, h2⟩ := List.nodup_cons.mp hn
        have hx := hs x List.mem_cons_self
        have := ih (m.erase x) h2 fun y hy => (List.mem_erase_of_ne (fun e => h1 (by rw [e] at hy; exact hy))).mpr (hs y (List.mem_cons_of_mem _ hy))
        have e := List.length_erase_of_mem hx
        have hp := List.length_pos_of_mem hx
        rw [List.length_cons]
        omega
    exact this l _ hn fun x hx => List.mem_range.mpr (hl x hx)
  rwa [List.length_range] at h1
/-- a has the order n - 1 modulo n in so far as the primes of n - 1 tell it -/
theorem irr_lucas {n a : Nat} {qs : List Nat} (h2 : 2 ≤ n) (hq : ∀ q ∈ qs, Irr q) (hm : qs.foldr (· * ·) 1 = n - 1) (h1 : a ^ (n - 1) % n = 1 % n)
    (hg : ∀ q ∈ qs, Nat.gcd (a ^ ((n - 1) / q) % n + (n - 1)) n = 1) : Irr n := by
  refine ⟨h2, fun r hr => ?_⟩
  by_cases c1 : r = 1
  · exact .inl c1
  right
  have hr0 : r ≠ 0 := fun e => by rw [e] at hr; have := Nat.eq_zero_of_zero_dvd hr; omega
  have hrn := Nat.le_of_dvd (by omega) hr
  obtain ⟨t, ht⟩ := hr
  have tor : ∀ {x y : Nat}, x % n = y % n → x % r = y % r := fun {x y} e => by
    rw [ht] at e
    have := congrArg (· % r) e
    simp only [Nat.mod_mul_right_mod] at this
    exact this
  have hone : a ^ (n - 1) % r = 1 % r := tor h1
  have h1r : 1 % r = 1 := Nat.mod_eq_of_lt (by omega)
  obtain ⟨d, ⟨hd0, hd1⟩, hdn, hmin⟩ := least_of (p := fun d => 0 < d ∧ a ^ d % r = 1 % r) (n - 1) ⟨by omega, hone⟩
  have hdiv : d ∣ n - 1 := by
    have e : a ^ ((n - 1) % d) % r = 1 % r := by
      have e1 : a ^ (n - 1) = a ^ (d * ((n - 1) / d)) * a ^ ((n - 1) % d) := by rw [← Nat.pow_add, Nat.div_add_mod]
      rw [e1, Nat.mul_mod, pow_one_mul hd1, h1r, Nat.one_mul, Nat.mod_mod] at hone
      rw [hone, h1r]
    refine Nat.dvd_of_mod_eq_zero (Classical.byContradiction fun z => hmin ((n - 1) % d) (Nat.mod_lt _ hd0) ⟨by omega, e⟩)
  have hdn1 : d = n - 1 := by
    refine Classical.byContradiction fun z => ?_
    obtain ⟨u, hu⟩ := hdiv
    have hu2 : 2 ≤ u := by
      rcases Nat.lt_or_ge u 2 with c | c
      · have : u = 0 ∨ u = 1 := by omega
        rcases this with rfl | rfl
        · omega
        · omega
      · exact c
    obtain ⟨q, hqi, hqu⟩ := irr_ex u hu2
    have hqm : q ∣ qs.foldr (· * ·) 1 := by rw [hm, hu]; exact Nat.dvd_trans hqu (Nat.dvd_mul_left u d)
    obtain ⟨q', hq', hqq⟩ := hqi.prod hqm
    have e : q = q' := by
      rcases (hq q' hq').2 q hqq with e | e
      · have := hqi.1; omega
      · exact e
    subst e
    obtain ⟨w, hw⟩ := hqu
    have e2 : (n - 1) / q = d * w := by rw [hu, hw, show d * (q * w) = q * (d * w) by rw [Nat.mul_left_comm], Nat.mul_div_cancel_left _ (by have := hqi.1; omega)]
    have e3 : a ^ ((n - 1) / q) % r = 1 := by rw [e2, pow_one_mul hd1, h1r]
    have hg2 := hg q hq'
    have hrd : r ∣ a ^ ((n - 1) / q) % n + (n - 1) := by
      refine Nat.dvd_of_mod_eq_zero ?_
      have e4 : (a ^ ((n - 1) / q) % n) % r = 1 := by
        rw [ht, Nat.mod_mul_right_mod]
        rw [ht] at e3
        exact e3
      have e5 : (n - 1) % r = r - 1 := by
        have ht0 : t ≠ 0 := fun e => by rw [e] at ht; omega
        have : n - 1 = (r - 1) + r * (t - 1) := by
          have h3 : r * t = r * (t - 1) + r := by
            rw [← Nat.mul_succ]
            congr 1
            omega
          omega
        rw [this, Nat.add_mul_mod_self_left]
        exact Nat.mod_eq_of_lt (by omega)
      rw [Nat.add_mod, e4, e5, show 1 + (r - 1) = r by omega, Nat.mod_self]
    have : r ∣ 1 := by rw [← hg2]; exact Nat.dvd_gcd hrd ⟨t, ht⟩
    have := Nat.le_of_dvd (by decide) this
    omega
  -- the powers of a are apart
  have hnz : ∀ i, a ^ i % r ≠ 0 := fun i z => by
    have e1 : a ^ (d * i) % r = 0 := by
      rw [Nat.mul_comm, Nat.pow_mul, ← pow_mod', z]
      rw [Nat.zero_pow hd0, Nat.zero_mod]
    rw [pow_one_mul hd1, h1r] at e1
    omega
  have hap : ∀ i j, i < j → j < d → a ^ i % r ≠ a ^ j % r := fun i j hij hj z => by
    have e1 : a ^ (j - i) % r = 1 % r := by
      have h3 : a ^ i * a ^ (d - i) % r = a ^ j * a ^ (d - i) % r := by rw [Nat.mul_mod, z, ← Nat.mul_mod]
      rw [← Nat.pow_add, ← Nat.pow_add, show i + (d - i) = d by omega, show j + (d - i) = d + (j - i) by omega, Nat.pow_add, Nat.mul_mod (a ^ d), hd1, h1r, Nat.one_mul, Nat.mod_mod] at h3
      rw [← h3, h1r]
    exact hmin (j - i) (by omega) ⟨by omega, e1⟩
  have hnd : ((List.range d).map fun i => a ^ i % r - 1).Nodup := by
    refine List.pairwise_map.mpr (List.Pairwise.imp_of_mem (fun {i j} hi hj hij => ?_) (List.pairwise_lt_range (n := d)))
    have := hap i j hij (List.mem_range.mp hj)
    have := hnz i
    have := hnz j
    omega
  have := nodup_bd _ (r - 1) hnd fun x hx => by
    obtain ⟨i, _, rfl⟩ := List.mem_map.mp hx
    have := Nat.mod_lt (a ^ i) (show 0 < r by omega)
    have := hnz i
    omega
  rw [List.length_map, List.length_range] at this
  omega
/-! ### 2 ^ 61 - 1 -/
def FAR : Nat := 2305843009213693951
def farQ : List Nat := [2, 3, 3, 5, 5, 7, 11, 13, 31, 41, 61, 151, 331, 1321]
theorem far_qs : (farQ.all fun q => decide (2 ≤ q) && (List.range q).all fun d => !decide (2 ≤ d) || decide (q % d ≠ 0)) = true := by decide +kernel
theorem far_pw : pwm FAR 37 61 (FAR - 1) = 1 % FAR := by decide +kernel
theorem far_gc : (farQ.all fun q => decide (Nat.gcd (pwm FAR 37 61 ((FAR - 1) / q) + (FAR - 1)) FAR = 1)) = true := by decide +kernel
theorem far_irr : Irr FAR := by
  refine irr_lucas (a := 37) (qs := farQ) (by decide) (fun q hq => irr_small (List.all_eq_true.mp far_qs q hq)) (by decide +kernel) ?_ fun q hq => ?_
  · rw [← pwm_is FAR 61 37 _ (by decide)]; exact far_pw
  · have := of_decide_eq_true (List.all_eq_true.mp far_gc q hq)
    rw [← pwm_is FAR 61 37 _ (Nat.lt_of_le_of_lt (Nat.div_le_self _ _) (by decide))]
    exact this
/-! ### the prime ideals -/
def modP (p : Nat) (x : Int) : Prop := (p : Int) ∣ x
theorem prm_mod {p : Nat} (h : Irr p) : Prm (modP p) where
  zero := Int.dvd_zero _
  add := fun hx hy => Int.dvd_add hx hy
  mul := fun y hx => Int.dvd_trans hx (Int.dvd_mul_left _ _)
  pr := fun {x y} hxy => by
    have h2 : p ∣ x.natAbs * y.natAbs := by
      have := Int.natAbs_dvd_natAbs.mpr hxy
      rwa [Int.natAbs_mul, Int.natAbs_natCast] at this
    rcases h.euclid h2 with c | c
    · exact .inl (Int.natAbs_dvd_natAbs.mp (by rwa [Int.natAbs_natCast]))
    · exact .inr (Int.natAbs_dvd_natAbs.mp (by rwa [Int.natAbs_natCast]))
  one := fun h1 => by
    have := Int.natAbs_dvd_natAbs.mpr h1
    have h3 : p ∣ 1 := this
    have := Nat.le_of_dvd (by decide) h3
    have := h.1
    omega
theorem prm_zero : Prm (fun x : Int => x = 0) where
  zero := rfl
  add := fun hx hy => by rw [hx, hy]; rfl
  mul := fun y hx => by rw [hx, Int.mul_zero]
  pr := fun hxy => Int.mul_eq_zero.mp hxy
  one := by decide
end LA

/-! Ranks: that they are, taking off, echelons, other names of columns, bounds. -/
namespace LA
section
variable {κ : Type} {P : Int → Prop}
theorem nodup_sub_len {α : Type} : ∀ {l m : List α}, l.Nodup → (∀ x ∈ l, x ∈ m) → l.length ≤ m.length
  | [], _, _, _ => Nat.zero_le _
  | x :: l, m, hn, hs => by
    obtain ⟨h1, h2⟩ := List.nodup_cons.mp hn
    obtain ⟨s, t, rfl⟩ := List.append_of_mem (hs x List.mem_cons_self)
    have := nodup_sub_len (m := s ++ t) h2 fun y hy => by
      rcases List.mem_append.mp (hs y (List.mem_cons_of_mem _ hy)) with z | z
      · exact List.mem_append_left _ z
      · rcases List.mem_cons.mp z with e | z
        · rw [e] at hy; exact absurd hy h1
        · exact List.mem_append_right _ z
    rw [List.length_append] at this
    rw [List.length_cons, List.length_append, List.length_cons]
    omega
theorem dl_dup {l : List (κ → Int)} (h : ¬ l.Nodup) (c : Nat → κ) : dl l c = 0 := by
  have key : ∀ l : List (κ → Int), ¬ l.Nodup → ∃ x s, x ∈ s ∧ l.Perm (x :: s) := by
    intro l
    induction l with
    | nil => intro h; exact absurd List.nodup_nil h
    | cons x l ih =>
      intro h
      by_cases hx : x ∈ l
      · exact ⟨x, l, hx, List.Perm.refl _⟩
      · obtain ⟨y, s, hy, hp⟩ := ih fun z => h (List.nodup_cons.mpr ⟨hx, z⟩)
        exact ⟨y, x :: s, List.mem_cons_of_mem _ hy, (List.Perm.cons x hp).trans (List.Perm.swap y x s)⟩
  obtain ⟨x, s, hx, hp⟩ := key l h
  obtain ⟨e, _, hc⟩ := dl_perm hp.symm
  rw [hc, dl_mem hx, Int.mul_zero]
theorem min_bd (h : Prm P) {R : List (κ → Int)} {k : Nat} (hm : HasMin P R k) : k ≤ R.length := by
  obtain ⟨l, hl, hR, c, hc⟩ := hm
  rw [← hl]
  exact nodup_sub_len (Classical.byContradiction fun z => hc (by rw [dl_dup z]; exact h.zero)) hR
theorem rk_ex (h : Prm P) [Inhabited κ] (R : List (κ → Int)) : ∃ k, IsRk P R k := by
  have key : ∀ n, ¬ HasMin P R n → ∃ k, k < n ∧ IsRk P R k := by
    intro n
    induction n with
    | zero => intro hn; exact absurd (min_0 h R) hn
    | succ n ih =>
      intro hn
      by_cases c : HasMin P R n
      · exact ⟨n, by omega, c, hn⟩
      · obtain ⟨k, h1, h2⟩ := ih c
        exact ⟨k, by omega, h2⟩
  obtain ⟨k, _, hk⟩ := key (R.length + 1) fun z => by have := min_bd h z; omega
  exact ⟨k, hk⟩
open Classical in
noncomputable def rkOf (P : Int → Prop) (R : List (κ → Int)) : Nat := if h : ∃ k, IsRk P R k then Classical.choose h else 0
theorem rkOf_is (h : Prm P) [Inhabited κ] (R : List (κ → Int)) : IsRk P R (rkOf P R) := by
  unfold rkOf
  rw [dif_pos (rk_ex h R)]
  exact Classical.choose_spec (rk_ex h R)
theorem IsRk.of (h : Prm P) [Inhabited κ] {R : List (κ → Int)} {k : Nat} (hk : IsRk P R k) : rkOf P R = k := (rkOf_is h R).uniq h hk
theorem IsRk.bd (h : Prm P) {R : List (κ → Int)} {k : Nat} (hk : IsRk P R k) : k ≤ R.length := min_bd h hk.1
theorem rk_mem {R R' : List (κ → Int)} (h : ∀ v, v ∈ R ↔ v ∈ R') {k : Nat} (hk : IsRk P R k) : IsRk P R' k := by
  have key : ∀ j, HasMin P R j ↔ HasMin P R' j := fun j => ⟨fun ⟨l, a, b, c⟩ => ⟨l, a, fun v hv => (h v).mp (b v hv), c⟩, fun ⟨l, a, b, c⟩ => ⟨l, a, fun v hv => (h v).mpr (b v hv), c⟩⟩
  exact ⟨(key k).mp hk.1, fun z => hk.2 ((key _).mpr z)⟩
/-! ### taking off -/
theorem elim_rk (h : Prm P) {x : κ → Int} {R R' : List (κ → Int)} {g : κ} (hx : ¬ P (x g))
    (h1 : ∀ v' ∈ R', P (v' g) ∧ ∃ v ∈ R, ∃ m a : Int, ∀ c, P (v' c - (m * v c - a * x c)))
    (h2 : ∀ v ∈ R, ∃ v' ∈ R', ∃ m a : Int, ¬ P m ∧ ∀ c, P (v' c - (m * v c - a * x c))) {k : Nat} (hk : IsRk P R' k) : IsRk P (x :: R) (k + 1) := by
  refine rk_eq h (R := x :: R') (fun v hv => ?_) (fun v hv => ?_) (step_rk h hx (fun v hv => (h1 v hv).1) hk)
  · rcases List.mem_cons.mp hv with e | hv
    · rw [e]; exact span_self h List.mem_cons_self
    · obtain ⟨v', hv', m, a, hm, hc⟩ := h2 v hv
      refine ⟨m, hm, [(1, v'), (a, x)], fun e he => ?_, fun c => ?_⟩
      · rcases List.mem_cons.mp he with e1 | he
        · rw [e1]; exact List.mem_cons_of_mem _ hv'
        · rw [List.mem_singleton.mp he]; exact List.mem_cons_self
      · have := h.neg (hc c)
        show P (m * v c - (1 * v' c + (a * x c + 0)))
        rw [show m * v c - (1 * v' c + (a * x c + 0)) = -(v' c - (m * v c - a * x c)) by omega]
        exact this
  · rcases List.mem_cons.mp hv with e | hv
    · rw [e]; exact span_self h List.mem_cons_self
    · obtain ⟨_, w, hw, m, a, hc⟩ := h1 v hv
      refine ⟨1, h.one, [(m, w), (-a, x)], fun e he => ?_, fun c => ?_⟩
      · rcases List.mem_cons.mp he with e1 | he
        · rw [e1]; exact List.mem_cons_of_mem _ hw
        · rw [List.mem_singleton.mp he]; exact List.mem_cons_self
      · show P (1 * v c - (m * w c + (-a * x c + 0)))
        rw [show 1 * v c - (m * w c + (-a * x c + 0)) = v c - (m * w c - a * x c) by grind]
        exact hc c
theorem span_zero (h : Prm P) {R : List (κ → Int)} {v : κ → Int} (hv : ∀ c, P (v c)) : Span P R v :=
  ⟨1, h.one, [], fun _ he => (by cases he), fun c => by
    show P (1 * v c - 0)
    rw [show 1 * v c - 0 = v c by omega]
    exact hv c⟩
theorem span_mod (h : Prm P) {R : List (κ → Int)} {v w : κ → Int} {m : Int} (hm : ¬ P m) (hw : w ∈ R) {a : Int} (hv : ∀ c, P (m * v c - a * w c)) : Span P R v :=
  ⟨m, hm, [(a, w)], fun e he => by rw [List.mem_singleton.mp he]; exact hw, fun c => by
    show P (m * v c - (a * w c + 0))
    rw [Int.add_zero]
    exact hv c⟩
theorem span_mono {R R' : List (κ → Int)} (hs : ∀ v ∈ R, v ∈ R') {v : κ → Int} (h : Span P R v) : Span P R' v := by
  obtain ⟨m, hm, l, hl, hc⟩ := h
  exact ⟨m, hm, l, fun e he => hs _ (hl e he), hc⟩
/-- what is spanned by spanned vectors -/
theorem span_trans (h : Prm P) {R R' : List (κ → Int)} (hs : ∀ v ∈ R', Span P R v) {v : κ → Int} (hv : Span P R' v) : Span P R v := by
  obtain ⟨m, hm, l, hl, hc⟩ := hv
  -- one by one: m0 * sum = sum of R
  have key : ∀ l : List (Int × (κ → Int)), (∀ e ∈ l, e.2 ∈ R') → ∃ n : Int, ¬ P n ∧ ∃ q : List (Int × (κ → Int)), (∀ e ∈ q, e.2 ∈ R) ∧ ∀ c, P (n * (l.map fun e => e.1 * e.2 c).sum - (q.map fun e => e.1 * e.2 c).sum) := by
    intro l
    induction l with
    | nil => intro _; exact ⟨1, h.one, [], fun _ he => (by cases he), fun c => h.zero⟩
    | cons e l ih =>
      intro hl
      obtain ⟨n, hn, q, hq, hc⟩ := ih fun e' he => hl e' (List.mem_cons_of_mem _ he)
      obtain ⟨m1, hm1, l1, hl1, hc1⟩ := hs e.2 (hl e List.mem_cons_self)
      have sm : ∀ (a : Int) (q : List (Int × (κ → Int))) (c : κ), ((q.map fun e => (a * e.1, e.2)).map fun e => e.1 * e.2 c).sum = a * (q.map fun e => e.1 * e.2 c).sum := by
        intro a q c
        induction q with
        | nil => show (0 : Int) = a * 0; rw [Int.mul_zero]
        | cons x q ih => rw [List.map_cons, List.map_cons, List.sum_cons, List.map_cons, List.sum_cons, ih]; grind
      refine ⟨m1 * n, h.nmul hm1 hn, (q.map fun e => (m1 * e.1, e.2)) ++ (l1.map fun e' => (n * e.1 * e'.1, e'.2)), fun e' he => ?_, fun c => ?_⟩
      · rcases List.mem_append.mp he with z | z
        · obtain ⟨x, hx, rfl⟩ := List.mem_map.mp z; exact hq x hx
        · obtain ⟨x, hx, rfl⟩ := List.mem_map.mp z; exact hl1 x hx
      · rw [List.map_append, List.sum_append, sm, sm, List.map_cons, List.sum_cons]
        have h3 := h.add (h.mul m1 (hc c)) (h.mul (n * e.1) (hc1 c))
        rw [show m1 * n * (e.1 * e.2 c + (l.map fun e => e.1 * e.2 c).sum) - (m1 * (q.map fun e => e.1 * e.2 c).sum + n * e.1 * (l1.map fun e => e.1 * e.2 c).sum) = m1 * (n * (l.map fun e => e.1 * e.2 c).sum - (q.map fun e => e.1 * e.2 c).sum) + n * e.1 * (m1 * e.2 c - (l1.map fun e => e.1 * e.2 c).sum) by grind]
        exact h3
  obtain ⟨n, hn, q, hq, hc2⟩ := key l hl
  refine ⟨n * m, h.nmul hn hm, q, hq, fun c => ?_⟩
  have := h.add (h.mul n (hc c)) (hc2 c)
  rw [show n * m * v c - (q.map fun e => e.1 * e.2 c).sum = n * (m * v c - (l.map fun e => e.1 * e.2 c).sum) + (n * (l.map fun e => e.1 * e.2 c).sum - (q.map fun e => e.1 * e.2 c).sum) by grind]
  exact this
/-! ### echelons -/
theorem max_ex {lt : κ → κ → Prop} (tri : ∀ a b, lt a b ∨ a = b ∨ lt b a) (tr : ∀ {a b c}, lt a b → lt b c → lt a c) {α : Type} (f : α → κ) : ∀ {H : List α}, H ≠ [] → ∃ s e t, H = s ++ e :: t ∧ ∀ x ∈ s ++ t, lt (f x) (f e) ∨ f x = f e
  | [], h => absurd rfl h
  | [e], _ => ⟨[], e, [], rfl, fun x hx => by cases hx⟩
  | a :: b :: r, _ => by
    obtain ⟨s, e, t, he, hm⟩ := max_ex tri tr f (H := b :: r) (by simp)
    rcases tri (f a) (f e) with c | c | c
    · refine ⟨a :: s, e, t, by rw [he]; rfl, fun x hx => ?_⟩
      rcases List.mem_cons.mp hx with e1 | hx
      · rw [e1]; exact .inl c
      · exact hm x hx
    · refine ⟨a :: s, e, t, by rw [he]; rfl, fun x hx => ?_⟩
      rcases List.mem_cons.mp hx with e1 | hx
      · rw [e1]; exact .inr c
      · exact hm x hx
    · refine ⟨[], a, b :: r, rfl, fun x hx => ?_⟩
      have hx : x ∈ b :: r := hx
      rw [he] at hx
      rcases List.mem_append.mp hx with z | z
      · rcases hm x (List.mem_append_left _ z) with w | w
        · exact .inl (tr w c)
        · rw [w]; exact .inl c
      · rcases List.mem_cons.mp z with z | z
        · rw [z]; exact .inl c
        · rcases hm x (List.mem_append_right _ z) with w | w
          · exact .inl (tr w c)
          · rw [w]; exact .inl c
/-- vectors with last places of their own -/
theorem ech_rk (h : Prm P) [Inhabited κ] {lt : κ → κ → Prop} (tri : ∀ a b, lt a b ∨ a = b ∨ lt b a) (tr : ∀ {a b c}, lt a b → lt b c → lt a c) : ∀ (n : Nat) {H : List (κ × (κ → Int))}, H.length = n → (H.map (·.1)).Nodup → (∀ e ∈ H, ¬ P (e.2 e.1) ∧ ∀ c, lt e.1 c → P (e.2 c)) → IsRk P (H.map (·.2)) n
  | 0, H, hl, _, _ => by
    rw [List.length_eq_zero_iff.mp hl]
    exact zero_rk h fun v hv => by cases hv
  | n + 1, H, hl, hn, hH => by
    have hne : H ≠ [] := fun e => by rw [e] at hl; cases hl
    obtain ⟨s, e, t, rfl, hm⟩ := max_ex tri tr (·.1) hne
    have hp : (s ++ e :: t).Perm (e :: (s ++ t)) := List.perm_middle
    have hn2 := (hp.map (·.1)).nodup_iff.mp hn
    rw [List.map_cons] at hn2
    obtain ⟨n1, n2⟩ := List.nodup_cons.mp hn2
    have ih := ech_rk h tri tr n (H := s ++ t) (by have := hp.length_eq; rw [List.length_cons] at this; omega) n2 fun x hx => hH x (hp.mem_iff.mpr (List.mem_cons_of_mem _ hx))
    have := step_rk h (x := e.2) (g := e.1) (hH e (hp.mem_iff.mpr List.mem_cons_self)).1 (fun v hv => by
      obtain ⟨x, hx, rfl⟩ := List.mem_map.mp hv
      rcases hm x hx with w | w
      · exact (hH x (hp.mem_iff.mpr (List.mem_cons_of_mem _ hx))).2 _ w
      · exact absurd (by rw [← w]; exact List.mem_map_of_mem hx) n1) ih
    refine rk_mem (fun v => ?_) this
    have h3 := (hp.map (·.2)).mem_iff (a := v)
    rw [List.map_cons] at h3
    exact h3.symm
/-! ### other names of columns -/
def prd (η : κ → Int) : Nat → (Nat → κ) → Int
  | 0, _ => 1
  | m + 1, c => prd η m c * η (c m)
theorem prd_not (h : Prm P) {η : κ → Int} (hη : ∀ c, ¬ P (η c)) : ∀ (m : Nat) (c : Nat → κ), ¬ P (prd η m c)
  | 0, _ => h.one
  | m + 1, c => h.nmul (prd_not h hη m c) (hη _)
theorem prd_congr {η : κ → Int} : ∀ {m : Nat} {c d : Nat → κ}, (∀ k, k < m → c k = d k) → prd η m c = prd η m d
  | 0, _, _, _ => rfl
  | m + 1, c, d, h => by
    show prd η m c * η (c m) = prd η m d * η (d m)
    rw [prd_congr fun k hk => h k (by omega), h m (by omega)]
theorem prd_sk (η : κ → Int) : ∀ (m : Nat) (c : Nat → κ) (j : Nat), j < m + 1 → prd η (m + 1) c = η (c j) * prd η m fun k => c (sk j k)
  | 0, c, j, hj => by
    have : j = 0 := by omega
    subst this
    show 1 * η (c 0) = η (c 0) * 1
    omega
  | m + 1, c, j, hj => by
    show prd η (m + 1) c * η (c (m + 1)) = η (c j) * ((prd η m fun k => c (sk j k)) * η (c (sk j m)))
    rcases Nat.lt_or_ge j (m + 1) with z | z
    · rw [prd_sk η m c j z, show sk j m = m + 1 by unfold sk; rw [if_neg (by omega)]]
      grind
    · have : j = m + 1 := by omega
      subst this
      have e1 : (prd η m fun k => c (sk (m + 1) k)) = prd η m c := prd_congr fun k hk => by
        show c (sk (m + 1) k) = c k
        rw [show sk (m + 1) k = k by unfold sk; rw [if_pos (by omega)]]
      rw [show sk (m + 1) m = m by unfold sk; rw [if_pos (by omega)], e1]
      show prd η m c * η (c m) * η (c (m + 1)) = _
      grind
theorem dl_relabel {κ' : Type} (h : Prm P) (φ : κ → κ') (η : κ → Int) : ∀ (n : Nat) (l : List (κ → Int)) (l' : List (κ' → Int)), l.length = n → l'.length = n →
    (∀ i (h1 : i < l.length) (h2 : i < l'.length), ∃ e, ¬ P e ∧ ∀ c, l'[i] (φ c) = e * η c * l[i] c) → ∃ e, ¬ P e ∧ ∀ c, dl l' (fun j => φ (c j)) = e * prd η n c * dl l c
  | 0, l, l', h1, h2, _ => by
    refine ⟨1, h.one, fun c => ?_⟩
    rw [List.length_eq_zero_iff.mp h1, List.length_eq_zero_iff.mp h2]
    rfl
  | n + 1, [], _, h1, _, _ => by cases h1
  | n + 1, _ :: _, [], _, h2, _ => by cases h2
  | n + 1, x :: l, x' :: l', h1, h2, hv => by
    have h1 : l.length = n := by simpa using h1
    have h2 : l'.length = n := by simpa using h2
    obtain ⟨e, he, hc⟩ := dl_relabel h φ η n l l' h1 h2 fun i a b => hv (i + 1) (by simpa using a) (by simpa using b)
    obtain ⟨e0, he0, hc0⟩ := hv 0 (by simp) (by simp)
    have hc0 : ∀ c, x' (φ c) = e0 * η c * x c := hc0
    refine ⟨e0 * e, h.nmul he0 he, fun c => ?_⟩
    rw [dl_cons, dl_cons, h2, h1, ← sum_mul]
    refine sum_congr fun j hj => ?_
    rw [hc0 (c j), hc fun k => c (sk j k), prd_sk η n c j hj]
    grind
theorem relabel_min {κ' : Type} (h : Prm P) (φ : κ → κ') (η : κ → Int) (hη : ∀ c, ¬ P (η c)) {R : List (κ → Int)} {R' : List (κ' → Int)} (hR : ∀ v ∈ R, ∃ v' ∈ R', ∃ e, ¬ P e ∧ ∀ c, v' (φ c) = e * η c * v c) {k : Nat} (hm : HasMin P R k) : HasMin P R' k := by
  obtain ⟨l, hl, hlR, c, hc⟩ := hm
  have key : ∀ l : List (κ → Int), (∀ v ∈ l, v ∈ R) → ∃ l' : List (κ' → Int), l'.length = l.length ∧ (∀ v ∈ l', v ∈ R') ∧ ∀ i (h1 : i < l.length) (h2 : i < l'.length), ∃ e, ¬ P e ∧ ∀ c, l'[i] (φ c) = e * η c * l[i] c := by
    intro l
    induction l with
    | nil => intro _; exact ⟨[], rfl, fun _ h => (by cases h), fun i h1 _ => absurd h1 (by simp)⟩
    | cons x l ih =>
      intro hx
      obtain ⟨l', a, b, d⟩ := ih fun v hv => hx v (List.mem_cons_of_mem _ hv)
      obtain ⟨x', hx', e, he, hc⟩ := hR x (hx x List.mem_cons_self)
      refine ⟨x' :: l', by rw [List.length_cons, List.length_cons, a], fun v hv => ?_, fun i h1 h2 => ?_⟩
      · rcases List.mem_cons.mp hv with z | z
        · rw [z]; exact hx'
        · exact b v z
      · cases i with
        | zero => exact ⟨e, he, hc⟩
        | succ i => exact d i (by simpa using h1) (by simpa using h2)
  obtain ⟨l', a, b, d⟩ := key l hlR
  obtain ⟨e, he, hd⟩ := dl_relabel h φ η l.length l l' rfl a d
  exact ⟨l', by rw [a, hl], b, fun j => φ (c j), by rw [hd]; exact h.nmul (h.nmul he (prd_not h hη _ _)) hc⟩
end
end LA

/-! k40, plain: boundaries of sets of corners: they go to nothing twice; cones; other names of corners; bounds. -/
namespace LA
abbrev Crn := List Int
def bd (t c : Crn) : Int := sumN t.length fun i => if t.eraseIdx i = c then sg i else 0
theorem bd_nil (c : Crn) : bd [] c = 0 := rfl
def puF (x : Int) (f : Crn → Int) : Crn → Int
  | [] => 0
  | y :: c => if y = x then f c else 0
theorem bd_cons (x : Int) (t c : Crn) : bd (x :: t) c = (if t = c then 1 else 0) - puF x (bd t) c := by
  show sumN (t.length + 1) (fun i => if (x :: t).eraseIdx i = c then sg i else 0) = _
  rw [sum_front]
  show (if t = c then sg 0 else 0) + sumN t.length (fun i => if x :: t.eraseIdx i = c then sg (i + 1) else 0) = _
  rw [sg_0]
  have e : sumN t.length (fun i => if x :: t.eraseIdx i = c then sg (i + 1) else 0) = -puF x (bd t) c := by
    cases c with
    | nil =>
      rw [sum_congr (g := fun _ => 0) fun i _ => if_neg (by simp), sum_zero]
      rfl
    | cons y c =>
      show _ = -(if y = x then bd t c else 0)
      by_cases h : y = x
      · subst h
        rw [if_pos rfl, show bd t c = sumN t.length fun i => if t.eraseIdx i = c then sg i else 0 from rfl, ← sum_neg]
        refine sum_congr fun i _ => ?_
        by_cases h2 : t.eraseIdx i = c
        · rw [if_pos (by rw [h2]), if_pos h2, sg_succ]
        · rw [if_neg (by intro z; injection z with _ z; exact h2 z), if_neg h2]; rfl
      · rw [if_neg h, sum_congr (g := fun _ => 0) fun i _ => if_neg (by intro z; injection z with z _; exact h z.symm), sum_zero]
        rfl
  rw [e]
  omega
def dd (t c : Crn) : Int := sumN t.length fun i => sg i * bd (t.eraseIdx i) c
theorem dd_zero : ∀ t c : Crn, dd t c = 0
  | [], _ => rfl
  | x :: t, c => by
    unfold dd
    rw [List.length_cons, sum_front]
    show sg 0 * bd t c + sumN t.length (fun i => sg (i + 1) * bd (x :: t.eraseIdx i) c) = 0
    have e : sumN t.length (fun i => sg (i + 1) * bd (x :: t.eraseIdx i) c) = -bd t c + puF x (dd t) c := by
      have e1 : ∀ i, sg (i + 1) * bd (x :: t.eraseIdx i) c = -(if t.eraseIdx i = c then sg i else 0) + sg i * puF x (bd (t.eraseIdx i)) c := fun i => by
        rw [bd_cons, sg_succ]
        by_cases h : t.eraseIdx i = c
        · rw [if_pos h, if_pos h]; grind
        · rw [if_neg h, if_neg h]; grind
      rw [sum_congr fun i _ => e1 i, sum_add, sum_neg]
      congr 1
      cases c with
      | nil =>
        show sumN t.length (fun i => sg i * 0) = 0
        rw [sum_congr (g := fun _ => 0) fun i _ => Int.mul_zero _, sum_zero]
      | cons y c =>
        show sumN t.length (fun i => sg i * if y = x then bd (t.eraseIdx i) c else 0) = if y = x then dd t c else 0
        by_cases h : y = x
        · rw [if_pos h]
          exact sum_congr fun i _ => by rw [if_pos h]
        · rw [if_neg h, sum_congr (g := fun _ => 0) fun i _ => by rw [if_neg h, Int.mul_zero], sum_zero]
    rw [e]
    have : puF x (dd t) c = 0 := by
      cases c with
      | nil => rfl
      | cons y c =>
        show (if y = x then dd t c else 0) = 0
        rw [dd_zero t c]
        split <;> rfl
    rw [this, sg_0]
    omega
/-! ### ascending sets -/
def AscI (t : Crn) : Prop := t.Pairwise (· < ·)
theorem AscI.nodup {t : Crn} (h : AscI t) : t.Nodup := h.imp fun h e => by omega
theorem AscI.erase {t : Crn} (h : AscI t) (i : Nat) : AscI (t.eraseIdx i) := h.sublist (List.eraseIdx_sublist t i)
theorem asc_eqI : ∀ {a b : Crn}, AscI a → AscI b → (∀ x, x ∈ a ↔ x ∈ b) → a = b
  | [], [], _, _, _ => rfl
  | [], y :: b, _, _, h => by have := (h y).mpr List.mem_cons_self; cases this
  | x :: a, [], _, _, h => by have := (h x).mp List.mem_cons_self; cases this
  | x :: a, y :: b, ha, hb, h => by
    have a1 := List.pairwise_cons.mp ha
    have b1 := List.pairwise_cons.mp hb
    have e : x = y := by
      rcases List.mem_cons.mp ((h x).mp List.mem_cons_self) with e | h1
      · exact e
      · rcases List.mem_cons.mp ((h y).mpr List.mem_cons_self) with e | h2
        · exact e.symm
        · have := a1.1 y h2; have := b1.1 x h1; omega
    subst e
    congr 1
    refine asc_eqI a1.2 b1.2 fun z => ?_
    constructor
    · intro hz
      rcases List.mem_cons.mp ((h z).mp (List.mem_cons_of_mem _ hz)) with e | h1
      · have := a1.1 z hz; omega
      · exact h1
    · intro hz
      rcases List.mem_cons.mp ((h z).mpr (List.mem_cons_of_mem _ hz)) with e | h1
      · have := b1.1 z hz; omega
      · exact h1
theorem erase_inj : ∀ {t : Crn}, t.Nodup → ∀ {i j : Nat}, i < t.length → j < t.length → t.eraseIdx i = t.eraseIdx j → i = j
  | [], _, i, _, h, _, _ => by simp at h
  | x :: t, hn, 0, 0, _, _, _ => rfl
  | x :: t, hn, 0, j + 1, _, hj, e => by
    have h1 := List.nodup_cons.mp hn
    have e : t = x :: t.eraseIdx j := e
    exact absurd (by rw [e]; exact List.mem_cons_self) h1.1
  | x :: t, hn, i + 1, 0, hi, _, e => by
    have h1 := List.nodup_cons.mp hn
    have e : x :: t.eraseIdx i = t := e
    exact absurd (by rw [← e]; exact List.mem_cons_self) h1.1
  | x :: t, hn, i + 1, j + 1, hi, hj, e => by
    have h1 := List.nodup_cons.mp hn
    have e : x :: t.eraseIdx i = x :: t.eraseIdx j := e
    injection e with _ e
    rw [erase_inj h1.2 (by simpa using hi) (by simpa using hj) e]
theorem sum_only {f : Nat → Int} {n i : Nat} (hi : i < n) (h : ∀ j, j < n → j ≠ i → f j = 0) : sumN n f = f i := by
  have key : ∀ m, m ≤ n → sumN m f = if i < m then f i else 0 := by
    intro m
    induction m with
    | zero => intro _; rw [if_neg (by omega)]; rfl
    | succ m ih =>
      intro hm
      show sumN m f + f m = _
      rw [ih (by omega)]
      by_cases c : m = i
      · subst c; rw [if_neg (by omega), if_pos (by omega)]; omega
      · rw [h m (by omega) c]
        by_cases c2 : i < m
        · rw [if_pos c2, if_pos (by omega)]; omega
        · rw [if_neg c2, if_neg (by omega)]; rfl
  rw [key n (Nat.le_refl _), if_pos hi]
theorem bd_face {t : Crn} (hn : t.Nodup) {i : Nat} (hi : i < t.length) : bd t (t.eraseIdx i) = sg i := by
  unfold bd
  rw [sum_only hi fun j hj hne => if_neg fun e => hne (erase_inj hn hj hi e), if_pos rfl]
theorem bd_non {t c : Crn} (h : ∀ i, i < t.length → t.eraseIdx i ≠ c) : bd t c = 0 := by
  unfold bd
  rw [sum_congr (g := fun _ => 0) fun i hi => if_neg (h i hi), sum_zero]
theorem bd_abs (t c : Crn) : (bd t c).natAbs ≤ t.length := by
  unfold bd
  have key : ∀ n, (sumN n fun i => if t.eraseIdx i = c then sg i else 0).natAbs ≤ n := by
    intro n
    induction n with
    | zero => exact Nat.le_refl 0
    | succ n ih =>
      show ((sumN n fun i => if t.eraseIdx i = c then sg i else 0) + (if t.eraseIdx n = c then sg n else 0)).natAbs ≤ n + 1
      have : (if t.eraseIdx n = c then sg n else 0).natAbs ≤ 1 := by
        unfold sg
        split
        · split <;> decide
        · decide
      have := Int.natAbs_add_le (sumN n fun i => if t.eraseIdx i = c then sg i else 0) (if t.eraseIdx n = c then sg n else 0)
      omega
  exact key _
/-! ### boundaries of the sets of one size -/
def ofSz (A : List Crn) (s : Nat) : List Crn := A.filter fun t => decide (t.length = s)
def bdR (A : List Crn) (s : Nat) : List (Crn → Int) := (ofSz A s).map bd
theorem mem_ofSz {A : List Crn} {s : Nat} {t : Crn} : t ∈ ofSz A s ↔ t ∈ A ∧ t.length = s := by
  unfold ofSz
  rw [List.mem_filter, decide_eq_true_eq]
theorem mem_bdR {A : List Crn} {s : Nat} {v : Crn → Int} : v ∈ bdR A s ↔ ∃ t, t ∈ A ∧ t.length = s ∧ bd t = v := by
  unfold bdR
  rw [List.mem_map]
  exact ⟨fun ⟨t, h, e⟩ => ⟨t, (mem_ofSz.mp h).1, (mem_ofSz.mp h).2, e⟩, fun ⟨t, h1, h2, e⟩ => ⟨t, mem_ofSz.mpr ⟨h1, h2⟩, e⟩⟩
/-- a family of ascending sets, with each part of a set -/
structure Cpx (A : List Crn) : Prop where
  nd : A.Nodup
  asc : ∀ t ∈ A, AscI t
  dn : ∀ t ∈ A, ∀ i, i < t.length → t.eraseIdx i ∈ A
/-! ### cones -/
section
variable {P : Int → Prop}
theorem diag_rk {κ : Type} [Inhabited κ] (h : Prm P) : ∀ {H : List (κ × (κ → Int))}, (∀ e ∈ H, ¬ P (e.2 e.1)) → H.Pairwise (fun e e' => P (e'.2 e.1)) → IsRk P (H.map (·.2)) H.length
  | [], _, _ => zero_rk h fun _ hv => by cases hv
  | e :: H, h1, h2 => by
    obtain ⟨p1, p2⟩ := List.pairwise_cons.mp h2
    exact step_rk h (h1 e List.mem_cons_self) (fun v hv => by
      obtain ⟨e', he', rfl⟩ := List.mem_map.mp hv
      exact p1 e' he') (diag_rk h (fun e he => h1 e (List.mem_cons_of_mem _ he)) p2)
/-- the family goes with the corner a, which is behind all others -/
structure Cone (A : List Crn) (a : Int) : Prop where
  cx : Cpx A
  le : ∀ t ∈ A, ∀ x ∈ t, x ≤ a
  up : ∀ t ∈ A, a ∉ t → t ++ [a] ∈ A
def withA (A : List Crn) (a : Int) (s : Nat) : List Crn := (ofSz A s).filter fun t => decide (a ∈ t)
theorem mem_withA {A : List Crn} {a : Int} {s : Nat} {t : Crn} : t ∈ withA A a s ↔ t ∈ A ∧ t.length = s ∧ a ∈ t := by
  unfold withA
  rw [List.mem_filter, mem_ofSz, decide_eq_true_eq, and_assoc]
theorem last_of {A : List Crn} {a : Int} (h : Cone A a) {t : Crn} (ht : t ∈ A) (ha : a ∈ t) : ∃ u, t = u ++ [a] ∧ u ∈ A ∧ a ∉ u := by
  obtain ⟨u, w, e⟩ := List.append_of_mem ha
  have hasc := h.cx.asc t ht
  have hw : w = [] := by
    cases w with
    | nil => rfl
    | cons x w =>
      exfalso
      have h1 : x ≤ a := h.le t ht x (by rw [e]; simp)
      rw [e] at hasc
      have h2 := (List.pairwise_append.mp hasc).2.1
      have h3 := (List.pairwise_cons.mp h2).1 x List.mem_cons_self
      omega
  subst hw
  refine ⟨u, e, ?_, fun hu => ?_⟩
  · have := h.cx.dn t ht u.length (by rw [e]; simp)
    rw [e] at this
    rw [List.eraseIdx_append_of_length_le (Nat.le_refl _), Nat.sub_self] at this
    simpa using this
  · rw [e] at hasc
    have := (List.pairwise_append.mp hasc).2.2 a hu a (by simp)
    omega
theorem cone_rk (h : Prm P) {A : List Crn} {a : Int} (hc : Cone A a) (s : Nat) : IsRk P (bdR A s) (withA A a s).length := by
  have hlen : ∀ {t : Crn}, t ∈ withA A a s → ∃ u, t = u ++ [a] ∧ u ∈ A ∧ a ∉ u ∧ u.length + 1 = s := fun ht => by
    obtain ⟨h1, h2, h3⟩ := mem_withA.mp ht
    obtain ⟨u, e, hu, hau⟩ := last_of hc h1 h3
    refine ⟨u, e, hu, hau, ?_⟩
    rw [e, List.length_append] at h2
    exact h2
  have h1 : IsRk P (((withA A a s).map fun t => (t.dropLast, bd t)).map (·.2)) ((withA A a s).map fun t => (t.dropLast, bd t)).length := by
    refine diag_rk h (fun e he => ?_) ?_
    · obtain ⟨t, ht, rfl⟩ := List.mem_map.mp he
      obtain ⟨u, e, hu, hau, hs⟩ := hlen ht
      have hnd : t.Nodup := (hc.cx.asc t (mem_withA.mp ht).1).nodup
      have e2 : t.dropLast = t.eraseIdx u.length := by
        rw [e, List.dropLast_concat, List.eraseIdx_append_of_length_le (Nat.le_refl _), Nat.sub_self]
        simp
      show ¬ P (bd t t.dropLast)
      rw [e2, bd_face hnd (by rw [e]; simp)]
      have : sg u.length = 1 ∨ sg u.length = -1 := by unfold sg; split <;> simp
      have h5 := h.unit this h.one
      rwa [Int.mul_one] at h5
    · refine List.pairwise_map.mpr ?_
      have hnd : (withA A a s).Nodup := (hc.cx.nd.filter _).filter _
      refine List.Pairwise.imp_of_mem (fun {t t'} ht ht' hne => ?_) hnd
      obtain ⟨u, e, hu, hau, hs⟩ := hlen ht
      obtain ⟨u', e', hu', hau', hs'⟩ := hlen ht'
      show P (bd t' t.dropLast)
      rw [bd_non fun i hi z => ?_]
      · exact h.zero
      · rw [e, List.dropLast_concat, e'] at z
        rw [e', List.length_append] at hi
        rcases Nat.lt_or_ge i u'.length with c | c
        · rw [List.eraseIdx_append_of_lt_length c] at z
          exact hau (by rw [← z]; simp)
        · have : i = u'.length := by simp at hi; omega
          subst this
          rw [List.eraseIdx_append_of_length_le (Nat.le_refl _), Nat.sub_self] at z
          have z : u' = u := by simpa using z
          exact hne (by rw [e, e', z])
  rw [List.map_map, List.length_map] at h1
  refine rk_eq h (R := (withA A a s).map bd) (fun v hv => ?_) (fun v hv => ?_) h1
  · obtain ⟨t, ht, hts, rfl⟩ := mem_bdR.mp hv
    by_cases ha : a ∈ t
    · exact span_self h (List.mem_map_of_mem (mem_withA.mpr ⟨ht, hts, ha⟩))
    · have hz := dd_zero (t ++ [a])
      refine ⟨sg t.length, ?_, (List.range t.length).map fun i => (-sg i, bd (t.eraseIdx i ++ [a])), fun e he => ?_, fun c => ?_⟩
      · have : sg t.length = 1 ∨ sg t.length = -1 := by unfold sg; split <;> simp
        have h5 := h.unit this h.one
        rwa [Int.mul_one] at h5
      · obtain ⟨i, hi, rfl⟩ := List.mem_map.mp he
        have hi := List.mem_range.mp hi
        have hm := hc.cx.dn t ht i hi
        refine List.mem_map_of_mem (mem_withA.mpr ⟨hc.up _ hm fun z => ha ((List.eraseIdx_sublist t i).mem z), ?_, by simp⟩)
        rw [List.length_append, List.length_eraseIdx, if_pos hi, List.length_singleton]
        omega
      · have h2 := hz c
        unfold dd at h2
        rw [List.length_append, List.length_singleton] at h2
        have h2 : (sumN t.length fun i => sg i * bd ((t ++ [a]).eraseIdx i) c) + sg t.length * bd ((t ++ [a]).eraseIdx t.length) c = 0 := h2
        rw [List.eraseIdx_append_of_length_le (Nat.le_refl _), Nat.sub_self, show t ++ [a].eraseIdx 0 = t by simp] at h2
        have e1 : (((List.range t.length).map fun i => (-sg i, bd (t.eraseIdx i ++ [a]))).map fun e => e.1 * e.2 c).sum = -sumN t.length fun i => sg i * bd ((t ++ [a]).eraseIdx i) c := by
          rw [List.map_map, ← sum_neg]
          have key : ∀ n, n ≤ t.length → ((List.range n).map ((fun e : Int × (Crn → Int) => e.1 * e.2 c) ∘ fun i => (-sg i, bd (t.eraseIdx i ++ [a])))).sum = sumN n fun i => -(sg i * bd ((t ++ [a]).eraseIdx i) c) := by
            intro n
            induction n with
            | zero => intro _; rfl
            | succ n ih =>
              intro hn
              rw [List.range_succ, List.map_append, List.sum_append, ih (by omega)]
              show _ + ((-sg n) * bd (t.eraseIdx n ++ [a]) c + 0) = _ + -(sg n * bd ((t ++ [a]).eraseIdx n) c)
              rw [List.eraseIdx_append_of_lt_length (by omega)]
              grind
          exact key _ (Nat.le_refl _)
        rw [e1]
        have : sg t.length * bd t c - -(sumN t.length fun i => sg i * bd ((t ++ [a]).eraseIdx i) c) = 0 := by omega
        rw [this]
        exact h.zero
  · obtain ⟨t, ht, rfl⟩ := List.mem_map.mp hv
    obtain ⟨h1, h2, _⟩ := mem_withA.mp ht
    exact span_self h (mem_bdR.mpr ⟨t, h1, h2, rfl⟩)
end
end LA

/-! k40, plain: other names of corners; bounds of minors. -/
namespace LA
/-! ### places in an ascending list -/
theorem count_at : ∀ {L : Crn}, AscI L → ∀ {x : Int}, x ∈ L → (L.countP fun y => decide (y < x)) < L.length ∧ L.eraseIdx (L.countP fun y => decide (y < x)) = L.filter fun y => decide (y ≠ x)
  | [], _, _, h => by cases h
  | a :: L, ha, x, h => by
    obtain ⟨a1, a2⟩ := List.pairwise_cons.mp ha
    rcases List.mem_cons.mp h with e | h
    · subst e
      have hz : (L.countP fun y => decide (y < x)) = 0 := List.countP_eq_zero.mpr fun y hy => by have := a1 y hy; simp; omega
      rw [List.countP_cons_of_neg (by simp), hz, List.filter_cons_of_neg (by simp)]
      refine ⟨by simp, ?_⟩
      show L = _
      exact (List.filter_eq_self.mpr fun y hy => by have := a1 y hy; simp; omega).symm
    · obtain ⟨i1, i2⟩ := count_at a2 h
      have hax := a1 x h
      rw [List.countP_cons_of_pos (by simpa using hax), List.filter_cons_of_pos (by simp; omega)]
      refine ⟨by rw [List.length_cons]; omega, ?_⟩
      show a :: L.eraseIdx _ = _
      rw [i2]
theorem countP_erase {α : Type} (p : α → Bool) : ∀ (l : List α) (i : Nat) (h : i < l.length), l.countP p = (l.eraseIdx i).countP p + if p l[i] then 1 else 0
  | a :: l, 0, _ => by
    show (a :: l).countP p = l.countP p + if p a then 1 else 0
    rw [List.countP_cons]
  | a :: l, i + 1, h => by
    have h' : i < l.length := by simpa using h
    show (a :: l).countP p = (a :: l.eraseIdx i).countP p + if p (l[i]'h') then 1 else 0
    rw [List.countP_cons, List.countP_cons, countP_erase p l i h']
    omega
theorem nd_inj {α : Type} {l : List α} (h : l.Nodup) {i j : Nat} (hi : i < l.length) (hj : j < l.length) (e : l[i] = l[j]) : i = j := by
  rcases Nat.lt_trichotomy i j with c | c | c
  · exact absurd e (List.pairwise_iff_getElem.mp h i j hi hj c)
  · exact c
  · exact absurd e.symm (List.pairwise_iff_getElem.mp h j i hj hi c)
/-! ### signs -/
theorem sg_add (a b : Nat) : sg (a + b) = sg a * sg b := by
  unfold sg
  by_cases ca : a % 2 = 0
  · by_cases cb : b % 2 = 0
    · rw [if_pos ca, if_pos cb, if_pos (by omega)]; rfl
    · rw [if_pos ca, if_neg cb, if_neg (by omega)]; rfl
  · by_cases cb : b % 2 = 0
    · rw [if_neg ca, if_pos cb, if_neg (by omega)]; rfl
    · rw [if_neg ca, if_neg cb, if_pos (by omega)]; rfl
theorem sg_sq (a : Nat) : sg a * sg a = 1 := by unfold sg; split <;> rfl
theorem sg_unit (a : Nat) : sg a = 1 ∨ sg a = -1 := by unfold sg; split <;> simp
theorem sg_not {P : Int → Prop} (h : Prm P) (a : Nat) : ¬ P (sg a) := by
  have h5 := h.unit (sg_unit a) h.one
  rwa [Int.mul_one] at h5
def inv (f : Int → Int) : Crn → Nat
  | [] => 0
  | x :: t => (t.countP fun y => decide (f y < f x)) + inv f t
theorem inv_erase (f : Int → Int) : ∀ (t : Crn) (i : Nat) (h : i < t.length), inv f t = inv f (t.eraseIdx i) + (t.take i).countP (fun y => decide (f t[i] < f y)) + (t.drop (i + 1)).countP fun y => decide (f y < f t[i])
  | x :: t, 0, _ => by
    show (t.countP fun y => decide (f y < f x)) + inv f t = inv f t + 0 + t.countP fun y => decide (f y < f x)
    omega
  | x :: t, i + 1, h => by
    have h : i < t.length := by simpa using h
    have ih := inv_erase f t i h
    show (t.countP fun y => decide (f y < f x)) + inv f t = ((t.eraseIdx i).countP (fun y => decide (f y < f x)) + inv f (t.eraseIdx i)) + (x :: t.take i).countP (fun y => decide (f t[i] < f y)) + (t.drop (i + 1)).countP fun y => decide (f y < f t[i])
    rw [List.countP_cons, countP_erase (fun y => decide (f y < f x)) t i h, ih]
    omega
/-! ### other names -/
def srt (f : Int → Int) (t : Crn) : Crn := (t.map f).mergeSort fun a b => decide (a ≤ b)
theorem mem_srt {f : Int → Int} {t : Crn} {y : Int} : y ∈ srt f t ↔ ∃ x ∈ t, f x = y := by
  unfold srt
  rw [List.mem_mergeSort, List.mem_map]
theorem srt_len (f : Int → Int) (t : Crn) : (srt f t).length = t.length := by unfold srt; rw [List.length_mergeSort, List.length_map]
theorem map_nodup {α β : Type} {f : α → β} : ∀ {l : List α}, l.Nodup → (∀ x ∈ l, ∀ y ∈ l, f x = f y → x = y) → (l.map f).Nodup
  | [], _, _ => List.nodup_nil
  | a :: l, h, hf => by
    obtain ⟨h1, h2⟩ := List.nodup_cons.mp h
    rw [List.map_cons, List.nodup_cons]
    refine ⟨fun z => ?_, map_nodup h2 fun x hx y hy => hf x (List.mem_cons_of_mem _ hx) y (List.mem_cons_of_mem _ hy)⟩
    obtain ⟨b, hb, e⟩ := List.mem_map.mp z
    have := hf b (List.mem_cons_of_mem _ hb) a List.mem_cons_self e
    subst this
    exact h1 hb
/-- names of the corners 0 .. n - 1, each of its own -/
def NmOk (n : Nat) (f : Int → Int) : Prop := ∀ x y : Int, 0 ≤ x → x < n → 0 ≤ y → y < n → f x = f y → x = y
def Good (n : Nat) (t : Crn) : Prop := AscI t ∧ ∀ x ∈ t, 0 ≤ x ∧ x < n
theorem Good.erase {n : Nat} {t : Crn} (h : Good n t) (i : Nat) : Good n (t.eraseIdx i) := ⟨h.1.erase i, fun x hx => h.2 x ((List.eraseIdx_sublist t i).mem hx)⟩
theorem srt_asc {n : Nat} {f : Int → Int} (hf : NmOk n f) {t : Crn} (ht : Good n t) : AscI (srt f t) := by
  have hnd : (srt f t).Nodup := (List.mergeSort_perm _ _).nodup_iff.mpr (map_nodup ht.1.nodup fun x hx y hy => hf x y (ht.2 x hx).1 (ht.2 x hx).2 (ht.2 y hy).1 (ht.2 y hy).2)
  have hs : (srt f t).Pairwise fun a b => decide (a ≤ b) = true := List.pairwise_mergeSort (fun a b c h1 h2 => by simp at *; omega) (fun a b => by simp; omega) _
  exact (hs.and hnd).imp fun {a b} h => by
    have h1 := of_decide_eq_true h.1
    have h2 : a ≠ b := h.2
    omega
theorem srt_face {n : Nat} {f : Int → Int} (hf : NmOk n f) {t : Crn} (ht : Good n t) {i : Nat} (hi : i < t.length) :
    (t.countP fun y => decide (f y < f t[i])) < (srt f t).length ∧ (srt f t).eraseIdx (t.countP fun y => decide (f y < f t[i])) = srt f (t.eraseIdx i) := by
  have hm : f t[i] ∈ srt f t := mem_srt.mpr ⟨_, List.getElem_mem hi, rfl⟩
  have h1 := count_at (srt_asc hf ht) hm
  have e : ((srt f t).countP fun y => decide (y < f t[i])) = t.countP fun y => decide (f y < f t[i]) := by
    unfold srt
    rw [(List.mergeSort_perm _ _).countP_eq, List.countP_map]
    rfl
  rw [e] at h1
  refine ⟨h1.1, ?_⟩
  rw [h1.2]
  refine asc_eqI ((srt_asc hf ht).sublist List.filter_sublist) (srt_asc hf (ht.erase i)) fun y => ?_
  rw [List.mem_filter, mem_srt, mem_srt, decide_eq_true_eq]
  have hti := ht.2 _ (List.getElem_mem hi)
  constructor
  · rintro ⟨⟨x, hx, rfl⟩, hne⟩
    refine ⟨x, ?_, rfl⟩
    rw [List.mem_eraseIdx_iff_getElem]
    obtain ⟨j, hj, e2⟩ := List.mem_iff_getElem.mp hx
    refine ⟨j, hj, fun z => ?_, e2⟩
    subst z
    exact hne (by rw [e2])
  · rintro ⟨x, hx, rfl⟩
    rw [List.mem_eraseIdx_iff_getElem] at hx
    obtain ⟨j, hj, hne, e⟩ := hx
    have hxm : x ∈ t := by rw [← e]; exact List.getElem_mem hj
    refine ⟨⟨x, hxm, rfl⟩, fun z => ?_⟩
    have hxr := ht.2 x hxm
    have := hf _ _ hxr.1 hxr.2 hti.1 hti.2 z
    rw [← e] at this
    exact hne (nd_inj ht.1.nodup hj hi this)
open Classical in
noncomputable def nm (n : Nat) (f : Int → Int) (c : Crn) : Crn := if Good n c then srt f c else [0, 0]
theorem bd_junk {t : Crn} (ht : AscI t) : bd t [0, 0] = 0 := bd_non fun i _ e => by
  have := ht.erase i
  rw [e] at this
  have := (List.pairwise_cons.mp this).1 0 (by simp)
  omega
theorem bd_nm {n : Nat} {f : Int → Int} (hf : NmOk n f) {t : Crn} (ht : Good n t) (c : Crn) : bd (srt f t) (nm n f c) = sg (inv f t) * sg (inv f c) * bd t c := by
  unfold nm
  by_cases hc : Good n c
  · rw [if_pos hc]
    by_cases hx : ∃ i, i < t.length ∧ t.eraseIdx i = c
    · obtain ⟨i, hi, e⟩ := hx
      obtain ⟨h1, h2⟩ := srt_face hf ht hi
      subst e
      rw [← h2, bd_face (srt_asc hf ht).nodup h1, bd_face ht.1.nodup hi, inv_erase f t i hi]
      have hk : (t.countP fun y => decide (f y < f t[i])) = (t.take i).countP (fun y => decide (f y < f t[i])) + (t.drop (i + 1)).countP fun y => decide (f y < f t[i]) := by
        rw [countP_erase _ t i hi, if_neg (by simp), List.eraseIdx_eq_take_drop_succ, List.countP_append]
        omega
      have hti := ht.2 _ (List.getElem_mem hi)
      have hi2 : (t.take i).countP (fun y => decide (f y < f t[i])) + (t.take i).countP (fun y => decide (f t[i] < f y)) = i := by
        have hl : (t.take i).length = i := by rw [List.length_take]; omega
        have h3 := List.length_eq_countP_add_countP (fun y => decide (f y < f t[i])) (l := t.take i)
        rw [hl] at h3
        have h4 : (t.take i).countP (fun y => decide (f t[i] < f y)) = (t.take i).countP fun a => !decide (f a < f t[i]) := by
          refine List.countP_congr fun y hy => ?_
          have hym : y ∈ t := List.mem_of_mem_take hy
          have hyr := ht.2 y hym
          have hne : f y ≠ f t[i] := fun z => by
            have e := hf _ _ hyr.1 hyr.2 hti.1 hti.2 z
            have hlt : y < t[i] := by
              obtain ⟨j, hj, ej⟩ := List.mem_iff_getElem.mp hy
              rw [List.length_take] at hj
              rw [List.getElem_take] at ej
              rw [← ej]
              exact List.pairwise_iff_getElem.mp ht.1 j i (by omega) hi (by omega)
            omega
          simp
          omega
        rw [h4]
        have h5 : (t.take i).countP (fun a => !decide (f a < f t[i])) = (t.take i).countP fun a => decide ¬decide (f a < f t[i]) = true := by
          refine List.countP_congr fun y _ => ?_
          simp
        rw [h5]
        exact h3.symm
      generalize (t.take i).countP (fun y => decide (f y < f t[i])) = a at hk hi2
      generalize (t.take i).countP (fun y => decide (f t[i] < f y)) = b at hi2
      generalize (t.drop (i + 1)).countP (fun y => decide (f y < f t[i])) = d at hk
      rw [hk, ← hi2, sg_add, sg_add, sg_add, sg_add]
      have q1 := sg_sq (inv f (t.eraseIdx i))
      have q2 := sg_sq b
      grind
    · rw [bd_non fun i hi e => hx ⟨i, hi, e⟩, Int.mul_zero]
      refine bd_non fun k hk e => hx ?_
      have hkm : (srt f t)[k] ∈ srt f t := List.getElem_mem hk
      obtain ⟨x, hxm, ex⟩ := mem_srt.mp hkm
      obtain ⟨i, hi, ei⟩ := List.mem_iff_getElem.mp hxm
      refine ⟨i, hi, ?_⟩
      obtain ⟨h1, h2⟩ := srt_face hf ht hi
      have hkk : k = t.countP fun y => decide (f y < f t[i]) := by
        have h3 := count_at (srt_asc hf ht) hkm
        have e3 : ((srt f t).countP fun y => decide (y < (srt f t)[k])) = k := by
          refine erase_inj (srt_asc hf ht).nodup h3.1 hk ?_
          rw [h3.2]
          refine asc_eqI ((srt_asc hf ht).sublist List.filter_sublist) ((srt_asc hf ht).erase k) fun y => ?_
          rw [List.mem_filter, decide_eq_true_eq, List.mem_eraseIdx_iff_getElem]
          constructor
          · rintro ⟨hy, hne⟩
            obtain ⟨j, hj, ej⟩ := List.mem_iff_getElem.mp hy
            exact ⟨j, hj, fun z => by subst z; exact hne ej.symm, ej⟩
          · rintro ⟨j, hj, hne, ej⟩
            refine ⟨by rw [← ej]; exact List.getElem_mem hj, fun z => hne ?_⟩
            rw [← ej] at z
            exact nd_inj (srt_asc hf ht).nodup hj hk z
        rw [← e3, ei, ex]
        have e4 : ((srt f t).countP fun y => decide (y < (srt f t)[k])) = t.countP fun y => decide (f y < (srt f t)[k]) := by
          have : (srt f t).Perm (t.map f) := List.mergeSort_perm _ _
          rw [this.countP_eq, List.countP_map]
          rfl
        exact e4
      rw [hkk, h2] at e
      refine asc_eqI (ht.erase i).1 hc.1 fun y => ?_
      have hg := ht.erase i
      constructor
      · intro hy
        have : f y ∈ srt f c := by rw [← e]; exact mem_srt.mpr ⟨y, hy, rfl⟩
        obtain ⟨z, hz, ez⟩ := mem_srt.mp this
        have hyr := hg.2 y hy
        have hzr := hc.2 z hz
        rw [← hf _ _ hzr.1 hzr.2 hyr.1 hyr.2 ez]
        exact hz
      · intro hy
        have : f y ∈ srt f (t.eraseIdx i) := by rw [e]; exact mem_srt.mpr ⟨y, hy, rfl⟩
        obtain ⟨z, hz, ez⟩ := mem_srt.mp this
        have hyr := hc.2 y hy
        have hzr := hg.2 z hz
        rw [← hf _ _ hzr.1 hzr.2 hyr.1 hyr.2 ez]
        exact hz
  · rw [if_neg hc, bd_junk (srt_asc hf ht), bd_non fun i hi e => hc (by rw [← e]; exact ht.erase i), Int.mul_zero]
section
variable {P : Int → Prop}
theorem nm_min (h : Prm P) {n : Nat} {f : Int → Int} (hf : NmOk n f) {A B : List Crn} (hA : ∀ t ∈ A, Good n t) (hB : ∀ t ∈ A, srt f t ∈ B) {s k : Nat} (hm : HasMin P (bdR A s) k) : HasMin P (bdR B s) k :=
  relabel_min h (nm n f) (fun c => sg (inv f c)) (fun c => sg_not h _) (fun v hv => by
    obtain ⟨t, ht, hs, rfl⟩ := mem_bdR.mp hv
    exact ⟨bd (srt f t), mem_bdR.mpr ⟨srt f t, hB t ht, by rw [srt_len, hs], rfl⟩, sg (inv f t), sg_not h _, fun c => bd_nm hf (hA t ht) c⟩) hm
/-! ### bounds -/
def fb (B : Nat) : Nat → Nat
  | 0 => 1
  | k + 1 => (k + 1) * B * fb B k
theorem sum_abs {f : Nat → Int} {b : Nat} : ∀ {n : Nat}, (∀ i, i < n → (f i).natAbs ≤ b) → (sumN n f).natAbs ≤ n * b
  | 0, _ => by show (0 : Int).natAbs ≤ 0 * b; simp
  | n + 1, h => by
    have h1 := sum_abs (n := n) fun i hi => h i (by omega)
    have h2 := h n (by omega)
    have h3 := Int.natAbs_add_le (sumN n f) (f n)
    show (sumN n f + f n).natAbs ≤ (n + 1) * b
    rw [Nat.succ_mul]
    omega
theorem dl_abs {κ : Type} {B : Nat} : ∀ {l : List (κ → Int)} (c : Nat → κ), (∀ v ∈ l, ∀ c, (v c).natAbs ≤ B) → (dl l c).natAbs ≤ fb B l.length
  | [], c, _ => by rw [dl_nil]; exact Nat.le_refl 1
  | x :: l, c, h => by
    rw [dl_cons]
    have h1 := sum_abs (f := fun j => sg j * x (c j) * dl l fun k => c (sk j k)) (b := B * fb B l.length) (n := l.length + 1) fun j _ => by
      have a1 := h x List.mem_cons_self (c j)
      have a2 := dl_abs (fun k => c (sk j k)) fun v hv => h v (List.mem_cons_of_mem _ hv)
      rw [Int.natAbs_mul, Int.natAbs_mul]
      have a3 : (sg j).natAbs = 1 := by rcases sg_unit j with e | e <;> rw [e] <;> rfl
      rw [a3, Nat.one_mul]
      exact Nat.mul_le_mul a1 a2
    refine Nat.le_trans h1 ?_
    show (l.length + 1) * (B * fb B l.length) ≤ (l.length + 1) * B * fb B l.length
    rw [Nat.mul_assoc]
    exact Nat.le_refl _
theorem min_far {κ : Type} {R : List (κ → Int)} {B k p : Nat} (hR : ∀ v ∈ R, ∀ c, (v c).natAbs ≤ B) (hb : fb B k < p) (hm : HasMin (fun x : Int => x = 0) R k) : HasMin (modP p) R k := by
  obtain ⟨l, hl, hlR, c, hc⟩ := hm
  refine ⟨l, hl, hlR, c, fun hd => hc ?_⟩
  have h1 := dl_abs c fun v hv => hR v (hlR v hv)
  rw [hl] at h1
  have h2 : p ∣ (dl l c).natAbs := by
    have := Int.natAbs_dvd_natAbs.mpr hd
    rwa [Int.natAbs_natCast] at this
  have := Nat.eq_zero_of_dvd_of_lt h2 (by omega)
  omega
theorem min_of_mod {κ : Type} {R : List (κ → Int)} {k p : Nat} (hm : HasMin (modP p) R k) : HasMin (fun x : Int => x = 0) R k := by
  obtain ⟨l, hl, hlR, c, hc⟩ := hm
  exact ⟨l, hl, hlR, c, fun z => hc (by rw [z]; exact Int.dvd_zero _)⟩
end
end LA

/-! k40, the plain law: holes by ranks. -/
namespace LA
noncomputable def rk (P : Int → Prop) (A : List Crn) (s : Nat) : Nat := rkOf P (bdR A s)
def many (A : List Crn) (s : Nat) : Nat := (ofSz A s).length
def topOf : List Crn → Nat
  | [] => 0
  | t :: A => max t.length (topOf A)
theorem top_ge : ∀ {A : List Crn} {t : Crn}, t ∈ A → t.length ≤ topOf A
  | a :: A, t, h => by
    show t.length ≤ max a.length (topOf A)
    rcases List.mem_cons.mp h with e | h
    · rw [e]; omega
    · have := top_ge h; omega
theorem top_ex : ∀ {A : List Crn}, A ≠ [] → ∃ t ∈ A, t.length = topOf A
  | [a], _ => ⟨a, List.mem_cons_self, by show a.length = max a.length 0; omega⟩
  | a :: b :: A, _ => by
    obtain ⟨t, ht, e⟩ := top_ex (A := b :: A) (by simp)
    by_cases c : topOf (b :: A) ≤ a.length
    · exact ⟨a, List.mem_cons_self, by show a.length = max a.length (topOf (b :: A)); omega⟩
    · exact ⟨t, List.mem_cons_of_mem _ ht, by show t.length = max a.length (topOf (b :: A)); omega⟩
theorem top_uniq {A : List Crn} {m : Nat} (h1 : ∃ t ∈ A, t.length = m) (h2 : ∀ t ∈ A, t.length ≤ m) : topOf A = m := by
  obtain ⟨t, ht, e⟩ := h1
  have h3 := top_ge ht
  obtain ⟨u, hu, e2⟩ := top_ex (A := A) (fun e => by rw [e] at ht; cases ht)
  have := h2 u hu
  omega
noncomputable def holesV (P : Int → Prop) (A : List Crn) : List Int := if A = [] then [] else (List.range (topOf A + 1)).map fun s => (many A s : Int) - (rk P A s : Nat) - (rk P A (s + 1) : Nat)
section
variable {P Q : Int → Prop}
theorem rk_is (h : Prm P) (A : List Crn) (s : Nat) : IsRk P (bdR A s) (rk P A s) := rkOf_is h _
theorem rk_of (h : Prm P) {A : List Crn} {s k : Nat} (hk : IsRk P (bdR A s) k) : rk P A s = k := hk.of h
theorem rk_0 (h : Prm P) (A : List Crn) : rk P A 0 = 0 := rk_of h (zero_rk h fun v hv c => by
  obtain ⟨t, _, hs, rfl⟩ := mem_bdR.mp hv
  rw [List.length_eq_zero_iff.mp hs, bd_nil]
  exact h.zero)
theorem rk_top (h : Prm P) {A : List Crn} {s : Nat} (hs : topOf A < s) : rk P A s = 0 := rk_of h (zero_rk h fun v hv c => by
  obtain ⟨t, ht, hs2, _⟩ := mem_bdR.mp hv
  have := top_ge ht
  omega)
theorem many_pos {A : List Crn} {s : Nat} : 0 < many A s ↔ ∃ t ∈ A, t.length = s := by
  unfold many
  rw [List.length_pos_iff_exists_mem]
  exact ⟨fun ⟨t, h⟩ => ⟨t, mem_ofSz.mp h⟩, fun ⟨t, h1, h2⟩ => ⟨t, mem_ofSz.mpr ⟨h1, h2⟩⟩⟩
theorem hol_congr {A B : List Crn} (hm : ∀ s, many A s = many B s) (hr : ∀ s, rk P A s = rk Q B s) : holesV P A = holesV Q B := by
  unfold holesV
  have key : ∀ {A B : List Crn}, (∀ s, many A s = many B s) → A = [] → B = [] := by
    intro A B hm e
    subst e
    cases B with
    | nil => rfl
    | cons b B =>
      have := many_pos.mpr ⟨b, List.mem_cons_self (l := B), rfl⟩
      rw [← hm] at this
      exact absurd this (by show ¬ 0 < 0; omega)
  by_cases c : A = []
  · rw [if_pos c, if_pos (key hm c)]
  · have cB : B ≠ [] := fun e => c (key (fun s => (hm s).symm) e)
    have ht : topOf A = topOf B := by
      obtain ⟨t, h1, h2⟩ := top_ex cB
      refine top_uniq ?_ fun t ht => ?_
      · have := many_pos.mp (show 0 < many A (topOf B) by rw [hm]; exact many_pos.mpr ⟨t, h1, h2⟩)
        exact this
      · obtain ⟨u, hu, e⟩ := many_pos.mp (show 0 < many B t.length by rw [← hm]; exact many_pos.mpr ⟨t, ht, rfl⟩)
        rw [← e]
        exact top_ge hu
    rw [if_neg c, if_neg cB, ht]
    refine List.map_congr_left fun s _ => ?_
    rw [hm, hr, hr]
theorem hol_len {A : List Crn} : (holesV P A).length = if A = [] then 0 else topOf A + 1 := by
  unfold holesV
  split
  · rfl
  · rw [List.length_map, List.length_range]
/-! ### ranks over the fractions and below primes -/
theorem rk_le {p : Nat} (h : Irr p) (A : List Crn) (s : Nat) : rk (modP p) A s ≤ rk (fun x => x = 0) A s := by
  have h1 := (rk_is (prm_mod h) A s).1
  have h2 := min_of_mod h1
  exact Nat.not_lt.mp fun c => (rk_is prm_zero A s).2 (min_le prm_zero h2 c)
theorem rk_same {p B : Nat} (h : Irr p) (A : List Crn) (s : Nat) (hB : ∀ t ∈ A, t.length = s → t.length ≤ B) (hb : fb B (rk (fun x => x = 0) A s) < p) : rk (modP p) A s = rk (fun x => x = 0) A s := by
  have h0 := rk_le h A s
  have h1 := min_far (B := B) (fun v hv c => by
    obtain ⟨t, ht, hs, rfl⟩ := mem_bdR.mp hv
    exact Nat.le_trans (bd_abs t c) (hB t ht hs)) hb (rk_is prm_zero A s).1
  have : ¬ rk (modP p) A s < rk (fun x => x = 0) A s := fun c => (rk_is (prm_mod h) A s).2 (min_le (prm_mod h) h1 c)
  omega
theorem rk_mono (h : Prm P) {A B : List Crn} (hs : ∀ t ∈ A, t ∈ B) (s : Nat) : rk P A s ≤ rk P B s := by
  obtain ⟨l, h1, h2, h3⟩ := (rk_is h A s).1
  have : HasMin P (bdR B s) (rk P A s) := ⟨l, h1, fun v hv => by
    obtain ⟨t, a, b, e⟩ := mem_bdR.mp (h2 v hv)
    exact mem_bdR.mpr ⟨t, hs t a, b, e⟩, h3⟩
  exact Nat.not_lt.mp fun c => (rk_is h B s).2 (min_le h this c)
/-! ### the sum with signs -/
theorem sum_range (f : Nat → Int) : ∀ n : Nat, ((List.range n).map f).sum = sumN n f
  | 0 => rfl
  | n + 1 => by
    rw [List.range_succ, List.map_append, List.sum_append, sum_range f n]
    show sumN n f + (f n + 0) = sumN n f + f n
    omega
def sgT (t : Crn) : Int := if (t.length : Int) % 2 = 1 then 1 else -1
def alt (L : List Int) : Int := ((List.range L.length).map fun i : Nat => if ((i : Nat) : Int) % 2 = 1 then L.getD i 0 else 0 - L.getD i 0).sum
theorem sgT_sg (t : Crn) : sgT t = -sg t.length := by
  unfold sgT sg
  split <;> split <;> omega
theorem sum_many : ∀ (A : List Crn) (T : Nat), (∀ t ∈ A, t.length ≤ T) → sumN (T + 1) (fun s => sg s * (many A s : Int)) = (A.map fun t => sg t.length).sum
  | [], T, _ => by
    have : ∀ n, sumN n (fun s => sg s * (many [] s : Int)) = 0 := fun n => by
      rw [sum_congr (g := fun _ => 0) fun i _ => by show sg i * ((0 : Nat) : Int) = 0; simp]
      exact sum_zero n
    rw [this]
    rfl
  | t :: A, T, h => by
    have ih := sum_many A T fun u hu => h u (List.mem_cons_of_mem _ hu)
    have ht := h t List.mem_cons_self
    rw [List.map_cons, List.sum_cons, ← ih]
    have e1 : ∀ s, sg s * (many (t :: A) s : Int) = sg s * (if s = t.length then 1 else 0) + sg s * (many A s : Int) := fun s => by
      unfold many ofSz
      rw [List.filter_cons]
      by_cases c : t.length = s
      · rw [if_pos (decide_eq_true c), if_pos c.symm, List.length_cons]
        rw [Int.natCast_add, Int.mul_add]
        omega
      · rw [if_neg (by simpa using c), if_neg (fun z => c z.symm)]
        omega
    rw [sum_congr fun s _ => e1 s, sum_add]
    congr 1
    rw [sum_only (i := t.length) (by omega) fun j _ hj => by rw [if_neg hj, Int.mul_zero], if_pos rfl, Int.mul_one]
theorem tele (r : Nat → Int) : ∀ n : Nat, sumN n (fun s => sg s * (r s + r (s + 1))) = r 0 - sg n * r n
  | 0 => by show (0 : Int) = r 0 - sg 0 * r 0; rw [sg_0]; omega
  | n + 1 => by
    show sumN n (fun s => sg s * (r s + r (s + 1))) + sg n * (r n + r (n + 1)) = _
    rw [tele r n, sg_succ, Int.mul_add, Int.neg_mul]
    omega
theorem euler_law (h : Prm P) (A : List Crn) : alt (holesV P A) = (A.map sgT).sum := by
  by_cases c : A = []
  · subst c
    unfold alt holesV
    rfl
  · have h1 : (holesV P A).length = topOf A + 1 := by rw [hol_len, if_neg c]
    unfold alt
    rw [h1, sum_range]
    have e : ∀ s, s < topOf A + 1 → (if (s : Int) % 2 = 1 then (holesV P A).getD s 0 else 0 - (holesV P A).getD s 0) = -(sg s * (many A s : Int)) + sg s * ((rk P A s : Nat) + (rk P A (s + 1) : Nat)) := fun s hs => by
      have e2 : (holesV P A).getD s 0 = (many A s : Int) - (rk P A s : Nat) - (rk P A (s + 1) : Nat) := by
        unfold holesV
        rw [if_neg c, List.getD_eq_getElem?_getD, List.getElem?_map, List.getElem?_range hs]
        rfl
      rw [e2]
      unfold sg
      split <;> split <;> omega
    rw [sum_congr e, sum_add, tele fun s => ((rk P A s : Nat) : Int), rk_0 h, rk_top h (Nat.lt_succ_self _), sum_neg, sum_many A (topOf A) fun t ht => top_ge ht]
    have : (A.map sgT).sum = -(A.map fun t => sg t.length).sum := by
      clear c h1 e
      induction A with
      | nil => rfl
      | cons a A ih => rw [List.map_cons, List.map_cons, List.sum_cons, List.sum_cons, ih, sgT_sg]; omega
    rw [this]
    simp
/-! ### cones have no holes -/
theorem part_len {α : Type} (p : α → Bool) : ∀ l : List α, (l.filter p).length + (l.filter fun x => !p x).length = l.length
  | [] => rfl
  | a :: l => by
    have ih := part_len p l
    rw [List.filter_cons, List.filter_cons]
    by_cases c : p a = true
    · rw [if_pos c, if_neg (by rw [c]; decide), List.length_cons, List.length_cons]; omega
    · have c2 : p a = false := by simpa using c
      rw [if_neg c, if_pos (by rw [c2]; rfl), List.length_cons, List.length_cons]; omega
theorem cone_many {A : List Crn} {a : Int} (h : Cone A a) (s : Nat) : many A s = (withA A a s).length + (withA A a (s + 1)).length := by
  unfold many
  rw [← part_len (fun t => decide (a ∈ t)) (ofSz A s)]
  have hnd : ∀ s, (ofSz A s).Nodup := fun s => h.cx.nd.filter _
  show (withA A a s).length + _ = _
  congr 1
  refine Nat.le_antisymm ?_ ?_
  · have nd : (((ofSz A s).filter fun t => !decide (a ∈ t)).map (· ++ [a])).Nodup := map_nodup ((hnd s).filter _) fun x _ y _ e => List.append_cancel_right e
    have := nodup_sub_len nd (m := withA A a (s + 1)) fun t ht => by
      obtain ⟨u, hu, rfl⟩ := List.mem_map.mp ht
      obtain ⟨h1, h2⟩ := List.mem_filter.mp hu
      obtain ⟨h3, h4⟩ := mem_ofSz.mp h1
      exact mem_withA.mpr ⟨h.up u h3 (by simpa using h2), by rw [List.length_append, h4]; rfl, by simp⟩
    rwa [List.length_map] at this
  · have nd : ((withA A a (s + 1)).map List.dropLast).Nodup := map_nodup ((hnd (s + 1)).filter _) fun x hx y hy e => by
      obtain ⟨x1, x2, x3⟩ := mem_withA.mp hx
      obtain ⟨y1, y2, y3⟩ := mem_withA.mp hy
      obtain ⟨u, rfl, _, _⟩ := last_of h x1 x3
      obtain ⟨v, rfl, _, _⟩ := last_of h y1 y3
      rw [List.dropLast_concat, List.dropLast_concat] at e
      rw [e]
    have := nodup_sub_len nd (m := (ofSz A s).filter fun t => !decide (a ∈ t)) fun t ht => by
      obtain ⟨u, hu, rfl⟩ := List.mem_map.mp ht
      obtain ⟨h1, h2, h3⟩ := mem_withA.mp hu
      obtain ⟨v, rfl, h4, h5⟩ := last_of h h1 h3
      rw [List.dropLast_concat]
      exact List.mem_filter.mpr ⟨mem_ofSz.mpr ⟨h4, by rw [List.length_append] at h2; simpa using h2⟩, by simpa using h5⟩
    rwa [List.length_map] at this
theorem cone_holes (h : Prm P) {A : List Crn} {a : Int} (hc : Cone A a) : (holesV P A).sum = 0 := by
  unfold holesV
  split
  · rfl
  · rw [sum_range, sum_congr (g := fun _ => 0) fun s _ => ?_, sum_zero]
    rw [rk_of h (cone_rk h hc s), rk_of h (cone_rk h hc (s + 1)), cone_many hc s]
    omega
/-! ### ranks found by taking off -/
def fn (v : List Int) (j : Nat) : Int := v.getD j 0
def offR (p : Int) (j : Nat) (x v : List Int) : List Int := List.zipWith (fun a b => (x.getD j 0 * a - v.getD j 0 * b) % p) v x
def elR (p : Int) : Nat → Nat → List (List Int) → Nat
  | 0, _, _ => 0
  | f + 1, j, R => match R.find? fun v => decide (v.getD j 0 % p ≠ 0) with
    | none => elR p f (j + 1) R
    | some x => 1 + elR p f (j + 1) (R.map (offR p j x))
theorem fn_off {p : Int} {j : Nat} {x v : List Int} (hl : v.length = x.length) (c : Nat) : ∃ k, fn (offR p j x v) c = fn x j * fn v c - fn v j * fn x c - p * k := by
  unfold offR fn
  rw [List.getD_eq_getElem?_getD, List.getElem?_zipWith]
  by_cases hc : c < v.length
  · rw [List.getElem?_eq_getElem hc, List.getElem?_eq_getElem (show c < x.length by omega)]
    refine ⟨(x.getD j 0 * v[c] - v.getD j 0 * x[c]) / p, ?_⟩
    rw [List.getD_eq_getElem?_getD (l := v) (i := c), List.getElem?_eq_getElem hc, List.getD_eq_getElem?_getD (l := x) (i := c), List.getElem?_eq_getElem (show c < x.length by omega)]
    show (x.getD j 0 * v[c] - v.getD j 0 * x[c]) % p = _
    rw [Int.emod_def]
    rfl
  · refine ⟨0, ?_⟩
    rw [List.getElem?_eq_none (Nat.not_lt.mp hc), List.getD_eq_getElem?_getD (l := v) (i := c), List.getElem?_eq_none (Nat.not_lt.mp hc), List.getD_eq_getElem?_getD (l := x) (i := c), List.getElem?_eq_none (show x.length ≤ c by omega)]
    simp
theorem elR_is {p w : Nat} (h : Irr p) : ∀ (f j : Nat) (R : List (List Int)), w ≤ f + j → (∀ v ∈ R, v.length = w) → (∀ v ∈ R, ∀ c, c < j → modP p (fn v c)) → IsRk (modP p) (R.map fn) (elR p f j R)
  | 0, j, R, hw, hl, hz => zero_rk (prm_mod h) fun v hv c => by
    obtain ⟨r, hr, rfl⟩ := List.mem_map.mp hv
    by_cases hc : c < j
    · exact hz r hr c hc
    · have : fn r c = 0 := by
        unfold fn
        rw [List.getD_eq_getElem?_getD, List.getElem?_eq_none (by rw [hl r hr]; omega)]
        rfl
      rw [this]
      exact (prm_mod h).zero
  | f + 1, j, R, hw, hl, hz => by
    have hmod : ∀ y : Int, y % (p : Int) = 0 → modP p y := fun y e => Int.dvd_of_emod_eq_zero e
    rw [elR]
    split
    · rename_i e
      refine elR_is h f (j + 1) R (by omega) hl fun v hv c hc => ?_
      by_cases c1 : c < j
      · exact hz v hv c c1
      · have := List.find?_eq_none.mp e v hv
        have e2 : c = j := by omega
        subst e2
        exact hmod _ (by unfold fn; rw [List.getD_eq_getElem?_getD]; simpa using this)
    · rename_i x e
      have hx := List.mem_of_find?_eq_some e
      have hxj : ¬ modP p (fn x j) := fun z => by
        have := List.find?_some e
        have h2 := Int.emod_eq_zero_of_dvd z
        simp only [decide_eq_true_eq] at this
        exact this h2
      have hoff : ∀ v ∈ R, ∀ c, modP p (fn (offR p j x v) c - (fn x j * fn v c - fn v j * fn x c)) := fun v hv c => by
        obtain ⟨k, e⟩ := fn_off (p := (p : Int)) (j := j) (x := x) (v := v) (by rw [hl v hv, hl x hx]) c
        exact ⟨-k, by rw [e]; grind⟩
      have ih := elR_is (w := w) h f (j + 1) (R.map (offR p j x)) (by omega) (fun v hv => by
        obtain ⟨r, hr, rfl⟩ := List.mem_map.mp hv
        unfold offR
        rw [List.length_zipWith, hl r hr, hl x hx]
        omega) fun v hv c hc => by
        obtain ⟨r, hr, rfl⟩ := List.mem_map.mp hv
        have h1 := hoff r hr c
        have h2 : modP p (fn x j * fn r c - fn r j * fn x c) := by
          by_cases c1 : c < j
          · exact (prm_mod h).sub ((prm_mod h).mul _ (hz r hr c c1)) ((prm_mod h).mul _ (hz x hx c c1))
          · have e2 : c = j := by omega
            subst e2
            rw [show fn x c * fn r c - fn r c * fn x c = 0 by grind]
            exact (prm_mod h).zero
        have := (prm_mod h).add h1 h2
        rwa [show fn (offR p j x r) c - (fn x j * fn r c - fn r j * fn x c) + (fn x j * fn r c - fn r j * fn x c) = fn (offR p j x r) c by omega] at this
      have := elim_rk (prm_mod h) (x := fn x) (R := R.map fn) (R' := (R.map (offR p j x)).map fn) (g := j) hxj (fun v' hv' => by
        obtain ⟨r', hr', rfl⟩ := List.mem_map.mp hv'
        obtain ⟨r, hr, rfl⟩ := List.mem_map.mp hr'
        refine ⟨?_, fn r, List.mem_map_of_mem hr, fn x j, fn r j, hoff r hr⟩
        have h1 := hoff r hr j
        rw [show fn x j * fn r j - fn r j * fn x j = 0 by grind, Int.sub_zero] at h1
        exact h1) (fun v hv => by
        obtain ⟨r, hr, rfl⟩ := List.mem_map.mp hv
        exact ⟨fn (offR p j x r), List.mem_map_of_mem (List.mem_map_of_mem hr), fn x j, fn r j, hxj, hoff r hr⟩) ih
      rw [show 1 + elR p f (j + 1) (R.map (offR p j x)) = elR p f (j + 1) (R.map (offR p j x)) + 1 by omega]
      refine rk_mem (fun v => ?_) this
      rw [List.mem_cons]
      exact ⟨fun z => z.elim (fun e => by rw [e]; exact List.mem_map_of_mem hx) id, .inr⟩
/-! ### the rows of a table -/
def dense (A : List Crn) (s : Nat) : List (List Int) := (ofSz A s).map fun t => (ofSz A (s - 1)).map (bd t)
theorem dense_rk (h : Prm P) {A : List Crn} (hA : Cpx A) (s k : Nat) : IsRk P (bdR A s) k ↔ IsRk P ((dense A s).map fn) k := by
  have hat : ∀ (t : Crn) (j : Nat), fn ((ofSz A (s - 1)).map (bd t)) j = if j < (ofSz A (s - 1)).length then bd t ((ofSz A (s - 1)).getD j []) else 0 := fun t j => by
    unfold fn
    rw [List.getD_eq_getElem?_getD, List.getElem?_map]
    split
    · rename_i c
      rw [List.getD_eq_getElem?_getD, List.getElem?_eq_getElem c]
      rfl
    · rename_i c
      rw [List.getElem?_eq_none (Nat.not_lt.mp c)]
      rfl
  have hnd : (ofSz A (s - 1)).Nodup := hA.nd.filter _
  have key1 : ∀ j, HasMin P (bdR A s) j → HasMin P ((dense A s).map fn) j := fun j hm => relabel_min h (fun c => (ofSz A (s - 1)).idxOf c) (fun _ => 1) (fun _ => h.one) (fun v hv => by
    obtain ⟨t, ht, hs, rfl⟩ := mem_bdR.mp hv
    refine ⟨fn ((ofSz A (s - 1)).map (bd t)), List.mem_map_of_mem (List.mem_map_of_mem (mem_ofSz.mpr ⟨ht, hs⟩)), 1, h.one, fun c => ?_⟩
    rw [hat]
    by_cases hc : c ∈ ofSz A (s - 1)
    · have h1 := List.idxOf_lt_length_of_mem hc
      rw [if_pos h1, List.getD_eq_getElem?_getD, List.getElem?_eq_getElem h1, List.getElem_idxOf h1]
      show bd t c = 1 * 1 * bd t c
      omega
    · rw [if_neg (fun z => hc (List.idxOf_lt_length_iff.mp z)), bd_non (t := t) (c := c) fun i hi e => hc (mem_ofSz.mpr ⟨by rw [← e]; exact hA.dn t ht i hi, by rw [← e, List.length_eraseIdx_of_lt hi, hs]⟩)]
      rfl) hm
  have key2 : ∀ j, HasMin P ((dense A s).map fn) j → HasMin P (bdR A s) j := fun j hm => relabel_min h (fun i => if i < (ofSz A (s - 1)).length then (ofSz A (s - 1)).getD i [] else [0, 0]) (fun _ => 1) (fun _ => h.one) (fun v hv => by
    obtain ⟨r, hr, rfl⟩ := List.mem_map.mp hv
    obtain ⟨t, ht, rfl⟩ := List.mem_map.mp hr
    obtain ⟨ht1, ht2⟩ := mem_ofSz.mp ht
    refine ⟨bd t, mem_bdR.mpr ⟨t, ht1, ht2, rfl⟩, 1, h.one, fun c => ?_⟩
    rw [hat]
    split
    · show bd t _ = 1 * 1 * bd t _
      omega
    · rw [bd_junk (hA.asc t ht1)]
      rfl) hm
  exact ⟨fun z => ⟨key1 _ z.1, fun y => z.2 (key2 _ y)⟩, fun z => ⟨key2 _ z.1, fun y => z.2 (key1 _ y)⟩⟩
end
end LA

/-! k40: the families of the law, their holes. -/
namespace DL
theorem drops_erase (x : List Int) : dropsL x = (List.range x.length).map fun i => x.eraseIdx i := by
  unfold dropsL
  refine List.map_congr_left fun i _ => ?_
  rw [List.eraseIdx_eq_take_drop_succ]
theorem sub_good {n : Nat} {x : List Int} (h : x ∈ subsL n) : LA.Good n x := ⟨(subs_iff.mp h).1, fun i hi => (subs_iff.mp h).2 i hi⟩
theorem good_sub {n : Nat} {x : List Int} (h : LA.Good n x) : x ∈ subsL n := subs_iff.mpr ⟨h.1, h.2⟩
theorem all_mem {n : Nat} {S : List (List Int)} {x : List Int} : x ∈ allL n S ↔ x ∈ subsL n ∧ ∃ s ∈ S, ∀ i ∈ x, i ∈ s := by
  rw [allL_mem, inL_mem]
  refine and_congr_right fun _ => ⟨fun ⟨s, h1, h2⟩ => ⟨s, h1, insB_iff.mp h2⟩, fun ⟨s, h1, h2⟩ => ⟨s, h1, insB_iff.mpr h2⟩⟩
theorem all_cpx (n : Nat) (S : List (List Int)) : LA.Cpx (allL n S) where
  nd := allL_nodup n S
  asc := fun t ht => (sub_good (allL_sub ht)).1
  dn := fun t ht i hi => by
    obtain ⟨h1, s, h2, h3⟩ := all_mem.mp ht
    exact all_mem.mpr ⟨good_sub ((sub_good h1).erase i), s, h2, fun y hy => h3 y ((List.eraseIdx_sublist t i).mem hy)⟩
theorem subs_cpx (n : Nat) : LA.Cpx (subsL n) where
  nd := subs_nodup n
  asc := fun t ht => (sub_good ht).1
  dn := fun t ht i hi => good_sub ((sub_good ht).erase i)
theorem asc_end {n : Nat} {t : List Int} (h : LA.Good n t) : LA.Good (n + 1) (t ++ [(n : Int)]) := by
  refine ⟨List.pairwise_append.mpr ⟨h.1, List.pairwise_singleton _ _, fun a ha b hb => ?_⟩, fun x hx => ?_⟩
  · rw [List.mem_singleton.mp hb]
    exact (h.2 a ha).2
  · rcases List.mem_append.mp hx with z | z
    · have := h.2 x z; omega
    · rw [List.mem_singleton.mp z]; omega
theorem good_last {n : Nat} {t : List Int} (h : LA.Good (n + 1) t) (hn : (n : Int) ∉ t) : LA.Good n t := ⟨h.1, fun x hx => by
  have h1 := h.2 x hx
  have h2 : x ≠ (n : Int) := fun e => hn (by rw [← e]; exact hx)
  omega⟩
theorem subs_cone (n : Nat) : LA.Cone (subsL (n + 1)) (n : Int) where
  cx := subs_cpx _
  le := fun t ht x hx => by have := (sub_good ht).2 x hx; omega
  up := fun t ht hn => good_sub (asc_end (good_last (sub_good ht) hn))
theorem over_cone (n : Nat) (S : List (List Int)) : LA.Cone (allL (n + 1) (S.map (· ++ [(n : Int)]))) (n : Int) where
  cx := all_cpx _ _
  le := fun t ht x hx => by have := (sub_good (allL_sub ht)).2 x hx; omega
  up := fun t ht hn => by
    obtain ⟨h1, s, h2, h3⟩ := all_mem.mp ht
    refine all_mem.mpr ⟨good_sub (asc_end (good_last (sub_good h1) hn)), s, h2, fun y hy => ?_⟩
    obtain ⟨u, _, rfl⟩ := List.mem_map.mp h2
    rcases List.mem_append.mp hy with z | z
    · exact h3 y z
    · rw [List.mem_singleton.mp z]; simp
theorem inS_over {n : Nat} {S : List (List Int)} (hS : InS n S) : InS (n + 1) (S.map (· ++ [(n : Int)])) := fun x hx => by
  obtain ⟨u, hu, rfl⟩ := List.mem_map.mp hx
  exact good_sub (asc_end (sub_good (hS u hu)))
/-! ### over the fractions -/
theorem with_le : ((List.range 6).all fun n => (List.range 7).all fun s => decide ((LA.withA (subsL (n + 1)) (n : Int) s).length ≤ 10)) = true := by decide +kernel
theorem rk_ten {n : Nat} (h1 : 1 ≤ n) (h6 : n ≤ 6) (S : List (List Int)) (s : Nat) : LA.rk (fun x => x = 0) (allL n S) s ≤ 10 := by
  obtain ⟨m, rfl⟩ : ∃ m, n = m + 1 := ⟨n - 1, by omega⟩
  refine Nat.le_trans (LA.rk_mono LA.prm_zero (fun t ht => allL_sub ht) s) ?_
  rw [LA.rk_of LA.prm_zero (LA.cone_rk LA.prm_zero (subs_cone m) s)]
  by_cases c : s < 7
  · have := List.all_eq_true.mp (List.all_eq_true.mp with_le m (List.mem_range.mpr (by omega))) s (List.mem_range.mpr c)
    exact of_decide_eq_true this
  · have : LA.withA (subsL (m + 1)) (m : Int) s = [] := List.eq_nil_iff_forall_not_mem.mpr fun t ht => by
      obtain ⟨a, b, _⟩ := LA.mem_withA.mp ht
      have := subs_each _ t a
      omega
    rw [this]
    exact Nat.zero_le _
theorem fb_far : ((List.range 11).all fun k => decide (LA.fb 6 k < LA.FAR)) = true := by decide +kernel
theorem rk_far {n : Nat} (h1 : 1 ≤ n) (h6 : n ≤ 6) (S : List (List Int)) (s : Nat) : LA.rk (LA.modP LA.FAR) (allL n S) s = LA.rk (fun x => x = 0) (allL n S) s :=
  LA.rk_same LA.far_irr _ _ (B := 6) (fun t ht _ => by have := subs_each _ t (allL_sub ht); omega)
    (of_decide_eq_true (List.all_eq_true.mp fb_far _ (List.mem_range.mpr (by have := rk_ten h1 h6 S s; omega))))
theorem holes_far {n : Nat} (h1 : 1 ≤ n) (h6 : n ≤ 6) (S : List (List Int)) : LA.holesV (LA.modP LA.FAR) (allL n S) = LA.holesV (fun x => x = 0) (allL n S) :=
  LA.hol_congr (fun _ => rfl) fun s => rk_far h1 h6 S s
/-- holes over the fractions are at most those below a prime -/
theorem holes_le {n p : Nat} (h1 : 1 ≤ n) (h6 : n ≤ 6) (hp : LA.Irr p) (S : List (List Int)) (i : Nat) : (LA.holesV (LA.modP LA.FAR) (allL n S)).getD i 0 ≤ (LA.holesV (LA.modP p) (allL n S)).getD i 0 := by
  rw [holes_far h1 h6]
  unfold LA.holesV
  split
  · exact Int.le_refl _
  · rw [List.getD_eq_getElem?_getD, List.getD_eq_getElem?_getD, List.getElem?_map, List.getElem?_map]
    cases e : (List.range (LA.topOf (allL n S) + 1))[i]? with
    | none => exact Int.le_refl _
    | some s =>
      have a := LA.rk_le hp (allL n S) s
      have b := LA.rk_le hp (allL n S) (s + 1)
      show (_ - _ - _ : Int) ≤ _ - _ - _
      omega
/-! ### renamed corners -/
def nmF (L : List Int) (x : Int) : Int := L.getD x.toNat 0
def nmG (L : List Int) (y : Int) : Int := ((L.idxOf y : Nat) : Int)
structure Nms (n : Nat) (L : List Int) : Prop where
  len : L.length = n
  nd : L.Nodup
  mem : ∀ x ∈ L, 0 ≤ x ∧ x < n
theorem Nms.f {n : Nat} {L : List Int} (h : Nms n L) {x : Int} (h0 : 0 ≤ x) (h1 : x < n) : nmF L x ∈ L ∧ nmG L (nmF L x) = x := by
  have hl : x.toNat < L.length := by rw [h.len]; omega
  have e : nmF L x = L[x.toNat] := by unfold nmF; rw [List.getD_eq_getElem?_getD, List.getElem?_eq_getElem hl]; rfl
  rw [e]
  refine ⟨List.getElem_mem hl, ?_⟩
  unfold nmG
  rw [h.nd.idxOf_getElem]
  omega
theorem Nms.ok {n : Nat} {L : List Int} (h : Nms n L) : LA.NmOk n (nmF L) := fun x y a b c d e => by
  rw [← (h.f a b).2, ← (h.f c d).2, e]
theorem Nms.all {n : Nat} {L : List Int} (h : Nms n L) {y : Int} (h0 : 0 ≤ y) (h1 : y < n) : y ∈ L := by
  have hsub : ∀ x ∈ L, x ∈ (List.range n).map fun i : Nat => (i : Int) := fun x hx => by
    have := h.mem x hx
    exact List.mem_map.mpr ⟨x.toNat, List.mem_range.mpr (by omega), by omega⟩
  have hy : y ∈ (List.range n).map fun i : Nat => (i : Int) := List.mem_map.mpr ⟨y.toNat, List.mem_range.mpr (by omega), by omega⟩
  exact Classical.byContradiction fun c => by
    have nd : (y :: L).Nodup := List.nodup_cons.mpr ⟨c, h.nd⟩
    have := LA.nodup_sub_len nd (m := (List.range n).map fun i : Nat => (i : Int)) fun x hx => by
      rcases List.mem_cons.mp hx with e | hx
      · rw [e]; exact hy
      · exact hsub x hx
    rw [List.length_cons, List.length_map, List.length_range, h.len] at this
    omega
theorem Nms.g {n : Nat} {L : List Int} (h : Nms n L) {y : Int} (h0 : 0 ≤ y) (h1 : y < n) : 0 ≤ nmG L y ∧ nmG L y < n ∧ nmF L (nmG L y) = y := by
  have hl := List.idxOf_lt_length_iff.mpr (h.all h0 h1)
  have hl2 := h.len
  unfold nmG
  refine ⟨by omega, by omega, ?_⟩
  unfold nmF
  rw [Int.toNat_natCast, List.getD_eq_getElem?_getD, List.getElem?_eq_getElem hl, List.getElem_idxOf hl]
  rfl
theorem Nms.okG {n : Nat} {L : List Int} (h : Nms n L) : LA.NmOk n (nmG L) := fun x y a b c d e => by
  rw [← (h.g a b).2.2, ← (h.g c d).2.2, e]
theorem Nms.good {n : Nat} {L : List Int} (h : Nms n L) {t : List Int} (ht : LA.Good n t) : LA.Good n (LA.srt (nmF L) t) := ⟨LA.srt_asc h.ok ht, fun y hy => by
  obtain ⟨x, hx, rfl⟩ := LA.mem_srt.mp hy
  have := ht.2 x hx
  exact h.mem _ (h.f this.1 this.2).1⟩
theorem inS_named {n : Nat} {L : List Int} (h : Nms n L) {S : List (List Int)} (hS : InS n S) : InS n (S.map (LA.srt (nmF L))) := fun x hx => by
  obtain ⟨u, hu, rfl⟩ := List.mem_map.mp hx
  exact good_sub (h.good (sub_good (hS u hu)))
theorem named_all {n : Nat} {L : List Int} (h : Nms n L) {S : List (List Int)} (hS : InS n S) {t : List Int} (ht : t ∈ allL n S) : LA.srt (nmF L) t ∈ allL n (S.map (LA.srt (nmF L))) := by
  obtain ⟨h1, s, h2, h3⟩ := all_mem.mp ht
  refine all_mem.mpr ⟨good_sub (h.good (sub_good h1)), _, List.mem_map_of_mem h2, fun y hy => ?_⟩
  obtain ⟨x, hx, rfl⟩ := LA.mem_srt.mp hy
  exact LA.mem_srt.mpr ⟨x, h3 x hx, rfl⟩
theorem named_back {n : Nat} {L : List Int} (h : Nms n L) {S : List (List Int)} (hS : InS n S) {u : List Int} (hu : u ∈ allL n (S.map (LA.srt (nmF L)))) : LA.srt (nmG L) u ∈ allL n S ∧ LA.srt (nmF L) (LA.srt (nmG L) u) = u := by
  obtain ⟨h1, s', h2, h3⟩ := all_mem.mp hu
  obtain ⟨s, hs, rfl⟩ := List.mem_map.mp h2
  have hg := sub_good h1
  have hG : LA.Good n (LA.srt (nmG L) u) := ⟨LA.srt_asc h.okG hg, fun y hy => by
    obtain ⟨x, hx, rfl⟩ := LA.mem_srt.mp hy
    have := hg.2 x hx
    exact ⟨(h.g this.1 this.2).1, (h.g this.1 this.2).2.1⟩⟩
  refine ⟨all_mem.mpr ⟨good_sub hG, s, hs, fun y hy => ?_⟩, LA.asc_eqI (LA.srt_asc h.ok hG) hg.1 fun x => ?_⟩
  · obtain ⟨x, hx, rfl⟩ := LA.mem_srt.mp hy
    obtain ⟨z, hz, e⟩ := LA.mem_srt.mp (h3 x hx)
    have hzr := (sub_good (hS s hs)).2 z hz
    rw [← e, (h.f hzr.1 hzr.2).2]
    exact hz
  · rw [LA.mem_srt]
    constructor
    · rintro ⟨y, hy, rfl⟩
      obtain ⟨z, hz, rfl⟩ := LA.mem_srt.mp hy
      have := hg.2 z hz
      rw [(h.g this.1 this.2).2.2]
      exact hz
    · intro hx
      have := hg.2 x hx
      exact ⟨nmG L x, LA.mem_srt.mpr ⟨x, hx, rfl⟩, (h.g this.1 this.2).2.2⟩
theorem named_inj {n : Nat} {L : List Int} (h : Nms n L) {t u : List Int} (ht : LA.Good n t) (hu : LA.Good n u) (e : LA.srt (nmF L) t = LA.srt (nmF L) u) : t = u := by
  have key : ∀ {t u : List Int}, LA.Good n t → LA.Good n u → LA.srt (nmF L) t = LA.srt (nmF L) u → ∀ x, x ∈ t → x ∈ u := fun {t u} ht hu e x hx => by
    have h1 : nmF L x ∈ LA.srt (nmF L) u := by rw [← e]; exact LA.mem_srt.mpr ⟨x, hx, rfl⟩
    obtain ⟨y, hy, e2⟩ := LA.mem_srt.mp h1
    have a := ht.2 x hx
    have b := hu.2 y hy
    rw [← h.ok y x b.1 b.2 a.1 a.2 e2]
    exact hy
  exact LA.asc_eqI ht.1 hu.1 fun x => ⟨key ht hu e x, key hu ht e.symm x⟩
theorem named_many {n : Nat} {L : List Int} (h : Nms n L) {S : List (List Int)} (hS : InS n S) (s : Nat) : LA.many (allL n (S.map (LA.srt (nmF L)))) s = LA.many (allL n S) s := by
  unfold LA.many
  refine Nat.le_antisymm ?_ ?_
  · have nd : ((LA.ofSz (allL n (S.map (LA.srt (nmF L)))) s).map (LA.srt (nmG L))).Nodup := LA.map_nodup ((allL_nodup n _).filter _) fun x hx y hy e => by
      have a := named_back h hS (LA.mem_ofSz.mp hx).1
      have b := named_back h hS (LA.mem_ofSz.mp hy).1
      rw [← a.2, ← b.2, e]
    have := LA.nodup_sub_len nd (m := LA.ofSz (allL n S) s) fun t ht => by
      obtain ⟨u, hu, rfl⟩ := List.mem_map.mp ht
      obtain ⟨h1, h2⟩ := LA.mem_ofSz.mp hu
      exact LA.mem_ofSz.mpr ⟨(named_back h hS h1).1, by rw [LA.srt_len, h2]⟩
    rwa [List.length_map] at this
  · have nd : ((LA.ofSz (allL n S) s).map (LA.srt (nmF L))).Nodup := LA.map_nodup ((allL_nodup n _).filter _) fun x hx y hy e =>
      named_inj h (sub_good (allL_sub (LA.mem_ofSz.mp hx).1)) (sub_good (allL_sub (LA.mem_ofSz.mp hy).1)) e
    have := LA.nodup_sub_len nd (m := LA.ofSz (allL n (S.map (LA.srt (nmF L)))) s) fun t ht => by
      obtain ⟨u, hu, rfl⟩ := List.mem_map.mp ht
      obtain ⟨h1, h2⟩ := LA.mem_ofSz.mp hu
      exact LA.mem_ofSz.mpr ⟨named_all h hS h1, by rw [LA.srt_len, h2]⟩
    rwa [List.length_map] at this
theorem named_holes {P : Int → Prop} (hP : LA.Prm P) {n : Nat} {L : List Int} (h : Nms n L) {S : List (List Int)} (hS : InS n S) : LA.holesV P (allL n (S.map (LA.srt (nmF L)))) = LA.holesV P (allL n S) :=
  LA.hol_congr (named_many h hS) fun s => by
    have a := LA.rk_is hP (allL n S) s
    refine LA.rk_of hP ⟨LA.nm_min hP h.ok (fun t ht => sub_good (allL_sub ht)) (fun t ht => named_all h hS ht) a.1, fun z => a.2 ?_⟩
    exact LA.nm_min hP h.okG (fun t ht => sub_good (allL_sub ht)) (fun t ht => (named_back h hS ht).1) z
/-! ### holes of a given family -/
def rkC (p : Nat) (A : List (List Int)) (s : Nat) : Nat := LA.elR p (LA.ofSz A (s - 1)).length 0 (LA.dense A s)
theorem rkC_is {p : Nat} (h : LA.Irr p) {A : List (List Int)} (hA : LA.Cpx A) (s : Nat) : LA.rk (LA.modP p) A s = rkC p A s :=
  LA.rk_of (LA.prm_mod h) ((LA.dense_rk (LA.prm_mod h) hA s _).mpr (LA.elR_is (w := (LA.ofSz A (s - 1)).length) h _ 0 _ (Nat.le_refl _) (fun v hv => by
    obtain ⟨t, _, rfl⟩ := List.mem_map.mp hv
    rw [List.length_map]) fun v _ c hc => absurd hc (Nat.not_lt_zero c)))
def holesC (p : Nat) (A : List (List Int)) : List Int := if A = [] then [] else (List.range (LA.topOf A + 1)).map fun s => (LA.many A s : Int) - (rkC p A s : Nat) - (rkC p A (s + 1) : Nat)
theorem holesC_is {p : Nat} (h : LA.Irr p) {A : List (List Int)} (hA : LA.Cpx A) : LA.holesV (LA.modP p) A = holesC p A := by
  unfold LA.holesV holesC
  split
  · rfl
  · refine List.map_congr_left fun s _ => ?_
    rw [rkC_is h hA, rkC_is h hA]
abbrev S6 : List (List Int) := [[0, 1, 2], [0, 2, 3], [0, 3, 4], [0, 4, 5], [0, 1, 5], [1, 2, 4], [2, 3, 5], [1, 3, 4], [2, 4, 5], [1, 3, 5]]
abbrev A6 : List (List Int) := [[], [0], [1], [2], [3], [4], [5], [0, 1], [0, 2], [0, 3], [0, 4], [0, 5], [1, 2], [1, 3], [1, 4], [1, 5], [2, 3], [2, 4], [2, 5], [3, 4], [3, 5], [4, 5],
  [0, 1, 2], [0, 1, 5], [0, 2, 3], [0, 3, 4], [0, 4, 5], [1, 2, 4], [1, 3, 4], [1, 3, 5], [2, 3, 5], [2, 4, 5]]

theorem S6_in : InS 6 S6 := by unfold InS; decide +kernel
theorem S6_all : allL 6 S6 = A6 := allL_eq (by decide +kernel) (by decide +kernel)
theorem S6_far : holesC LA.FAR A6 = [0, 0, 0, 0] := by decide +kernel
theorem S6_two : holesC 2 A6 = [0, 0, 1, 1] := by decide +kernel
theorem S6_three : holesC 3 A6 = [0, 0, 0, 0] := by decide +kernel
end DL

/-! Deep layer AX: enumerate(zip(a list, a list)). -/
namespace L2.EnZ
open PySem PySem.Spec PyProof.Rows L2 PySem.W
open PySem.AutoSeq1 (wpAny_loadPart')
section
variable {X : Cx} {pins : List (Addr × Obj)} {σ : L2.St} {H H' : Hp} {s : Shared} {h' : Heap}
end
section
variable {prog : Program} {w : World} {A : Around} {E : Value → Shared → Prop} {s : Shared}
/-! ### the zip inside: its tuple is free, or still held -/
abbrev IsZipG (h : Heap) (z TI TO : Addr) (f0 : Value) (f : Bool) : Prop :=
  h.get? z = some { cls := .type "zip", dict := none, data := .fields #[f0, .bool f, .bool false, .ref TI, .ref TO], slots := #[] }
def ZipAt (h : Heap) (e z TI TO i1 i2 a b : Addr) (i : Nat) : Prop :=
  ((∃ f, IsZipG h z TI TO .none f) ∨ ∃ (T : Addr) (f : Bool), IsZipG h z TI TO (rawInt T) f) ∧ IsPair h TI (.ref i1) (.ref i2) ∧ (∃ x y, IsPair h TO x y) ∧ h.IsListIter i1 a i ∧ h.IsListIter i2 b i
theorem ZipAt.ty {e z TI TO i1 i2 a b : Addr} {i : Nat} (h : ZipAt s.heap e z TI TO i1 i2 a b i) : s.TypeIs (.ref z) "zip" := by
  rcases h.1 with ⟨f, h⟩ | ⟨T, f, h⟩
  · exact ⟨_, h, rfl⟩
  · exact ⟨_, h, rfl⟩
theorem ZipAt.has {h : Heap} {e z TI TO i1 i2 a b : Addr} {i : Nat} (q : ZipAt h e z TI TO i1 i2 a b i) : ∀ c ∈ [z, TI, TO, i1, i2], ∃ o, h.get? c = some o ∧ ∀ v, o.data ≠ .cell v := by
  obtain ⟨hz, hTI, ⟨x, y, hTO⟩, ⟨o1, e1, _, d1⟩, ⟨o2, e2, _, d2⟩⟩ := q
  intro c hc
  have e' : c = z ∨ c = TI ∨ c = TO ∨ c = i1 ∨ c = i2 := by simpa using hc
  rcases e' with q | q | q | q | q
  · rw [q]
    rcases hz with ⟨f, h⟩ | ⟨T, f, h⟩
    · exact ⟨_, h, fun v q => nomatch q⟩
    · exact ⟨_, h, fun v q => nomatch q⟩
  · rw [q]; exact ⟨_, hTI, fun v q => nomatch q⟩
  · rw [q]; exact ⟨_, hTO, fun v q => nomatch q⟩
  · rw [q]; exact ⟨o1, e1, fun v q => by rw [d1] at q; cases q⟩
  · rw [q]; exact ⟨o2, e2, fun v q => by rw [d2] at q; cases q⟩
theorem ZipAt.at {h h2 : Heap} {e z TI TO i1 i2 a b : Addr} {i : Nat} (q : ZipAt h e z TI TO i1 i2 a b i) (he : e ∉ [z, TI, TO, i1, i2]) (k : ∀ b o, b ≠ e → h.get? b = some o → h2.get? b = some o) : ZipAt h2 e z TI TO i1 i2 a b i := by
  obtain ⟨hz, hTI, ⟨x, y, hTO⟩, h1, h2⟩ := q
  have ne : ∀ c ∈ [z, TI, TO, i1, i2], c ≠ e := fun c hc z => he (z ▸ hc)
  refine ⟨?_, k _ _ (ne _ (by simp)) hTI, ⟨x, y, k _ _ (ne _ (by simp)) hTO⟩, h1.at fun o q => k _ o (ne _ (by simp)) q, h2.at fun o q => k _ o (ne _ (by simp)) q⟩
  rcases hz with ⟨f, h⟩ | ⟨T, f, h⟩
  · exact .inl ⟨f, k _ _ (ne _ (by simp)) h⟩
  · exact .inr ⟨T, f, k _ _ (ne _ (by simp)) h⟩
end
/-! ### the walk -/
end L2.EnZ
namespace L2.EnZ
open PySem PySem.Spec PyProof.Rows L2 PySem.W
open PySem.AutoSeq1 (wpAny_loadPart')
end L2.EnZ
namespace DL
open PySem PySem.Spec PyProof.Rows L2 Builtin L2.EnZ
section
variable {X : Cx} {pos : Pos} {δ : DS} {g : DG}
end
end DL

/-! Deep layer AY: sorted(tuples, reverse=True), min([], default=d), [x, *d.values()], what is never reached, [None] * n. -/
namespace DL
open PySem PySem.Spec PyProof.Rows L2 Builtin
section
variable {X : Cx} {K : Fg} {pinz : List (Addr × Obj)} {σ : L2.St} {H : Hp} {s : Shared} {a : Addr} {L : List (List Int)}
/-! ### what is never reached -/
/-! ### sorted(.., reverse=True) -/
end
end DL
namespace DL
open PySem PySem.Spec PyProof.Rows L2 Builtin
section
variable {X : Cx} {K : Fg}
/-! ### min(an empty list, default=d) -/
/-! ### [.., *d.values()] -/
/-! ### [..] * k, to be changed -/
def rlM (Q : DV → DG → Prop) (ds : List DV) (y : DV) (g : DG) : Prop := ∃ k : Int, y = .int k ∧ 0 ≤ k ∧ k ≤ 1000 ∧ ∀ p, g p = none → Q (.ref p) (gup g p (.lst (List.replicate k.toNat ds).flatten))
def dRepLM (ta : TDA) (tb : TDE) : TDE := fun δ g Q => ta δ g fun ds g1 => ds.length ≤ 1000 ∧ tb δ g1 fun y g2 => rlM Q ds y g2
theorem pd_repLM {es : List Expr} {b : Expr} {pos p2 : Pos} {ta : TDA} {tb : TDE} (ha : PA X es (upA X.K ta)) (hb : PE X b (upE X.K tb)) : PE X (.BinOp (.List es p2) .Mult b pos) (upE X.K (dRepLM ta tb)) := by
  refine PE_weak (pe_op op_rep (pe_lst ha) hb) fun σ H Q ⟨δ, g, P, rs, rg, h, k⟩ => ⟨δ, g, _, rs, rg, h, fun ds g1 vs H1 e1 rg1 rd1 ⟨nl, h1⟩ => ?_⟩
  have lds := rd1.length
  have fin : ∀ p, H1 p = none → upE X.K tb σ (upd H1 p (.lst vs)) (fun y H2 => rRep (.ref p) y H2 Q) := fun p hp => by
    have gp : g1 p = none := rg1.none hp
    refine ⟨δ, g1, _, (rs.mono (e1.kp rg)).mono (Kp.fresh hp), rg1.fresh hp, h1, fun y g2 u H2 e2 rg2 rd2 h2 => ?_⟩
    obtain ⟨n, ey, n0, n1, h2⟩ := h2
    subst ey
    cases rd2
    have hp2 := (e2 p _ upd_same gp fun z => z).1
    refine ⟨p, n, vs, rfl, rfl, hp2, by omega, by omega, ?_, fun q hq => ?_⟩
    · rw [sizeLine_eq]
      have a1 : vs.length * n.toNat ≤ 1000 * 1000 := Nat.mul_le_mul (by omega) (by omega)
      omega
    · have rd3 := rds_repL ((rd1.mono (Kp.fresh hp)).mono (e2.kp (rg1.fresh hp))) n.toNat
      exact k _ _ _ _ (((e1.trans (Ext.fresh rg1 hp)).trans e2).trans (Ext.new hq)) (rg2.new hq rd3) (.ref q) (h2 q (rg2.none hq))
  exact ⟨by rw [← lds, sizeLine_eq]; omega, fin⟩
theorem rd_repLM {es : TDA} {b : TDE} {δ : DS} {g : DG} {Q : DV → DG → Prop} (h : es δ g fun ds g1 => ds.length ≤ 1000 ∧ b δ g1 fun y g2 => rlM Q ds y g2) : dRepLM es b δ g Q := h
theorem rd_rlM {Q : DV → DG → Prop} {g : DG} {ds : List DV} {k : Int} (c : 0 ≤ k ∧ k ≤ 1000) (h : ∀ p, g p = none → Q (.ref p) (gup g p (.lst (List.replicate k.toNat ds).flatten))) : rlM Q ds (.int k) g := ⟨k, rfl, c.1, c.2, h⟩
end
end DL
namespace DL
open PySem PySem.Spec PyProof.Rows L2 Builtin
section
variable {X : Cx} {pos pos2 : Pos}
/-! ### nested targets -/
end
end DL

/-! Deep layer XA: what is raised, tries. A path that raises is read by its own transformers. -/
namespace DL
open PySem PySem.Spec PyProof.Rows L2
/-- what is raised: its class, its own fields -/
structure XV where
  C : Addr
  fs : List (Str × DV) := []
abbrev WD := DS → XV → DG → Prop
abbrev TDR := WD → DS → DG → Prop
section
variable {X : Cx} {W : WX} {pos : Pos} {st : Stmt} {rest : List Stmt}
/-! ### statements -/
variable {e : Expr} {r : TDR}
/-! ### raise -/
theorem RS.ext {K : Fg} {H H' : Hp} {g g' : DG} {δ : DS} {σ : L2.St} (rs : RS K H δ σ) (rg : RG K H g) (e : Ext g H g' H') : RS K H' δ σ := rs.mono (e.kp rg)
/-! ### calls that raise -/
variable {x : Str} {p : Pos} {es : List Expr} {t : TDA}
end
/-! ### defs that raise -/
/-! ### promises of defs that raise -/
end DL

/-! Deep layer XB: try with several clauses, some of them named. -/
namespace DL
open PySem PySem.Spec PyProof.Rows L2
abbrev SuT := Addr → Value → Option Addr → TS
section
variable {X : Cx} {body : List Stmt} {h₀ : ExceptHandler} {hds : List ExceptHandler} {l : List (Value × Option Nat × SuT)} {pos : Pos} {tb : WX → TS} {Wout : WX}
end
/-! ### over contents -/
abbrev SuD := Addr → Value → Option Addr → TDS
/-- a clause: its class, what is known of the classes that may come, its name's slot, its suite -/
structure HS where
  c : Value
  ms : List (Addr × Bool)
  oi : Option Nat
  th : SuD
section
variable {X : Cx} {hds : List ExceptHandler} {l : List HS}
end
/-! ### within a suite: a field of what was caught -/
end DL
namespace DL
open PySem PySem.Spec PyProof.Rows L2
/-! ### readings -/
section
variable {Wd : WD} {δ : DS} {g : DG} {E : DEnds}
end
end DL
namespace DL
open PySem PySem.Spec PyProof.Rows L2
end DL
namespace DL
open PySem PySem.Spec PyProof.Rows L2
end DL

/-! Deep layer XC: == and != of tuples with texts and dicts of any values in them. -/
namespace PySem.SeqAt
open PySem PySem.Calls PyProof.Rows PySem.Spec PySem.W
section
variable {prog : Program} {w : World}
end
end PySem.SeqAt
namespace DL
open PySem PySem.Spec PyProof.Rows L2
section
variable {X : Cx} {pins : List (Addr × Obj)} {σ : L2.St} {H : Hp} {s : Shared}
end
end DL

/-! Deep layer XL: a lambda without parameters handed to a def that calls it; what the lambda raises may be caught there. -/
namespace DL
open PySem PySem.Spec PyProof.Rows L2 LamX
/-! ### the tables of code objects that g tells of -/
/-! ### the maker's values, as the lambda finds them -/
/-! ### the call of what was handed over -/
section
variable {X : Cx} {pins : List (Addr × Obj)} {σ : L2.St} {H : Hp} {s : Shared}
end
section
variable {X : Cx}
end
end DL

/-! Deep layer XE: an own exception whose __init__ says super().__init__('..') and keeps what it was given. -/
namespace DL
open PySem PySem.Spec PyProof.Rows PySem.Calls L2 PySem.W
section
variable {prog : Program} {w : World} {K : PySem.W.Frag} {mg mb : Str → Option Value} {A : Around} {R : Result → Shared → Prop} {hp : Heap} {s : Shared} {C fI cda cc e t0 : Addr} {B newId initId : String} {bmB : List Value} {fld x0 x1 qual msg : Str} {params : Arguments} {scope : Scope}
  {dV kV doc pm ct oc ccl cl : Value} {an od cdd cld : Option Addr} {osl ccs csl : Array (Option Value)} {vs : Array Value} {file : Str} {tf : Tok} {j : Nat} {p1 p2 p3 p4 p5 p6 p7 p8 p9 p10 : Pos} {u : Value} {a0 a1 : Arg}
end
end DL

/-! Deep layer AZ: d.pop(k), the keys tuples, k there. -/
namespace DL
open PySem PySem.Spec PyProof.Rows L2
section
variable {X : Cx} {K : Fg} {pos apos cpos : Pos} {o e : Expr} {to : TDE} {t : TDA}
end
end DL

/-! Deep layer BA: min of a list of tuples of ints with default=, xs.index(y). -/
namespace DL
open PySem PySem.Spec PyProof.Rows L2 Builtin
theorem py_tuI (k : List Int) : (tuI k).py = .tuple (k.map PyData.int) := py_tI k
theorem lt_tuI (a b : List Int) : W.dataLt (tuI a).py (tuI b).py = decide (a < b) := by
  have h := dle_tuI b a
  unfold dleD at h
  have h2 : W.dataLt (tuI a).py (tuI b).py = !decide (b ≤ a) := by rw [← h, Bool.not_not]
  rw [h2]
  by_cases c : a < b
  · rw [decide_eq_true c, decide_eq_false (fun z => z c)]; rfl
  · rw [decide_eq_false c, decide_eq_true (show b ≤ a from c)]; rfl
theorem alike_ti (a b : List Int) : W.alike (tuI a).py (tuI b).py = true := by
  rw [py_tuI, py_tuI]
  simp only [W.alike]
  exact alike_is a b
theorem alikeAll_tuI (ks : List (List Int)) : W.AlikeAll (ks.map fun x => (tuI x).py) := by
  refine ⟨fun x hx y hy => ?_, fun x hx e => ?_⟩
  · obtain ⟨a, _, rfl⟩ := List.mem_map.mp hx
    obtain ⟨b, _, rfl⟩ := List.mem_map.mp hy
    exact alike_ti a b
  · obtain ⟨a, _, rfl⟩ := List.mem_map.mp hx
    rw [py_tuI] at e
    cases e
theorem depthAll_tuI : ∀ ks : List (List Int), PyData.depthAll (ks.map fun x => (tuI x).py) ≤ 1
  | [] => by show PyData.depthAll [] ≤ 1; simp [PyData.depthAll]
  | k :: ks => by
    have ih := depthAll_tuI ks
    rw [List.map_cons]
    simp only [PyData.depthAll]
    rw [py_tuI, PyData.depth, dep_is]
    omega
section
variable {X : Cx} {e d : Expr} {p kpos pos : Pos}
end
/-! ### xs.index(y) -/
section
variable {X : Cx} {K : Fg} {apos cpos : Pos} {o e : Expr} {to : TDE} {t : TDA}
theorem type_index : typeOf (.builtin "list.index") = pure (.type "method_descriptor") := by show builtinType _ = _; rw [builtinType_eq_fast]; kernel_rfl
def rmIndex (x : DV) (xs : List DV) (g : DG) (P : DV → DG → Prop) : Prop := ∃ ds y z j, x = .lst ds ∧ xs = [y] ∧ okD (.lst ds) = true ∧ okD y = true ∧ ds[j]? = some z ∧ eqD z y = true ∧ (∀ m z', m < j → ds[m]? = some z' → eqD z' y = false) ∧ P (.int (j : Nat)) g
def dIndex (to : TDE) (t : TDA) : TDE := fun δ g Q => to δ g fun x g1 => (∃ ds, x = .lst ds) ∧ t δ g1 fun xs g2 => rmIndex x xs g2 Q
theorem py_get : ∀ {ds : List DV} {j : Nat} {z : DV}, ds[j]? = some z → (pyAll ds)[j]? = some z.py
  | [], _, _, h => by simp at h
  | d :: ds, 0, z, h => by simp at h; subst h; rw [pyAll]; rfl
  | d :: ds, j + 1, z, h => by rw [pyAll, List.getElem?_cons_succ]; exact py_get (by simpa using h)
theorem py_get' : ∀ {ds : List DV} {j : Nat} {z : PyData}, (pyAll ds)[j]? = some z → ∃ d, ds[j]? = some d ∧ z = d.py
  | [], _, _, h => by rw [pyAll] at h; simp at h
  | d :: ds, 0, z, h => by rw [pyAll] at h; simp at h; exact ⟨d, rfl, h.symm⟩
  | d :: ds, j + 1, z, h => by
    rw [pyAll, List.getElem?_cons_succ] at h
    obtain ⟨d', h1, h2⟩ := py_get' h
    exact ⟨d', by simpa using h1, h2⟩
theorem pd_index (hu : X.A.units + 70 < cLine) (ho : PE X o (upE X.K to)) (ha : PA X [e] (upA X.K t)) (hbase : attributeBase o "index" X.env (eval o X.env) = eval o X.env := by rfl)
    (hfew : ((backTo cpos (starEach [e] X.env)).all (fun x => !x.1) && (backToKw cpos (keywordEach [] X.env)).all (fun x => x.1.isSome)
      && decide ([e].length + ([] : List Keyword).length + (if ([] : List Keyword).isEmpty then 0 else 1) < 30)) = true := by rfl)
    (hline : (apos.endLine == cpos.line) = true := by rfl) (hs : starEach [e] X.env = (false, eval e X.env) :: starEach [] X.env := by rfl) : PE X (.Call (.Attribute o "index" apos) [e] [] cpos) (upE X.K (dIndex to t)) := by
  refine PE_weak (pe_bm PySem.F.plainAttrs_list PySem.F.slot_list_index type_index (mt_indexD (by omega)) ho ha hbase hfew hline hs rfl) fun σ H Q ⟨δ, g, P, rs, rg, h, k⟩ => ⟨δ, g, _, rs, rg, h, fun d g1 v H1 e1 rg1 rd1 h1 => ?_⟩
  obtain ⟨⟨ds0, ex0⟩, h1⟩ := h1
  subst ex0
  cases rd1 with
  | lst hf hr =>
    refine ⟨.inl ⟨rfl, _, hf.sq⟩, δ, g1, _, rs.mono (e1.kp rg), rg1, h1, fun xs g2 vs H2 e2 rg2 rd2 h2 => ?_⟩
    obtain ⟨ds, y, z, j, ex, exs, o1, o2, hz, heq, hno, h3⟩ := h2
    cases ex
    subst exs
    obtain ⟨u, rfl, ru⟩ := rd2.inj1
    unfold okD at o1 o2
    rw [Bool.and_eq_true] at o1 o2
    have hl : RD X.K H2 (.lst ds0) (.ref _) := (RD.lst hf hr).mono (e2.kp rg1)
    refine ⟨_, u, y.py, pyAll ds0, j, z.py, rfl, rfl, hl.dp o1.1, ru.dp o2.1, o1.2, o2.2, py_get hz, heq, fun m z' hm hz' => ?_, k _ _ _ _ (e1.trans e2) rg2 (.int _) h3⟩
    obtain ⟨d', q1, q2⟩ := py_get' hz'
    rw [q2]
    exact hno m d' hm q1
theorem rd_index {δ : DS} {g : DG} {Q : DV → DG → Prop} (h : to δ g fun x g1 => (∃ ds, x = .lst ds) ∧ t δ g1 fun xs g2 => rmIndex x xs g2 Q) : dIndex to t δ g Q := h
end
end DL

/-! Deep layer BB: max of a dict whose keys are ints. -/
namespace DL
open PySem PySem.Spec PyProof.Rows L2
section
variable {X : Cx} {K : Fg}
end
end DL

/-! Deep layer BC: a dict against {}, comprehensions of two clauses whose inner walk hangs on the outer one. -/
namespace DL
open PySem PySem.Spec PyProof.Rows L2
section
variable {X : Cx} {pins : List (Addr × Obj)} {σ : L2.St} {H : Hp} {s : Shared}
theorem empty_ne (I : Inv X pins σ H s) {A : Around} {E Q : Value → Shared → Prop} {a b : Addr} {ka : List (List Key × V)} (ha : Rd H a (.dT ka)) (hb : Rd H b (.dT [])) (hu : A.units + 1 < cLine)
    (h : Q (.bool (!ka.isEmpty)) s) : wpAny (model X.prog X.w) A (compareOp .NotEq (.ref a) (.ref b)) Q E s := by
  obtain ⟨z1, y1, xa, ra, da⟩ := dt_rd I.hok ha
  obtain ⟨z2, y2, xb, rb, db⟩ := dt_rd I.hok hb
  cases rb
  have l1 : ka.length = xa.length := Paired.length ra
  have e : (xa.length == ([] : List (List Key × Addr × Value)).length && xa.all fun _ => false) = ka.isEmpty := by
    cases xa with
    | nil =>
      cases ka with
      | nil => rfl
      | cons p r => simp at l1
    | cons x xs =>
      cases ka with
      | nil => simp at l1
      | cons p r => simp
  refine wpAny_richCompare_same_room (op := .NotEq) da.typeIs db.typeIs PySem.F.slot_dict_ne (wpAny_call_entry PySem.F.slot_dict_ne da.typeIs PySem.F.entry_dict_ne ?_ (PySem.F.args_dict_ne_2 _ _)) (by omega)
  show wpAny _ _ (Builtin.Dict.dictSlotArgs "__ne__" ⟨[.ref a, .ref b], []⟩ >>= _) _ _ s
  refine wpAny_bind ?_
  unfold Builtin.Dict.dictSlotArgs
  refine wpAny_bind (wpAny_notOrdered_dict da.typeIs ?_)
  show wpAny _ _ (pure (Value.ref a, Value.ref b)) _ _ s
  refine wpAny_pure ?_
  refine wpAny_bind (wpAny_isInstance (T := "dict") db.typeIs PySem.F.sub_dict_dict ?_)
  simp only [Bool.not_true, Bool.false_eq_true, if_false]
  refine wpAny_bind (wpAny_pure (wpAny_bind (wpAny_pure ?_)))
  refine wpAny_bind (samePairsH (f := fun _ => false) (show A.in1.units < cLine from hu) y1 y2 da db (fun x hx => .inl ⟨rfl, rfl⟩) ?_)
  refine wpAny_pure ⟨_, rfl, ?_, ?_⟩
  · exact fun x => nomatch x
  · rw [e]
    simpa using h
def rEqE (neg : Bool) : R2 := fun x y H Q => ∃ a b kvs, x = .ref a ∧ y = .ref b ∧ Rd H a (.dT kvs) ∧ Rd H b (.dT []) ∧ Q (.bl (if neg then !kvs.isEmpty else kvs.isEmpty)) H
theorem op_neE (hu : X.A.units + 65 < cLine) : OpR X (compareOp .NotEq) (rEqE true) := by
  intro pins s σ H x y v u Q I rx ry ⟨a, b, kvs, ex, ey, h1, h2, hq⟩
  subst ex ey
  cases (show v = Value.ref a from rx)
  cases (show u = Value.ref b from ry)
  exact empty_ne I h1 h2 (by omega) ⟨.bl _, H, I, rfl, hq⟩
def rrEqE (neg : Bool) : RR2 := fun x y g P => ∃ ks ds, dctT g x = some (ks, ds) ∧ y = .dT [] [] ∧ P (.bl (if neg then !ks.isEmpty else ks.isEmpty))
theorem ref_eqE {K : Fg} {neg : Bool} : RefCmp K (rrEqE neg) (rEqE neg) := by
  intro x y P v u H g Q rg rx ry k ⟨ks, ds, e, ey, hp⟩
  subst ey
  obtain ⟨a, kvs, rfl, hd, ek, _⟩ := dctT_of rg rx e
  cases ry with
  | dT h2 r2 =>
    obtain ⟨o2, kb, h2, e3, e4⟩ := h2
    have : kb = [] := List.map_eq_nil_iff.mp e3
    subst this
    refine ⟨a, _, kvs, rfl, rfl, hd, .inr ⟨o2, h2⟩, k _ ?_⟩
    rw [show kvs.isEmpty = ks.isEmpty by rw [← ek, List.isEmpty_map]]
    exact hp
theorem rd_eqE {neg : Bool} {x : DV} {g : DG} {P : DV → Prop} {ks : List (List Key)} {ds : List DV} (e : dctT g x = some (ks, ds)) (h : P (.bl (if neg then !ks.isEmpty else ks.isEmpty))) : rrEqE neg x (.dT [] []) g P := ⟨ks, ds, e, rfl, h⟩
end
section
variable {g : DG} {δ : DS}
end
end DL

/-! Deep layer BD: comprehensions of dicts with int keys; such a dict against {}. -/
namespace DL
open PySem PySem.Spec PyProof.Rows L2
section
variable {X : Cx}
variable {kx vx iter tgx : Expr} {ifs : List Expr} {scope : Scope} {own : List (Str × Nat)} {wi : TDI} {tg : Tg} {tt : TDT} {tk tv : TDE} {pos : Pos}
end
section
variable {X : Cx} {pins : List (Addr × Obj)} {σ : L2.St} {H : Hp} {s : Shared}
end
/-! ### min(xs, default=d) -/
section
variable {X : Cx} {K : Fg} {σ : L2.St} {H : Hp}
end
end DL

/-! Deep layer BE: enumerate(zip(a tuple, a list)). -/
namespace L2.EnZ
open PySem PySem.Spec PyProof.Rows L2 PySem.W
section
variable {prog : Program} {w : World} {A : Around} {E : Value → Shared → Prop} {s : Shared}
def ZipTL (h : Heap) (e z TI TO i1 i2 a b : Addr) (i : Nat) : Prop :=
  ((∃ f, IsZipG h z TI TO .none f) ∨ ∃ (T : Addr) (f : Bool), IsZipG h z TI TO (rawInt T) f) ∧ IsPair h TI (.ref i1) (.ref i2) ∧ (∃ x y, IsPair h TO x y) ∧ h.IsTupleIter i1 a i ∧ h.IsListIter i2 b i
theorem ZipTL.ty {e z TI TO i1 i2 a b : Addr} {i : Nat} (h : ZipTL s.heap e z TI TO i1 i2 a b i) : s.TypeIs (.ref z) "zip" := by
  rcases h.1 with ⟨f, h⟩ | ⟨T, f, h⟩
  · exact ⟨_, h, rfl⟩
  · exact ⟨_, h, rfl⟩
theorem ZipTL.has {h : Heap} {e z TI TO i1 i2 a b : Addr} {i : Nat} (q : ZipTL h e z TI TO i1 i2 a b i) : ∀ c ∈ [z, TI, TO, i1, i2], ∃ o, h.get? c = some o ∧ ∀ v, o.data ≠ .cell v := by
  obtain ⟨hz, hTI, ⟨x, y, hTO⟩, ⟨o1, e1, _, d1⟩, ⟨o2, e2, _, d2⟩⟩ := q
  intro c hc
  have e' : c = z ∨ c = TI ∨ c = TO ∨ c = i1 ∨ c = i2 := by simpa using hc
  rcases e' with q | q | q | q | q
  · rw [q]
    rcases hz with ⟨f, h⟩ | ⟨T, f, h⟩
    · exact ⟨_, h, fun v q => nomatch q⟩
    · exact ⟨_, h, fun v q => nomatch q⟩
  · rw [q]; exact ⟨_, hTI, fun v q => nomatch q⟩
  · rw [q]; exact ⟨_, hTO, fun v q => nomatch q⟩
  · rw [q]; exact ⟨o1, e1, fun v q => by rw [d1] at q; cases q⟩
  · rw [q]; exact ⟨o2, e2, fun v q => by rw [d2] at q; cases q⟩
theorem ZipTL.at {h h2 : Heap} {e z TI TO i1 i2 a b : Addr} {i : Nat} (q : ZipTL h e z TI TO i1 i2 a b i) (he : e ∉ [z, TI, TO, i1, i2]) (k : ∀ b o, b ≠ e → h.get? b = some o → h2.get? b = some o) : ZipTL h2 e z TI TO i1 i2 a b i := by
  obtain ⟨hz, hTI, ⟨x, y, hTO⟩, h1, h2⟩ := q
  have ne : ∀ c ∈ [z, TI, TO, i1, i2], c ≠ e := fun c hc z => he (z ▸ hc)
  refine ⟨?_, k _ _ (ne _ (by simp)) hTI, ⟨x, y, k _ _ (ne _ (by simp)) hTO⟩, h1.at fun o q => k _ o (ne _ (by simp)) q, h2.at fun o q => k _ o (ne _ (by simp)) q⟩
  rcases hz with ⟨f, h⟩ | ⟨T, f, h⟩
  · exact .inl ⟨f, k _ _ (ne _ (by simp)) h⟩
  · exact .inr ⟨T, f, k _ _ (ne _ (by simp)) h⟩
end
/-! ### the walk -/
end L2.EnZ
namespace L2.EnZ
open PySem PySem.Spec PyProof.Rows L2 PySem.W
end L2.EnZ
namespace DL
open PySem PySem.Spec PyProof.Rows L2 Builtin L2.EnZ
section
variable {X : Cx} {pos : Pos} {δ : DS} {g : DG}
theorem rd_wenL {ta : TDA} {QA : List DV → DG → Prop} (h : ta δ g fun xs g1 => enKL QA xs g1) : wEnL ta δ g QA := h
theorem rd_enKL {ds : List DV} {QA : List DV → DG → Prop} (h : QA (enD ds) g) : enKL QA [.lst ds] g := h
end
end DL

/-! Deep layer BF: sorted(list, key=a def of the text). -/
namespace DL
open PySem PySem.Spec PyProof.Rows L2 Builtin
section
variable {X : Cx} {pins : List (Addr × Obj)} {σ : L2.St} {H : Hp} {s : Shared}
end

section
variable {X : Cx} {pins : List (Addr × Obj)} {σ : L2.St} {H : Hp} {s : Shared} {k : Nat} {f a kS : Addr} {fd : FuncData} {ps : List Str} {sp : Sp} {xs : List V} {vs : List Value} {e1 : Nat} {J : Nat → List V → Hp → Prop} {Q : VK} {E : Value → Shared → Prop}
end
section
variable {X : Cx} {k : Nat} {f : Addr} {fd : FuncData} {ps : List Str} {sp : Sp} {sd : SpD}
end
end DL

/-! Deep layer BG: tuples whose whole object is known (made by tuple(a list), a display, t + u), and dict(such a tuple of pairs). -/
namespace DL
open PySem PySem.Spec PyProof.Rows L2 Builtin
section
variable {X : Cx} {K : Fg} {pins : List (Addr × Obj)} {σ : L2.St} {H : Hp} {s : Shared}
theorem Inv.tpl {a : Addr} {xs : List V} (I : Inv X pins σ H s) (h : TpH X.K H a xs) : ∃ its : List Value, Vals xs its ∧ PlainSeq "tuple" s.heap a its.toArray ∧ xs.length ≤ sizeLine := by
  obtain ⟨o, ho, hd⟩ := h
  obtain ⟨e, z, its, r, o', e', hc, n, hdat⟩ := (show ObjOk X.prog X.w H s.heap a (.frz o (.tup xs)) from I.hok a _ ho)
  rw [e] at e'
  cases e'
  exact ⟨its, r, ⟨o, n, e, hc, hd, hdat⟩, z⟩
/-! ### tuple(a list) -/
/-! ### a display -/
variable {es : List Expr} {t : TDA} {pos : Pos}
/-! ### t + u -/
/-! ### dict(a tuple of pairs) -/
end
end DL

/-! Deep layer BH: dicts with int (and text) keys: a lock at an expression, dict(d), dict(pairs), displays, walks over keys and items, == and !=; max of a list of tuples of ints. -/
namespace DL
open PySem PySem.Spec PyProof.Rows L2 Builtin
section
variable {X : Cx} {K : Fg} {pins : List (Addr × Obj)} {σ : L2.St} {H : Hp} {s : Shared}
/-! ### a new dict, locked where it is made -/
/-! ### dict(d) -/
/-! ### dict(pairs) -/
end
/-! ### displays -/
section
variable {X : Cx} {K : Fg} {pos : Pos}
end
/-! ### walks -/
section
variable {X : Cx} {K : Fg} {e : Expr} {td : TDE} {apos cpos : Pos}
end
/-! ### == and != -/
section
variable {X : Cx} {K : Fg} {pins : List (Addr × Obj)} {σ : L2.St} {H : Hp} {s : Shared}
end
/-! ### max of a list of tuples of ints -/
def maxL (k : List Int) (r : List (List Int)) : List Int := r.foldl (fun a y => if a < y then y else a) k
theorem maxD_tuI : ∀ (r : List (List Int)) (k : List Int), W.maxD (tuI k).py (r.map fun x => (tuI x).py) = (tuI (maxL k r)).py
  | [], k => rfl
  | y :: r, k => by
    show W.maxD (if W.dataLt (tuI k).py (tuI y).py then (tuI y).py else (tuI k).py) (r.map _) = _
    rw [lt_tuI]
    have e : (if decide (k < y) = true then (tuI y).py else (tuI k).py) = (tuI (if k < y then y else k)).py := by
      by_cases c : k < y
      · rw [if_pos (decide_eq_true c), if_pos c]
      · rw [if_neg (by simpa using c), if_neg c]
    rw [e, maxD_tuI r]
    rfl
section
variable {X : Cx} {K : Fg}
end
end DL

/-! k40: ranks by taking off, as the package finds them. -/
namespace DL
/-! ### the order of places -/
theorem lt_ir40 (a : List Int) : ¬ a < a := fun h => by
  have := leL_total a a
  unfold leL at this
  rw [Bool.or_self, decide_eq_true_eq] at this
  exact this h
theorem lt_tri (a b : List Int) : a < b ∨ a = b ∨ b < a := by
  by_cases h1 : a < b
  · exact .inl h1
  · by_cases h2 : b < a
    · exact .inr (.inr h2)
    · exact .inr (.inl (leL_anti (decide_eq_true (show a ≤ b from h2)) (decide_eq_true (show b ≤ a from h1))))
theorem lt_not {a b : List Int} (h : a < b) : ¬ b < a := fun h2 => by
  have := leL_total a b
  unfold leL at this
  rcases (by simpa using this : a ≤ b ∨ b ≤ a) with c | c
  · exact c h2
  · exact c h
theorem lt_trans' {a b c : List Int} (h : a < b) (h2 : b < c) : a < c := by
  rcases lt_tri a c with q | q | q
  · exact q
  · subst q; exact absurd h2 (lt_not h)
  · exfalso
    have h3 : leL c b = true := leL_trans c a b (decide_eq_true (lt_not q)) (decide_eq_true (lt_not h))
    exact of_decide_eq_true h3 h2
theorem maxL_spec : ∀ (r : List (List Int)) (k : List Int), maxL k r ∈ k :: r ∧ ∀ y ∈ k :: r, ¬ maxL k r < y
  | [], k => ⟨List.mem_cons_self, fun y hy => by rw [List.mem_singleton.mp hy]; exact lt_ir40 _⟩
  | x :: r, k => by
    have e : maxL k (x :: r) = maxL (if k < x then x else k) r := rfl
    obtain ⟨h1, h2⟩ := maxL_spec r (if k < x then x else k)
    rw [e]
    refine ⟨?_, fun y hy => ?_⟩
    · rcases List.mem_cons.mp h1 with z | z
      · rw [z]
        split
        · exact List.mem_cons_of_mem _ List.mem_cons_self
        · exact List.mem_cons_self
      · exact List.mem_cons_of_mem _ (List.mem_cons_of_mem _ z)
    · rcases List.mem_cons.mp hy with z | z
      · subst z
        intro q
        have h3 := h2 _ List.mem_cons_self
        by_cases c : y < x
        · rw [if_pos c] at h3 q
          exact h3 (lt_trans' q c)
        · rw [if_neg c] at h3 q
          exact h3 q
      · rcases List.mem_cons.mp z with z | z
        · subst z
          intro q
          have h3 := h2 _ List.mem_cons_self
          by_cases c : k < y
          · rw [if_pos c] at h3 q
            exact h3 q
          · rw [if_neg c] at h3 q
            rcases lt_tri k y with w | w | w
            · exact c w
            · subst w; exact h3 q
            · exact h3 (lt_trans' q w)
        · exact h2 y (List.mem_cons_of_mem _ z)
/-! ### the inverse below a prime -/
structure InvI (n p one other left right : Int) : Prop where
  h1 : 0 < one
  h2 : 0 ≤ other
  h3 : other < p
  h4 : one ≤ p
  d1 : p ∣ one - left * n
  d2 : p ∣ other - right * n
  gc : ∀ d : Int, d ∣ one → d ∣ other → d ∣ 1
  bd : ∃ a b : Int, 0 ≤ a ∧ 0 ≤ b ∧ a ≤ p ∧ ((left = a ∧ right = -b) ∨ (left = -a ∧ right = b)) ∧ a * other + b * one = p
theorem InvI.start {n : Int} {p : Nat} (hp : LA.Irr p) (h1 : 1 ≤ n) (h2 : n < p) : InvI n p p (n % p) 0 1 := by
  have e : n % (p : Int) = n := Int.emod_eq_of_lt (by omega) h2
  rw [e]
  have hp2 := hp.1
  refine ⟨by omega, by omega, h2, Int.le_refl _, ⟨1, by omega⟩, ⟨0, by omega⟩, fun d a b => ?_, 0, 1, by omega, by omega, by omega, .inr ⟨by omega, rfl⟩, by omega⟩
  have ha := Int.natAbs_dvd_natAbs.mpr a
  have hb := Int.natAbs_dvd_natAbs.mpr b
  rw [Int.natAbs_natCast] at ha
  rcases hp.2 _ ha with c | c
  · exact Int.natAbs_dvd_natAbs.mp (by rw [c]; exact Nat.one_dvd _)
  · rw [c] at hb
    have := Nat.le_of_dvd (by omega) hb
    omega
theorem InvI.bds {n p one other left right : Int} (h : InvI n p one other left right) : left ≤ p ∧ -p ≤ left ∧ right ≤ p ∧ -p ≤ right := by
  obtain ⟨a, b, ha, hb, hap, hs, e⟩ := h.bd
  have h1 := h.h1
  have h2 := h.h2
  have hbp : b ≤ p := by
    have e1 : 0 ≤ a * other := Int.mul_nonneg ha h2
    have e2 : b * 1 ≤ b * one := Int.mul_le_mul_of_nonneg_left (by omega) hb
    omega
  rcases hs with ⟨x, y⟩ | ⟨x, y⟩ <;> subst x y <;> omega
theorem InvI.step {n p one other left right : Int} (h : InvI n p one other left right) (hz : other ≠ 0) : InvI n p other (one - one / other * other) right (left - one / other * right) := by
  have hp : 0 < other := by have := h.h2; omega
  have hm : one - one / other * other = one % other := by rw [Int.emod_def, Int.mul_comm]
  have q0 : 0 ≤ one / other := Int.ediv_nonneg (by have := h.h1; omega) (by omega)
  refine ⟨hp, by rw [hm]; exact Int.emod_nonneg _ hz, by rw [hm]; have := Int.emod_lt_of_pos one hp; have := h.h3; omega, by have := h.h3; omega, h.d2, ?_, fun d a b => h.gc d ?_ a, ?_⟩
  · obtain ⟨x, hx⟩ := h.d1
    obtain ⟨y, hy⟩ := h.d2
    refine ⟨x - one / other * y, ?_⟩
    generalize one / other = q
    have e1 : one - q * other - (left - q * right) * n = (one - left * n) - q * (other - right * n) := by grind
    rw [e1, hx, hy]
    grind
  · obtain ⟨x, hx⟩ := a
    obtain ⟨y, hy⟩ := b
    refine ⟨y + one / other * x, ?_⟩
    generalize one / other = q at hy ⊢
    rw [Int.mul_add, ← hy, show d * (q * x) = q * (d * x) by grind, ← hx]
    omega
  · have hb := h.bds
    obtain ⟨a, b, ha, hb2, hap, hs, e⟩ := h.bd
    have hbp : b ≤ p := by rcases hs with ⟨x, y⟩ | ⟨x, y⟩ <;> omega
    generalize one / other = q at q0 ⊢
    have hqb : 0 ≤ q * b := Int.mul_nonneg q0 hb2
    refine ⟨b, a + q * b, hb2, by omega, hbp, ?_, ?_⟩
    · rcases hs with ⟨x, y⟩ | ⟨x, y⟩
      · right
        subst x y
        exact ⟨rfl, by rw [Int.mul_neg]; omega⟩
      · left
        subst x y
        exact ⟨rfl, by omega⟩
    · rw [← e]
      grind
theorem InvI.dec {n p one other left right : Int} (h : InvI n p one other left right) (hz : other ≠ 0) : one - one / other * other < other ∧ 0 ≤ one - one / other * other := by
  have hp : 0 < other := by have := h.h2; omega
  have hm : one - one / other * other = one % other := by rw [Int.emod_def, Int.mul_comm]
  rw [hm]
  exact ⟨Int.emod_lt_of_pos _ hp, Int.emod_nonneg _ hz⟩
/-- what the inverse is -/
def IsInv (n p r : Int) : Prop := 0 ≤ r ∧ r < p ∧ n * r % p = 1 % p
theorem InvI.fin {n p one left right : Int} (h : InvI n p one 0 left right) : IsInv n p (left % p) := by
  have hp : 0 < p := h.h3
  have h1 : one ∣ 1 := h.gc one (Int.dvd_refl _) (Int.dvd_zero _)
  have e1 : one = 1 := by
    have a := Int.le_of_dvd (by omega) h1
    have b := h.h1
    omega
  refine ⟨Int.emod_nonneg _ (by omega), Int.emod_lt_of_pos _ hp, ?_⟩
  obtain ⟨x, hx⟩ := h.d1
  rw [e1] at hx
  have : n * (left % p) % p = n * left % p := by rw [Int.mul_emod, Int.emod_emod_of_dvd _ (Int.dvd_refl p), ← Int.mul_emod]
  rw [this, show n * left = 1 - p * x by rw [← hx, Int.mul_comm n left]; omega, Int.sub_mul_emod_self_left]
/-! ### rows -/
structure RowOk (p : Nat) (R : Tab) : Prop where
  nd : (keysOf R).Nodup
  v : ∀ e ∈ R, 0 < e.2 ∧ e.2 < p
def subT (p f : Int) (r : Tab) (e : List Int × Int) : Tab := putT r e.1 ((getT r e.1 - f * e.2) % p)
def lessG (p f : Int) (other row : Tab) : Tab := other.foldl (subT p f) row
def lessT (p f : Int) (other row : Tab) : Tab := (lessG p f other row).filter fun e => !decide (e.2 = 0)
theorem lessG_keys (p f : Int) : ∀ (other row : Tab) (c : List Int), c ∈ keysOf (lessG p f other row) ↔ c ∈ keysOf row ∨ c ∈ keysOf other
  | [], row, c => by
    show c ∈ keysOf row ↔ _
    exact ⟨.inl, fun h => h.elim id fun z => by cases z⟩
  | e :: r, row, c => by
    show c ∈ keysOf (lessG p f r (subT p f row e)) ↔ _
    rw [lessG_keys p f r, subT, mem_put]
    show _ ↔ _ ∨ c ∈ e.1 :: keysOf r
    rw [List.mem_cons]
    constructor
    · rintro ((h | h) | h)
      · exact .inl h
      · exact .inr (.inl h)
      · exact .inr (.inr h)
    · rintro (h | h | h)
      · exact .inl (.inl h)
      · exact .inl (.inr h)
      · exact .inr h
theorem lessG_nd (p f : Int) : ∀ (other row : Tab), (keysOf row).Nodup → (keysOf (lessG p f other row)).Nodup
  | [], row, h => h
  | e :: r, row, h => lessG_nd p f r _ (nodup_put h _ _)
theorem lessG_get (p f : Int) : ∀ (other row : Tab) (c : List Int), (keysOf other).Nodup → getT (lessG p f other row) c = if c ∈ keysOf other then (getT row c - f * getT other c) % p else getT row c
  | [], row, c, _ => by
    rw [if_neg (fun z => by cases z)]
    rfl
  | e :: r, row, c, nd => by
    obtain ⟨n1, n2⟩ := List.nodup_cons.mp (show (e.1 :: keysOf r).Nodup from nd)
    show getT (lessG p f r (subT p f row e)) c = _
    rw [lessG_get p f r _ c n2, subT]
    have hk : (c ∈ keysOf (e :: r)) ↔ c = e.1 ∨ c ∈ keysOf r := List.mem_cons
    by_cases h1 : c ∈ keysOf r
    · have h2 : c ≠ e.1 := fun z => n1 (by rw [← z]; exact h1)
      rw [if_pos h1, if_pos (hk.mpr (.inr h1)), getT_put, if_neg h2]
      have : getT (e :: r) c = getT r c := by unfold getT; rw [lookT_cons, if_neg (fun z => h2 z.symm)]
      rw [this]
    · rw [if_neg h1, getT_put]
      by_cases h2 : c = e.1
      · rw [if_pos h2, if_pos (hk.mpr (.inl h2))]
        have : getT (e :: r) c = e.2 := by unfold getT; rw [lookT_cons, if_pos h2.symm]; rfl
        rw [this, h2]
      · rw [if_neg h2, if_neg (fun z => (hk.mp z).elim h2 h1)]
theorem look_fil {q : Int → Bool} : ∀ {L : Tab} (c : List Int), (keysOf L).Nodup → lookT (L.filter fun e => q e.2) c = (lookT L c).filter q
  | [], c, _ => rfl
  | e :: r, c, nd => by
    obtain ⟨n1, n2⟩ := List.nodup_cons.mp (show (e.1 :: keysOf r).Nodup from nd)
    rw [lookT_cons, List.filter_cons]
    by_cases h : q e.2 = true
    · rw [if_pos h, lookT_cons, look_fil c n2]
      by_cases h2 : e.1 = c
      · rw [if_pos h2, if_pos h2]
        show _ = Option.filter q (some e.2)
        rw [Option.filter_some, if_pos h]
      · rw [if_neg h2, if_neg h2]
    · rw [if_neg h, look_fil c n2]
      by_cases h2 : e.1 = c
      · rw [if_pos h2, Option.filter_some, if_neg h, lookT_none.mpr (by rw [← h2]; exact n1)]
        rfl
      · rw [if_neg h2]
theorem lessT_get {p f : Int} {other row : Tab} (n1 : (keysOf other).Nodup) (n2 : (keysOf row).Nodup) (c : List Int) : getT (lessT p f other row) c = getT (lessG p f other row) c := by
  have h := look_fil (q := fun v => !decide (v = 0)) (L := lessG p f other row) c (lessG_nd p f _ _ n2)
  unfold getT lessT
  rw [h]
  cases e : lookT (lessG p f other row) c with
  | none => rfl
  | some v =>
    rw [Option.filter_some]
    by_cases hv : v = 0
    · subst hv; rfl
    · rw [if_pos (by simpa using hv)]
theorem keys_fil {q : List Int × Int → Bool} {L : Tab} : (keysOf (L.filter q)).Sublist (keysOf L) := by
  unfold keysOf
  exact List.filter_sublist.map _
theorem lessT_keys {p f : Int} {other row : Tab} {c : List Int} (h : c ∈ keysOf (lessT p f other row)) : c ∈ keysOf row ∨ c ∈ keysOf other := (lessG_keys p f other row c).mp (keys_fil.mem h)
theorem val_get {R : Tab} (nd : (keysOf R).Nodup) {c : List Int} (h : c ∈ keysOf R) : (c, getT R c) ∈ R := by
  have := lookT_mem (look_get h)
  exact this
theorem get_in {R : Tab} (nd : (keysOf R).Nodup) {e : List Int × Int} (h : e ∈ R) : getT R e.1 = e.2 := by
  unfold getT
  rw [getT_mem nd h]
  rfl
theorem lessT_ok {p : Nat} {f : Int} {other row : Tab} (hp : 0 < p) (n1 : (keysOf other).Nodup) (h : RowOk p row) : RowOk p (lessT p f other row) where
  nd := (lessG_nd p f other row h.nd).sublist keys_fil
  v := fun e he => by
    obtain ⟨h1, h2⟩ := List.mem_filter.mp he
    have nd2 := lessG_nd p f other row h.nd
    have e1 := get_in nd2 h1
    rw [lessG_get _ _ _ _ _ n1] at e1
    have hz : e.2 ≠ 0 := by simpa using h2
    have hp2 : (0 : Int) < p := by omega
    split at e1
    · have a := Int.emod_nonneg (getT row e.1 - f * getT other e.1) (show (p : Int) ≠ 0 by omega)
      have b := Int.emod_lt_of_pos (getT row e.1 - f * getT other e.1) hp2
      omega
    · rename_i hn
      have hk : e.1 ∈ keysOf row := ((lessG_keys p f other row e.1).mp (List.mem_map_of_mem h1)).resolve_right hn
      have := h.v _ (val_get h.nd hk)
      rw [e1] at this
      exact this
theorem lessT_mod {p : Nat} {f : Int} {other row : Tab} (n1 : (keysOf other).Nodup) (h : (keysOf row).Nodup) (c : List Int) : LA.modP p (getT (lessT p f other row) c - (getT row c - f * getT other c)) := by
  rw [lessT_get n1 h, lessG_get _ _ _ _ _ n1]
  split
  · refine ⟨-((getT row c - f * getT other c) / p), ?_⟩
    rw [Int.emod_def]
    grind
  · rename_i hn
    rw [get_none hn]
    refine ⟨0, by rw [Int.mul_zero]; omega⟩
end DL

/-! k40: ranks by taking off, the states of both loops. -/
namespace DL
open LA (Prm IsRk Span modP)
theorem span_two {κ : Type} {P : Int → Prop} (h : Prm P) {R : List (κ → Int)} {v w x : κ → Int} {f : Int} (hv : Span P R v) (hw : Span P R w) (hx : ∀ c, P (x c - (v c - f * w c))) : Span P R x :=
  LA.span_trans h (R' := [v, w]) (fun u hu => by
    rcases List.mem_cons.mp hu with e | hu
    · rw [e]; exact hv
    · rw [List.mem_singleton.mp hu]; exact hw) ⟨1, h.one, [(1, v), (-f, w)], fun e he => by
    rcases List.mem_cons.mp he with e | he
    · rw [e]; exact List.mem_cons_self
    · rw [List.mem_singleton.mp he]; exact List.mem_cons_of_mem _ List.mem_cons_self, fun c => by
    show P (1 * x c - (1 * v c + (-f * w c + 0)))
    rw [show 1 * x c - (1 * v c + (-f * w c + 0)) = x c - (v c - f * w c) by grind]
    exact hx c⟩
/-! ### the package's rows and heads -/
def rowB (p : Nat) (t : List Int) : Tab := (List.range t.length).map fun i : Nat => (t.eraseIdx i, if ((i : Nat) : Int) % 2 = 1 then -1 % (p : Int) else 1)
theorem rowB_keys (p : Nat) (t : List Int) : keysOf (rowB p t) = dropsL t := by
  unfold keysOf rowB
  rw [List.map_map, drops_erase]
  rfl
theorem drops_nd {t : List Int} (h : t.Nodup) : (dropsL t).Nodup := by
  rw [drops_erase]
  exact LA.map_nodup List.nodup_range fun i hi j hj e => LA.erase_inj h (List.mem_range.mp hi) (List.mem_range.mp hj) e
theorem neg_mod {p : Nat} (hp : 2 ≤ p) : (-1 : Int) % (p : Int) = p - 1 := by
  rw [Int.emod_def]
  have : (-1 : Int) / (p : Int) = -1 := Int.ediv_eq_neg_one_of_neg_of_le (by omega) (by omega)
  rw [this]
  omega
theorem rowB_ok {p : Nat} (hp : 2 ≤ p) {t : List Int} (h : t.Nodup) : RowOk p (rowB p t) where
  nd := by rw [rowB_keys]; exact drops_nd h
  v := fun e he => by
    obtain ⟨i, hi, rfl⟩ := List.mem_map.mp he
    dsimp only
    split
    · rw [neg_mod hp]; omega
    · omega
theorem rowB_get {p : Nat} (hp : 2 ≤ p) {t : List Int} (h : t.Nodup) (c : List Int) : modP p (getT (rowB p t) c - LA.bd t c) := by
  have nd := (rowB_ok hp h).nd
  by_cases hc : c ∈ keysOf (rowB p t)
  · rw [rowB_keys, drops_erase] at hc
    obtain ⟨i, hi, rfl⟩ := List.mem_map.mp hc
    have hi2 := List.mem_range.mp hi
    rw [LA.bd_face h hi2]
    have hm : (t.eraseIdx i, if ((i : Nat) : Int) % 2 = 1 then -1 % (p : Int) else 1) ∈ rowB p t := List.mem_map.mpr ⟨i, hi, rfl⟩
    have e := get_in nd hm
    rw [e]
    unfold LA.sg
    dsimp only
    split
    · rw [if_neg (by omega), neg_mod hp]
      exact ⟨1, by omega⟩
    · rw [if_pos (by omega)]
      exact ⟨0, by omega⟩
  · rw [get_none hc, LA.bd_non fun i hi e => hc (by rw [rowB_keys, drops_erase, ← e]; exact List.mem_map_of_mem (List.mem_range.mpr hi))]
    exact ⟨0, by omega⟩
structure HeadOk (p : Nat) (U : List (List Int)) (H : List (List Int × Tab)) : Prop where
  nd : (H.map (·.1)).Nodup
  ok : ∀ e ∈ H, (keysOf e.2).Nodup ∧ (∀ x ∈ e.2, 0 ≤ x.2 ∧ x.2 < p) ∧ getT e.2 e.1 = 1 ∧ ∀ c ∈ keysOf e.2, ¬ e.1 < c ∧ c ∈ U
structure RB (p : Nat) (U : List (List Int)) (H : List (List Int × Tab)) (done : List (List Int)) : Prop where
  hd : HeadOk p U H
  up : ∀ e ∈ H, Span (modP p) (done.map LA.bd) (getT e.2)
  dn : ∀ t ∈ done, Span (modP p) (H.map fun e => getT e.2) (LA.bd t)
structure RowSt (p : Nat) (U : List (List Int)) (H : List (List Int × Tab)) (done : List (List Int)) (t : List Int) (row : Tab) : Prop where
  ok : RowOk p row
  inU : ∀ c ∈ keysOf row, c ∈ U
  up : Span (modP p) ((done ++ [t]).map LA.bd) (getT row)
  dn : Span (modP p) (getT row :: H.map fun e => getT e.2) (LA.bd t)
section
variable {p : Nat} {U done : List (List Int)} {H : List (List Int × Tab)} {t : List Int} {row : Tab}
theorem RB.start : RB p U [] [] := ⟨⟨List.nodup_nil, fun e he => by cases he⟩, fun e he => (by cases he), fun t ht => (by cases ht)⟩
theorem RB.rowS (hp : LA.Irr p) (h : RB p U H done) (ht : t.Nodup) (hU : ∀ c ∈ dropsL t, c ∈ U) : RowSt p U H done t (rowB p t) where
  ok := rowB_ok hp.1 ht
  inU := fun c hc => hU c (by rw [← rowB_keys p]; exact hc)
  up := LA.span_mod (LA.prm_mod hp) (m := 1) (LA.prm_mod hp).one (w := LA.bd t) (by simp) (a := 1) fun c => by
    have := rowB_get hp.1 ht c
    rwa [show 1 * getT (rowB p t) c - 1 * LA.bd t c = getT (rowB p t) c - LA.bd t c by omega]
  dn := LA.span_mod (LA.prm_mod hp) (m := 1) (LA.prm_mod hp).one (w := getT (rowB p t)) List.mem_cons_self (a := 1) fun c => by
    have := (LA.prm_mod hp).neg (rowB_get hp.1 ht c)
    rwa [show 1 * LA.bd t c - 1 * getT (rowB p t) c = -(getT (rowB p t) c - LA.bd t c) by omega]
theorem RowSt.step (hp : LA.Irr p) (h : RB p U H done) (r : RowSt p U H done t row) {e : List Int × Tab} (he : e ∈ H) (hk : e.1 ∈ keysOf row) (hm : ∀ y ∈ keysOf row, ¬ e.1 < y) :
    RowSt p U H done t (lessT p (getT row e.1) e.2 row) ∧ ∀ c ∈ keysOf (lessT p (getT row e.1) e.2 row), c < e.1 := by
  obtain ⟨n1, _, h1, h2⟩ := h.hd.ok e he
  have hP := LA.prm_mod hp
  have hmod := fun c => lessT_mod (p := p) (f := getT row e.1) n1 r.ok.nd c
  have hok := lessT_ok (p := p) (f := getT row e.1) (other := e.2) (by have := hp.1; omega) n1 r.ok
  have hin : ∀ R : List (List Int → Int), (∀ v ∈ done.map LA.bd, v ∈ R) → Span (modP p) R (getT e.2) := fun R hR => LA.span_mono hR (h.up e he)
  refine ⟨⟨hok, fun c hc => ?_, ?_, ?_⟩, fun c hc => ?_⟩
  · rcases lessT_keys hc with z | z
    · exact r.inU c z
    · exact (h2 c z).2
  · exact span_two hP r.up (hin _ fun v hv => by rw [List.map_append]; exact List.mem_append_left _ hv) hmod
  · refine LA.span_trans hP (R' := getT row :: H.map fun e => getT e.2) (fun v hv => ?_) r.dn
    rcases List.mem_cons.mp hv with z | z
    · rw [z]
      refine span_two hP (v := getT (lessT p (getT row e.1) e.2 row)) (w := getT e.2) (f := -getT row e.1) (LA.span_self hP List.mem_cons_self) (LA.span_self hP (List.mem_cons_of_mem _ (List.mem_map.mpr ⟨e, he, rfl⟩))) fun c => ?_
      have := hP.neg (hmod c)
      rwa [show getT row c - (getT (lessT p (getT row e.1) e.2 row) c - -getT row e.1 * getT e.2 c) = -(getT (lessT p (getT row e.1) e.2 row) c - (getT row c - getT row e.1 * getT e.2 c)) by grind]
    · exact LA.span_self hP (List.mem_cons_of_mem _ z)
  · have hle : ¬ e.1 < c := by
      rcases lessT_keys hc with z | z
      · exact hm c z
      · exact (h2 c z).1
    rcases lt_tri c e.1 with q | q | q
    · exact q
    · exfalso
      subst q
      have h3 := hok.v _ (val_get hok.nd hc)
      have h4 := hmod e.1
      rw [h1, show getT row e.1 - getT row e.1 * 1 = 0 by omega, Int.sub_zero] at h4
      have := Int.le_of_dvd (by exact h3.1) h4
      have h5 : getT (lessT p (getT row e.1) e.2 row) e.1 < p := h3.2
      omega
    · exact absurd q hle
theorem RB.skip (hp : LA.Irr p) (h : RB p U H done) (r : RowSt p U H done t []) : RB p U H (done ++ [t]) where
  hd := h.hd
  up := fun e he => LA.span_mono (fun v hv => by rw [List.map_append]; exact List.mem_append_left _ hv) (h.up e he)
  dn := fun u hu => by
    rcases List.mem_append.mp hu with z | z
    · exact h.dn u z
    · rw [List.mem_singleton.mp z]
      refine LA.span_trans (LA.prm_mod hp) (fun v hv => ?_) r.dn
      rcases List.mem_cons.mp hv with z | z
      · rw [z]
        exact LA.span_zero (LA.prm_mod hp) fun c => ⟨0, by show (0 : Int) = _; omega⟩
      · exact LA.span_self (LA.prm_mod hp) z
def scaleT (b p : Int) (R : Tab) : Tab := R.map fun e => (e.1, e.2 * b % p)
theorem scale_keys (b p : Int) (R : Tab) : keysOf (scaleT b p R) = keysOf R := by
  unfold keysOf scaleT
  rw [List.map_map]
  rfl
theorem scale_get (b p : Int) : ∀ (R : Tab) (c : List Int), getT (scaleT b p R) c = getT R c * b % p
  | [], c => by show (0 : Int) = 0 * b % p; simp
  | e :: R, c => by
    have ih := scale_get b p R c
    unfold getT at ih ⊢
    show (lookT ((e.1, e.2 * b % p) :: scaleT b p R) c).getD 0 = (lookT (e :: R) c).getD 0 * b % p
    rw [lookT_cons, lookT_cons]
    by_cases h : e.1 = c
    · rw [if_pos h, if_pos h]; rfl
    · rw [if_neg h, if_neg h]; exact ih
theorem RB.put (hp : LA.Irr p) (h : RB p U H done) (r : RowSt p U H done t row) {l : List Int} {b : Int} (hk : l ∈ keysOf row) (hm : ∀ y ∈ keysOf row, ¬ l < y) (hn : l ∉ H.map (·.1)) (hb : IsInv (getT row l) p b) :
    RB p U (H ++ [(l, scaleT b p row)]) (done ++ [t]) := by
  have hP := LA.prm_mod hp
  have hp2 := hp.1
  have hp0 : (p : Int) ≠ 0 := by omega
  have hmod : ∀ c, modP p (getT (scaleT b p row) c - getT row c * b) := fun c => by
    rw [scale_get]
    refine ⟨-(getT row c * b / p), ?_⟩
    rw [Int.emod_def]
    grind
  have hnb : ¬ modP p b := fun z => by
    have h1 : modP p (getT row l * b) := hP.mul _ z
    have h2 := Int.emod_eq_zero_of_dvd h1
    rw [hb.2.2, Int.emod_eq_of_lt (by omega) (by omega)] at h2
    omega
  refine ⟨⟨?_, fun e he => ?_⟩, fun e he => ?_, fun u hu => ?_⟩
  · rw [List.map_append]
    refine List.nodup_append.mpr ⟨h.hd.nd, List.pairwise_singleton _ _, fun a ha c hc => ?_⟩
    rw [List.mem_singleton.mp hc]
    exact fun z => hn (by have z2 : a = l := z; rw [← z2]; exact ha)
  · rcases List.mem_append.mp he with z | z
    · exact h.hd.ok e z
    · rw [List.mem_singleton.mp z]
      refine ⟨by rw [scale_keys]; exact r.ok.nd, fun x hx => ?_, ?_, fun c hc => ?_⟩
      · obtain ⟨y, _, rfl⟩ := List.mem_map.mp hx
        exact ⟨Int.emod_nonneg _ hp0, Int.emod_lt_of_pos _ (by omega)⟩
      · show getT (scaleT b p row) l = 1
        rw [scale_get, hb.2.2, Int.emod_eq_of_lt (by omega) (by omega)]
      · rw [scale_keys] at hc
        exact ⟨hm c hc, r.inU c hc⟩
  · rcases List.mem_append.mp he with z | z
    · exact LA.span_mono (fun v hv => by rw [List.map_append]; exact List.mem_append_left _ hv) (h.up e z)
    · rw [List.mem_singleton.mp z]
      refine LA.span_trans hP (R' := [getT row]) (fun v hv => by rw [List.mem_singleton.mp hv]; exact r.up) ?_
      refine LA.span_mod hP (m := 1) hP.one (w := getT row) (by simp) (a := b) fun c => ?_
      have := hmod c
      rwa [show 1 * getT (l, scaleT b p row).2 c - b * getT row c = getT (scaleT b p row) c - getT row c * b by grind]
  · have hmono : ∀ v ∈ H.map (fun e => getT e.2), v ∈ (H ++ [(l, scaleT b p row)]).map fun e => getT e.2 := fun v hv => by rw [List.map_append]; exact List.mem_append_left _ hv
    rcases List.mem_append.mp hu with z | z
    · exact LA.span_mono hmono (h.dn u z)
    · rw [List.mem_singleton.mp z]
      refine LA.span_trans hP (fun v hv => ?_) r.dn
      rcases List.mem_cons.mp hv with z | z
      · rw [z]
        refine LA.span_mod hP (m := b) hnb (w := getT (scaleT b p row)) (by rw [List.map_append]; exact List.mem_append_right _ (by simp)) (a := 1) fun c => ?_
        have := hP.neg (hmod c)
        rwa [show b * getT row c - 1 * getT (scaleT b p row) c = -(getT (scaleT b p row) c - getT row c * b) by grind]
      · exact LA.span_self hP (hmono v z)
theorem RB.fin (hp : LA.Irr p) (h : RB p U H done) : IsRk (modP p) (done.map LA.bd) H.length := by
  have hP := LA.prm_mod hp
  have h1 := LA.ech_rk hP (lt := fun a b : List Int => a < b) lt_tri (fun h h2 => lt_trans' h h2) H.length (H := H.map fun e => (e.1, getT e.2)) (by rw [List.length_map]) (by rw [List.map_map]; exact h.hd.nd) fun e he => by
    obtain ⟨x, hx, rfl⟩ := List.mem_map.mp he
    obtain ⟨_, _, a, b⟩ := h.hd.ok x hx
    refine ⟨?_, fun c hc => ?_⟩
    · show ¬ modP p (getT x.2 x.1)
      rw [a]
      exact hP.one
    · show modP p (getT x.2 c)
      rw [get_none fun z => (b c z).1 hc]
      exact hP.zero
  rw [List.map_map] at h1
  have h1 : IsRk (modP p) (H.map fun e => getT e.2) H.length := h1
  refine LA.rk_eq hP (R := H.map fun e => getT e.2) (fun v hv => ?_) (fun v hv => ?_) h1
  · obtain ⟨u, hu, rfl⟩ := List.mem_map.mp hv
    exact h.dn u hu
  · obtain ⟨e, he, rfl⟩ := List.mem_map.mp hv
    exact h.up e he
/-- how many places are left -/
def meas (U : List (List Int)) (row : Tab) : Nat := (U.filter fun u => (keysOf row).any fun c => decide (¬ c < u)).length
theorem fil_lt {α : Type} {q r : α → Bool} : ∀ {l : List α}, (∀ x ∈ l, q x = true → r x = true) → (∃ x ∈ l, r x = true ∧ q x = false) → (l.filter q).length < (l.filter r).length
  | [], _, ⟨x, h, _⟩ => by cases h
  | a :: l, h, ⟨x, hx, h1, h2⟩ => by
    have hle : (l.filter q).length ≤ (l.filter r).length := by
      have : ∀ {l : List α}, (∀ x ∈ l, q x = true → r x = true) → (l.filter q).length ≤ (l.filter r).length := by
        intro l
        induction l with
        | nil => intro _; exact Nat.le_refl _
        | cons b l ih =>
          intro h
          have i := ih fun x hx => h x (List.mem_cons_of_mem _ hx)
          rw [List.filter_cons, List.filter_cons]
          by_cases c : q b = true
          · rw [if_pos c, if_pos (h b List.mem_cons_self c), List.length_cons, List.length_cons]; omega
          · rw [if_neg c]
            split
            · rw [List.length_cons]; omega
            · exact i
      exact this fun x hx => h x (List.mem_cons_of_mem _ hx)
    rw [List.filter_cons, List.filter_cons]
    rcases List.mem_cons.mp hx with e | hx
    · rw [← e, if_neg (by rw [h2]; decide), if_pos h1, List.length_cons]; omega
    · have ih := fil_lt (l := l) (fun x hx => h x (List.mem_cons_of_mem _ hx)) ⟨x, hx, h1, h2⟩
      by_cases c : q a = true
      · rw [if_pos c, if_pos (h a List.mem_cons_self c), List.length_cons, List.length_cons]; omega
      · rw [if_neg c]
        split
        · rw [List.length_cons]; omega
        · exact ih
theorem meas_lt {row row' : Tab} {l : List Int} (hl : l ∈ keysOf row) (hU : l ∈ U) (h : ∀ c ∈ keysOf row', c < l) : meas U row' < meas U row := by
  refine fil_lt (fun u hu hq => ?_) ⟨l, hU, ?_, ?_⟩
  · obtain ⟨c, hc, hq⟩ := List.any_eq_true.mp hq
    have hq2 : ¬ c < u := of_decide_eq_true hq
    refine List.any_eq_true.mpr ⟨l, hl, decide_eq_true fun z => ?_⟩
    exact hq2 (lt_trans' (h c hc) z)
  · exact List.any_eq_true.mpr ⟨l, hl, decide_eq_true (lt_ir40 l)⟩
  · rw [List.any_eq_false]
    intro c hc
    simpa using h c hc
end
/-! ### the law's rows -/
def lineL (j : Nat) (x v : List Int) : List Int := List.zipWith (fun a b => x.getD j 0 * a - v.getD j 0 * b) v x
def gcdL (l : List Int) : Nat := l.foldl (fun g e => Nat.gcd g e.natAbs) 0
def shortL (l : List Int) : List Int := if 1 < gcdL l then l.map fun e => e / ((gcdL l : Nat) : Int) else l
def rowL (p j : Nat) (x v : List Int) : List Int := if p = 0 then shortL (lineL j x v) else (lineL j x v).map fun e => e % (p : Int)
theorem gcdL_dvd (l : List Int) : ∀ e ∈ l, ((gcdL l : Nat) : Int) ∣ e := by
  have key : ∀ (l : List Int) (g : Nat), (l.foldl (fun g e => Nat.gcd g e.natAbs) g) ∣ g ∧ ∀ e ∈ l, (l.foldl (fun g e => Nat.gcd g e.natAbs) g) ∣ e.natAbs := by
    intro l
    induction l with
    | nil => intro g; exact ⟨Nat.dvd_refl _, fun e he => by cases he⟩
    | cons a l ih =>
      intro g
      obtain ⟨h1, h2⟩ := ih (Nat.gcd g a.natAbs)
      refine ⟨Nat.dvd_trans h1 (Nat.gcd_dvd_left _ _), fun e he => ?_⟩
      rcases List.mem_cons.mp he with z | z
      · rw [z]; exact Nat.dvd_trans h1 (Nat.gcd_dvd_right _ _)
      · exact h2 e z
  intro e he
  exact Int.natAbs_dvd_natAbs.mp (by rw [Int.natAbs_natCast]; exact (key l 0).2 e he)
theorem shortL_is (l : List Int) : ∃ d : Int, d ≠ 0 ∧ (shortL l).length = l.length ∧ (∀ c, d * LA.fn (shortL l) c = LA.fn l c) ∧ ∀ B : Nat, (∀ x ∈ l, x.natAbs ≤ B) → ∀ x ∈ shortL l, x.natAbs ≤ B := by
  unfold shortL
  split
  · rename_i h
    refine ⟨(gcdL l : Nat), by omega, by rw [List.length_map], fun c => ?_, fun B hB x hx => ?_⟩
    · unfold LA.fn
      rw [List.getD_eq_getElem?_getD, List.getD_eq_getElem?_getD, List.getElem?_map]
      cases e : l[c]? with
      | none => show _ * (0 : Int) = 0; omega
      | some y =>
        show ((gcdL l : Nat) : Int) * (y / ((gcdL l : Nat) : Int)) = y
        exact Int.mul_ediv_cancel' (gcdL_dvd l y (List.mem_of_getElem? e))
    · obtain ⟨y, hy, rfl⟩ := List.mem_map.mp hx
      have h1 := hB y hy
      have h2 := gcdL_dvd l y hy
      obtain ⟨q, hq⟩ := h2
      have : y / ((gcdL l : Nat) : Int) = q := by rw [hq]; exact Int.mul_ediv_cancel_left _ (by omega)
      rw [this]
      have h3 : y.natAbs = gcdL l * q.natAbs := by
        have := congrArg Int.natAbs hq
        rwa [Int.natAbs_mul, Int.natAbs_natCast] at this
      have : q.natAbs ≤ gcdL l * q.natAbs := Nat.le_mul_of_pos_left _ (by omega)
      omega
  · exact ⟨1, by decide, rfl, fun c => by omega, fun B hB => hB⟩
def bb : Nat → Nat
  | 0 => 1
  | k + 1 => 2 * (bb k * bb k)
theorem line_at {j : Nat} {x v : List Int} (hl : v.length = x.length) (c : Nat) : LA.fn (lineL j x v) c = LA.fn x j * LA.fn v c - LA.fn v j * LA.fn x c := by
  unfold lineL LA.fn
  rw [List.getD_eq_getElem?_getD, List.getElem?_zipWith]
  by_cases hc : c < v.length
  · rw [List.getElem?_eq_getElem hc, List.getElem?_eq_getElem (show c < x.length by omega), List.getD_eq_getElem?_getD (l := v) (i := c), List.getElem?_eq_getElem hc, List.getD_eq_getElem?_getD (l := x) (i := c), List.getElem?_eq_getElem (show c < x.length by omega)]
    rfl
  · rw [List.getElem?_eq_none (Nat.not_lt.mp hc), List.getD_eq_getElem?_getD (l := v) (i := c), List.getElem?_eq_none (Nat.not_lt.mp hc), List.getD_eq_getElem?_getD (l := x) (i := c), List.getElem?_eq_none (show x.length ≤ c by omega)]
    simp
theorem fn_mem {v : List Int} {j : Nat} (h : j < v.length) : LA.fn v j ∈ v := by
  unfold LA.fn
  rw [List.getD_eq_getElem?_getD, List.getElem?_eq_getElem h]
  exact List.getElem_mem h
theorem fn_abs {v : List Int} {B : Nat} (h : ∀ x ∈ v, x.natAbs ≤ B) (j : Nat) : (LA.fn v j).natAbs ≤ B := by
  by_cases c : j < v.length
  · exact h _ (fn_mem c)
  · unfold LA.fn
    rw [List.getD_eq_getElem?_getD, List.getElem?_eq_none (Nat.not_lt.mp c)]
    exact Nat.zero_le _
theorem line_abs {j : Nat} {x v : List Int} {B : Nat} (hx : ∀ y ∈ x, y.natAbs ≤ B) (hv : ∀ y ∈ v, y.natAbs ≤ B) : ∀ y ∈ lineL j x v, y.natAbs ≤ 2 * (B * B) := fun y hy => by
  unfold lineL at hy
  obtain ⟨i, hi, e⟩ := List.mem_iff_getElem.mp hy
  rw [List.getElem_zipWith] at e
  have hi2 : i < v.length ∧ i < x.length := by rw [List.length_zipWith] at hi; omega
  have a := fn_abs hx j
  have b := fn_abs hv j
  have c := hv _ (List.getElem_mem hi2.1)
  have d := hx _ (List.getElem_mem hi2.2)
  have h1 := Nat.mul_le_mul a c
  have h2 := Nat.mul_le_mul b d
  rw [← Int.natAbs_mul] at h1 h2
  unfold LA.fn at h1 h2
  rw [← e]
  have := Int.natAbs_sub_le (x.getD j 0 * v[i]) (v.getD j 0 * x[i])
  omega
theorem elim2 {κ : Type} {P : Int → Prop} (h : Prm P) {x : κ → Int} {R R' : List (κ → Int)} {g : κ} (hx : ¬ P (x g))
    (h1 : ∀ v' ∈ R', P (v' g) ∧ ∃ v ∈ R, ∃ d m a : Int, ¬ P d ∧ ∀ c, P (d * v' c - (m * v c - a * x c)))
    (h2 : ∀ v ∈ R, ∃ v' ∈ R', ∃ d m a : Int, ¬ P m ∧ ∀ c, P (d * v' c - (m * v c - a * x c))) {k : Nat} (hk : IsRk P R' k) : IsRk P (x :: R) (k + 1) := by
  refine LA.rk_eq h (R := x :: R') (fun v hv => ?_) (fun v hv => ?_) (LA.step_rk h hx (fun v hv => (h1 v hv).1) hk)
  · rcases List.mem_cons.mp hv with e | hv
    · rw [e]; exact LA.span_self h List.mem_cons_self
    · obtain ⟨v', hv', d, m, a, hm, hc⟩ := h2 v hv
      refine ⟨m, hm, [(d, v'), (a, x)], fun e he => ?_, fun c => ?_⟩
      · rcases List.mem_cons.mp he with e1 | he
        · rw [e1]; exact List.mem_cons_of_mem _ hv'
        · rw [List.mem_singleton.mp he]; exact List.mem_cons_self
      · have := h.neg (hc c)
        show P (m * v c - (d * v' c + (a * x c + 0)))
        rw [show m * v c - (d * v' c + (a * x c + 0)) = -(d * v' c - (m * v c - a * x c)) by omega]
        exact this
  · rcases List.mem_cons.mp hv with e | hv
    · rw [e]; exact LA.span_self h List.mem_cons_self
    · obtain ⟨_, w, hw, d, m, a, hd, hc⟩ := h1 v hv
      refine ⟨d, hd, [(m, w), (-a, x)], fun e he => ?_, fun c => ?_⟩
      · rcases List.mem_cons.mp he with e1 | he
        · rw [e1]; exact List.mem_cons_of_mem _ hw
        · rw [List.mem_singleton.mp he]; exact List.mem_cons_self
      · show P (d * v c - (m * w c + (-a * x c + 0)))
        rw [show d * v c - (m * w c + (-a * x c + 0)) = d * v c - (m * w c - a * x c) by grind]
        exact hc c
theorem mod_zero : modP 0 = fun x : Int => x = 0 := by
  funext x
  unfold modP
  exact propext ⟨fun h => by simpa using h, fun h => by rw [h]; exact Int.dvd_zero _⟩
def OkP (p : Nat) : Prop := p = 0 ∨ LA.Irr p
theorem OkP.prm {p : Nat} (h : OkP p) : Prm (modP p) := by
  rcases h with e | h
  · rw [e, mod_zero]; exact LA.prm_zero
  · exact LA.prm_mod h
theorem row_is {p : Nat} (hp : OkP p) {j : Nat} {x v : List Int} (hl : v.length = x.length) : ∃ d : Int, ¬ modP p d ∧ (rowL p j x v).length = v.length ∧ (∀ c, modP p (d * LA.fn (rowL p j x v) c - (LA.fn x j * LA.fn v c - LA.fn v j * LA.fn x c))) ∧
    ∀ B : Nat, (∀ y ∈ x, y.natAbs ≤ B) → (∀ y ∈ v, y.natAbs ≤ B) → ∀ y ∈ rowL p j x v, y.natAbs ≤ (if p = 0 then 2 * (B * B) else p) := by
  have hll : (lineL j x v).length = v.length := by unfold lineL; rw [List.length_zipWith]; omega
  by_cases h0 : p = 0
  · subst h0
    obtain ⟨d, d0, h1, h2, h3⟩ := shortL_is (lineL j x v)
    unfold rowL
    rw [if_pos rfl]
    refine ⟨d, by rw [mod_zero]; exact d0, by rw [h1, hll], fun c => ?_, fun B hx hv => by rw [if_pos rfl]; exact h3 _ (line_abs hx hv)⟩
    rw [h2, line_at hl]
    exact ⟨0, by omega⟩
  · unfold rowL
    rw [if_neg h0]
    refine ⟨1, hp.prm.one, by rw [List.length_map, hll], fun c => ?_, fun B _ _ y hy => ?_⟩
    · rw [← line_at hl]
      unfold LA.fn
      rw [List.getD_eq_getElem?_getD, List.getElem?_map, List.getD_eq_getElem?_getD]
      cases e : (lineL j x v)[c]? with
      | none => exact ⟨0, by show 1 * (0 : Int) - 0 = _; omega⟩
      | some y =>
        refine ⟨-(y / p), ?_⟩
        show 1 * (y % (p : Int)) - y = _
        rw [Int.emod_def]
        grind
    · rw [if_neg h0]
      obtain ⟨z, _, rfl⟩ := List.mem_map.mp hy
      have a := Int.emod_nonneg z (show (p : Int) ≠ 0 by omega)
      have b := Int.emod_lt_of_pos z (show (0 : Int) < p by omega)
      omega
structure LR (p w : Nat) (R0 L : List (List Int)) (found place : Nat) : Prop where
  len : ∀ v ∈ L, v.length = w
  zr : ∀ v ∈ L, ∀ c, c < place → modP p (LA.fn v c)
  rk : ∀ k, IsRk (modP p) (L.map LA.fn) k → IsRk (modP p) (R0.map LA.fn) (found + k)
  bd : ∀ v ∈ L, ∀ x ∈ v, x.natAbs ≤ (if p = 0 then bb found else p)
section
variable {p w found place : Nat} {R0 L : List (List Int)}
theorem LR.next (h : LR p w R0 L found place) (hz : ∀ v ∈ L, modP p (LA.fn v place)) : LR p w R0 L found (place + 1) :=
  ⟨h.len, fun v hv c hc => by
    by_cases e : c = place
    · rw [e]; exact hz v hv
    · exact h.zr v hv c (by omega), h.rk, h.bd⟩
theorem LR.fin (hp : OkP p) (h : LR p w R0 L found place) (hz : L = [] ∨ w ≤ place) : IsRk (modP p) (R0.map LA.fn) found := h.rk 0 (LA.zero_rk hp.prm fun v hv c => by
  obtain ⟨r, hr, rfl⟩ := List.mem_map.mp hv
  rcases hz with e | hz
  · rw [e] at hr; cases hr
  · by_cases hc : c < place
    · exact h.zr r hr c hc
    · unfold LA.fn
      rw [List.getD_eq_getElem?_getD, List.getElem?_eq_none (by rw [h.len r hr]; omega)]
      exact hp.prm.zero)
theorem LR.le (hp : OkP p) (h : LR p w R0 L found place) {K : Nat} (hK : IsRk (modP p) (R0.map LA.fn) K) : found ≤ K := by
  obtain ⟨k, hk⟩ := LA.rk_ex hp.prm (L.map LA.fn)
  have := (h.rk k hk).uniq hp.prm hK
  omega
theorem mem_erase {α : Type} {l : List α} {i : Nat} {x : α} (hx : l[i]? = some x) (v : α) : v ∈ x :: l.eraseIdx i ↔ v ∈ l := by
  have hi := (List.getElem?_eq_some_iff.mp hx).1
  have e : l = l.take i ++ x :: l.drop (i + 1) := by
    have h1 := (List.getElem?_eq_some_iff.mp hx).2
    rw [← h1, List.getElem_cons_drop, List.take_append_drop]
  rw [List.eraseIdx_eq_take_drop_succ, List.mem_cons, List.mem_append]
  conv => rhs; rw [e]
  rw [List.mem_append, List.mem_cons]
  exact ⟨fun h => h.elim (fun e => .inr (.inl e)) fun h => h.elim .inl fun h => .inr (.inr h), fun h => h.elim (fun h => .inr (.inl h)) fun h => h.elim .inl fun h => .inr (.inr h)⟩
theorem LR.piv (hp : OkP p) (h : LR p w R0 L found place) {i : Nat} {x : List Int} (hx : L[i]? = some x) (hn : ¬ modP p (LA.fn x place)) :
    LR p w R0 ((L.eraseIdx i).map (rowL p place x)) (found + 1) (place + 1) := by
  have hxL : x ∈ L := List.mem_of_getElem? hx
  have hsub : ∀ v ∈ L.eraseIdx i, v ∈ L := fun v hv => (mem_erase hx v).mp (List.mem_cons_of_mem _ hv)
  have hlen : ∀ v ∈ L, v.length = x.length := fun v hv => by rw [h.len v hv, h.len x hxL]
  have hat : ∀ v ∈ L, modP p (LA.fn (rowL p place x v) place) := fun v hv => by
    obtain ⟨d, hd, _, hc, _⟩ := row_is hp (j := place) (hlen v hv)
    have h1 := hc place
    rw [show LA.fn x place * LA.fn v place - LA.fn v place * LA.fn x place = 0 by grind, Int.sub_zero] at h1
    exact (hp.prm.pr h1).resolve_left hd
  refine ⟨fun v hv => ?_, fun v hv c hc => ?_, fun k hk => ?_, fun v hv y hy => ?_⟩
  · obtain ⟨u, hu, rfl⟩ := List.mem_map.mp hv
    obtain ⟨_, _, hl, _, _⟩ := row_is hp (j := place) (hlen u (hsub u hu))
    rw [hl, h.len u (hsub u hu)]
  · obtain ⟨u, hu, rfl⟩ := List.mem_map.mp hv
    by_cases e : c = place
    · rw [e]; exact hat u (hsub u hu)
    · obtain ⟨d, hd, _, hcc, _⟩ := row_is hp (j := place) (hlen u (hsub u hu))
      have h1 := hcc c
      have h2 : modP p (LA.fn x place * LA.fn u c - LA.fn u place * LA.fn x c) := hp.prm.sub (hp.prm.mul _ (h.zr u (hsub u hu) c (by omega))) (hp.prm.mul _ (h.zr x hxL c (by omega)))
      have h3 := hp.prm.add h1 h2
      rw [show d * LA.fn (rowL p place x u) c - (LA.fn x place * LA.fn u c - LA.fn u place * LA.fn x c) + (LA.fn x place * LA.fn u c - LA.fn u place * LA.fn x c) = d * LA.fn (rowL p place x u) c by omega] at h3
      exact (hp.prm.pr h3).resolve_left hd
  · have := elim2 hp.prm (x := LA.fn x) (R := (L.eraseIdx i).map LA.fn) (R' := ((L.eraseIdx i).map (rowL p place x)).map LA.fn) (g := place) hn (fun v' hv' => by
      obtain ⟨r', hr', rfl⟩ := List.mem_map.mp hv'
      obtain ⟨r, hr, rfl⟩ := List.mem_map.mp hr'
      obtain ⟨d, hd, _, hc, _⟩ := row_is hp (j := place) (hlen r (hsub r hr))
      exact ⟨hat r (hsub r hr), LA.fn r, List.mem_map_of_mem hr, d, _, _, hd, hc⟩) (fun v hv => by
      obtain ⟨r, hr, rfl⟩ := List.mem_map.mp hv
      obtain ⟨d, hd, _, hc, _⟩ := row_is hp (j := place) (hlen r (hsub r hr))
      exact ⟨LA.fn (rowL p place x r), List.mem_map_of_mem (List.mem_map_of_mem hr), d, _, _, hn, hc⟩) hk
    have h2 := h.rk (k + 1) (LA.rk_mem (fun v => ?_) this)
    · rwa [show found + 1 + k = found + (k + 1) by omega]
    · rw [show LA.fn x :: (L.eraseIdx i).map LA.fn = (x :: L.eraseIdx i).map LA.fn from rfl, List.mem_map, List.mem_map]
      exact ⟨fun ⟨a, b, e⟩ => ⟨a, (mem_erase hx a).mp b, e⟩, fun ⟨a, b, e⟩ => ⟨a, (mem_erase hx a).mpr b, e⟩⟩
  · obtain ⟨u, hu, rfl⟩ := List.mem_map.mp hv
    obtain ⟨_, _, _, _, hb⟩ := row_is hp (j := place) (hlen u (hsub u hu))
    have := hb _ (h.bd x hxL) (h.bd u (hsub u hu)) y hy
    by_cases h0 : p = 0
    · rw [if_pos h0] at this ⊢
      rw [if_pos h0] at this
      exact this
    · rw [if_neg h0] at this ⊢
      exact this
end
end DL

/-! Deep layer MT: max of a dict whose keys are tuples of ints; dict(d) of such a dict that is still changed; xs.pop(i). -/
namespace DL
open PySem PySem.Spec PyProof.Rows L2
section
variable {X : Cx} {K : Fg}
def rMaxDT : List V → Hp → VK → Prop := fun vs H Q => ∃ (a : Addr) (kvs : List (List Key × V)) (k : List Int) (r : List (List Int)), vs = [V.ref a] ∧ Rd H a (.dT kvs) ∧ kvs.map (·.1) = (k :: r).map (·.map (Sum.inl : Int → Key)) ∧
  ∀ q, H q = some (.tup ((maxL k r).map V.int)) → Q (.ref q) H
theorem kt_at : ∀ {kvs : List (List Key × V)} {xs : List (List Key × Addr × Value)} {H : Hp}, KT H kvs xs → ∀ {j : Nat} {x : List Key × Addr × Value}, xs[j]? = some x → (kvs.map (·.1))[j]? = some x.1 ∧ H x.2.1 = some (.tup (x.1.map kV))
  | _, _, _, .nil, j, x, e => by simp at e
  | _, _, _, .cons h t, 0, x, e => by
    cases e
    exact ⟨by rw [← h.1]; rfl, by rw [← h.1]; exact h.2.1⟩
  | _, _, _, .cons h t, j + 1, x, e => by
    have := kt_at t (j := j) (x := x) (by simpa using e)
    exact ⟨by simpa using this.1, this.2⟩
theorem cr_maxDT (hc : X.calm = true) (hr : X.A.units + 64 < cLine) : CallR X (.builtin "max") rMaxDT := by
  intro pins s σ H vs us Q I r h
  obtain ⟨a, kvs, k0, r0, rfl, hd, hk, q⟩ := h
  rw [Vals.ref1 r]
  obtain ⟨z, hsys, xs, rel, dof⟩ := dt_rd I.hok hd
  obtain ⟨es, ep, draw, hsz, hes⟩ := dof.raw
  have hat := fun {j : Nat} {x : List Key × Addr × Value} (e : xs[j]? = some x) => kt_at rel e
  have hl : xs.length = r0.length + 1 := by
    have e1 := congrArg List.length hk
    rw [List.length_map, List.length_map, List.length_cons] at e1
    rw [← e1]
    exact (Paired.length rel).symm
  obtain ⟨o, ho, hx, hdat⟩ := id draw
  have hlt : a < s.heap.objs.size := Heap.lt_size ho
  -- the keys, in order, read as data
  let zs : List (List Int) := k0 :: r0
  have hkey : ∀ {j : Nat} {x : List Key × Addr × Value}, xs[j]? = some x → ∃ ns, zs[j]? = some ns ∧ H x.2.1 = some (.tup (ns.map V.int)) := fun {j x} e => by
    obtain ⟨e1, e2⟩ := hat e
    rw [hk, List.getElem?_map] at e1
    obtain ⟨ns, h1, h2⟩ := Option.map_eq_some_iff.mp e1
    refine ⟨ns, h1, ?_⟩
    rw [← h2, List.map_map] at e2
    exact e2
  have each : W.EachIs (fun (u : Value) (b : List Int) => ∃ as, Reads s.heap u (tuI b).py as) (xs.map fun x => Value.ref x.2.1) zs := by
    have key : ∀ {xs : List (List Key × Addr × Value)} {zs : List (List Int)}, xs.length = zs.length → (∀ {j : Nat} {x : List Key × Addr × Value}, xs[j]? = some x → ∃ ns, zs[j]? = some ns ∧ H x.2.1 = some (.tup (ns.map V.int))) →
        W.EachIs (fun (u : Value) (b : List Int) => ∃ as, Reads s.heap u (tuI b).py as) (xs.map fun x => Value.ref x.2.1) zs := by
      intro xs
      induction xs with
      | nil => intro zs hl _; cases zs with
        | nil => exact .nil
        | cons _ _ => simp at hl
      | cons x xs ih =>
        intro zs hl hx
        cases zs with
        | nil => simp at hl
        | cons y zs =>
          obtain ⟨ns, h1, h2⟩ := hx (j := 0) (x := x) rfl
          cases h1
          refine .cons (Dp.reads I _ _ _ ((show RD X.K H (tuI y) (.ref x.2.1) from .tup h2 (RDs.ofInts _)).dp (show plAll (y.map DV.int) = true from pl_tI y)) rfl) (ih (by simpa using hl) fun {j x'} e => ?_)
          exact hx (j := j + 1) (x := x') (by simpa using e)
    exact key (by rw [hl]; rfl) hkey
  obtain ⟨as, ra⟩ := W.each_readsAll (fun b : List Int => (tuI b).py) each
  have e1 : zs.map (fun b : List Int => (tuI b).py) = (tuI k0).py :: r0.map fun x => (tuI x).py := rfl
  rw [e1] at ra
  have hn : (xs.map fun x => Value.ref x.2.1).toArray.size = r0.length + 1 := by rw [List.size_toArray, List.length_map, hl]
  refine call_max_walkH (wpAny_pyIter_dict_raw hsys draw ?_)
  refine ⟨s.heap.objs.size, _, _, _, _, _, _, s.heap, _, rfl,
    ((Walks.keysH (A := X.A.in1) (I.ok.hd hc) s.heap.objs.size a (Nat.ne_of_lt hlt) es ep (xs := xs) fun i hi => let ⟨y, h1, h2, h3, _⟩ := hes i hi; ⟨y, h1, h2, h3⟩).mono_item
      (P' := fun i v => (xs.map fun x => Value.ref x.2.1).toArray[i]? = some v) fun i v hi ⟨y, h1, h2⟩ => by rw [h2]; simp [h1]).toS,
    ⟨⟨_, Heap.get?_push_size _ rfl, rfl, rfl⟩, ⟨o, Heap.get?_push_of_some _ ho, hx, hdat⟩⟩, fun b hb => ?_, by omega, fun b o e hb => ?_, fun b o e => Heap.get?_push_of_some _ e,
    W.cmpIn_gt (A := X.A.in1) (by simpa using ra) (alikeAll_tuI (k0 :: r0)) (by have := depthAll_tuI (k0 :: r0); rw [List.map_cons] at this; exact Nat.lt_of_le_of_lt (Nat.add_le_add_left this (X.A.units + 1)) (by omega)), fun v s' hP m => ?_⟩
  · show b < (s.heap.push _).objs.size
    rw [Heap.size_push]
    rcases List.mem_cons.mp hb with e | hb
    · rw [e]; exact Nat.lt_succ_self _
    · rw [List.mem_singleton.mp hb]; exact Nat.lt_succ_of_lt hlt
  · exact absurd (Heap.lt_size e) ((List.mem_singleton.mp hb) ▸ Nat.lt_irrefl _)
  · obtain ⟨h', tk, rfl, hk'⟩ := PySem.W.moved_old rfl rfl m
    have I3 : Inv X pins σ H { s with heap := h', toks := tk } := I.kept hk'
    have hP2 : (xs.map fun x => Value.ref x.2.1)[argBest (fun i j => W.dataLt (((tuI k0).py :: r0.map fun x => (tuI x).py).getD j .none) (((tuI k0).py :: r0.map fun x => (tuI x).py).getD i .none)) (es.size - 1)]? = some v := by simpa using hP
    rw [List.getElem?_map] at hP2
    obtain ⟨x, hx1, hx2⟩ := Option.map_eq_some_iff.mp hP2
    subst hx2
    obtain ⟨ns, hz1, hz2⟩ := hkey hx1
    have e2 := (W.argBest_fold (fun a b => W.dataLt b a) PyData.none (tuI k0).py (r0.map fun x => (tuI x).py) (r0.length) (by simp)).2
    rw [List.take_of_length_le (by simp)] at e2
    have e3 : es.size - 1 = r0.length := by omega
    rw [e3] at hz1
    have e4 : W.maxD (tuI k0).py (r0.map fun x => (tuI x).py) = (tuI ns).py := by
      unfold W.maxD
      rw [← e2, List.getD_eq_getElem?_getD]
      have : ((tuI k0).py :: r0.map fun x => (tuI x).py) = zs.map fun x => (tuI x).py := rfl
      rw [this] at hz1 ⊢
      rw [List.getElem?_map, hz1]
      rfl
    rw [maxD_tuI, py_tuI, py_tuI] at e4
    have eq : maxL k0 r0 = ns := by
      injection e4 with e4
      exact (List.map_inj_right (f := PyData.int) (fun a b h => by injection h)).mp e4
    exact ⟨.ref x.2.1, H, I3, rfl, q _ (by rw [eq]; exact hz2)⟩
def rrMaxDT : RRs := rr1 fun x g P => ∃ (k : List Int) (r : List (List Int)) (ds : List DV), dctT g x = some ((k :: r).map (·.map (Sum.inl : Int → Key)), ds) ∧ P (tuI (maxL k r))
theorem ref_maxDT : RefCall K rrMaxDT rMaxDT := by
  intro xs P vs H g Q rg r k h
  obtain ⟨x, v, rfl, rfl, rx, k0, r0, ds, e, h⟩ := rr1_of r h
  obtain ⟨a, kvs, rfl, hq, e1, _⟩ := dctT_of rg rx e
  exact ⟨a, kvs, k0, r0, rfl, hq, e1, fun q hq2 => .inl (k _ _ H Ext.refl rg (.tup hq2 (RDs.ofInts _)) h)⟩
theorem rd_maxDT {x : DV} {g : DG} {P : DV → Prop} {k : List Int} {r : List (List Int)} {ds : List DV} (e : dctT g x = some ((k :: r).map (·.map (Sum.inl : Int → Key)), ds)) (h : P (tuI (maxL k r))) : rrMaxDT [x] g P := ⟨k, r, ds, e, h⟩
/-! ### xs.pop(i) -/
theorem RDs.erase {H : Hp} : ∀ {ds : List DV} {vs : List V} (j : Nat), RDs K H ds vs → RDs K H (ds.eraseIdx j) (vs.eraseIdx j)
  | _, _, _, .nil => .nil
  | _, _, 0, .cons _ t => t
  | _, _, j + 1, .cons r t => .cons r (RDs.erase j t)
def rmPopAt : RRm := fun x xs g P => match xs with
  | [.int i] => atL x g fun p ds => (-(2 ^ 63) ≤ i ∧ i < 2 ^ 63) ∧ ∃ j y, ixN ds.length i = some j ∧ ds[j]? = some y ∧ P y (gup g p (.lst (ds.eraseIdx j)))
  | _ => False
theorem ref_popAt {K : Fg} : RefMt K rmPopAt rPopAt := by
  intro x xs P v vs H g Q rg rx rxs k h
  unfold rmPopAt at h
  split at h
  · obtain ⟨u, rfl, ru⟩ := rxs.inj1
    cases ru
    obtain ⟨p, ds, ws, rfl, rfl, eg, eh, rd, hb, j, y, hj, ey, h⟩ := atL_of rg rx h
    obtain ⟨u, hu, ru⟩ := rd.get ey
    exact ⟨p, ws, _, j, u, rfl, rfl, eh, hb.1, hb.2, by rw [← rd.length]; exact (ixN_seq hj).1, hu, k _ _ _ _ (Ext.set eg) (rg.set eg (rd.erase j)) (ru.mono (Kp.mut (by rw [eh]; exact True.intro))) h⟩
  · exact h.elim
theorem pd_popAt {o e : Expr} {to : TDE} {t : TDA} {apos cpos : Pos} (ho : PE X o (upE X.K to)) (ha : PA X [e] (upA X.K t)) (hbase : attributeBase o "pop" X.env (eval o X.env) = eval o X.env := by rfl)
    (hfew : ((backTo cpos (starEach [e] X.env)).all (fun x => !x.1) && (backToKw cpos (keywordEach [] X.env)).all (fun x => x.1.isSome)
      && decide ([e].length + ([] : List Keyword).length + (if ([] : List Keyword).isEmpty then 0 else 1) < 30)) = true := by rfl)
    (hline : (apos.endLine == cpos.line) = true := by rfl) (hs : starEach [e] X.env = (false, eval e X.env) :: starEach [] X.env := by rfl) : PE X (.Call (.Attribute o "pop" apos) [e] [] cpos) (upE X.K (dMt rmPopAt to t)) :=
  pd_bm PySem.F.slot_list_pop PySem.F.type_list_pop mt_popAt ref_popAt ho ha hbase hfew hline hs rfl
theorem rd_popAt {g : DG} {p : Addr} {i : Nat} {ds : List DV} {y : DV} {P : DV → DG → Prop} (eg : g p = some (.lst ds)) (ey : ds[i]? = some y) (hl : ds.length ≤ 1000) (h : P y (gup g p (.lst (ds.eraseIdx i)))) : rmPopAt (.ref p) [.int (i : Int)] g P := by
  have hi := (List.getElem?_eq_some_iff.mp ey).1
  unfold rmPopAt
  dsimp only
  unfold atL
  dsimp only
  rw [eg]
  refine ⟨⟨by omega, by omega⟩, i, y, ?_, ey, h⟩
  unfold ixN
  rw [if_pos (by omega), if_pos (by omega)]
  simp
/-! ### list(range(n)), to be changed -/
def rgM (Q : DV → DG → Prop) : DV → DG → Prop := fun x g1 => match x with | .int n => (0 ≤ n ∧ n ≤ 16777216) ∧ ∀ p, g1 p = none → Q (.ref p) (gup g1 p (.lst (rangeD 0 n.toNat))) | _ => False
def dLstRgM (ta : TDE) : TDE := fun δ g Q => ta δ g (rgM Q)
theorem pd_lstRgM {a : Expr} {ta : TDE} {p p2 q : Pos} (hm : X.mg "list" = none) (hm2 : X.mg "range" = none) (ha : PE X a (upE X.K ta)) (hc : X.calm = true := by rfl) (hg : Gl X "list" := by rfl) (hg2 : Gl X "range" := by rfl)
    (na : starEach [a] X.env = (false, eval a X.env) :: starEach [] X.env := by rfl) (na2 : starEach [.Call (.Name "range" p2) [a] [] q] X.env = (false, eval (.Call (.Name "range" p2) [a] [] q) X.env) :: starEach [] X.env := by rfl) :
    PE X (.Call (.Name "list" p) [.Call (.Name "range" p2) [a] [] q] [] pos) (upE X.K (dLstRgM ta)) := by
  refine PE_weak (pe_listRg hc hg hm (prg_1 hg2 hm2 ha na) na2) fun σ H Q ⟨δ, g, P, rs, rg, h, k⟩ => ⟨δ, g, _, rs, rg, h, fun x g1 v H1 e1 rg1 rd1 h1 => ?_⟩
  unfold rgM at h1
  split at h1
  · rename_i n
    cases rd1
    exact ⟨n, rfl, RgOk.of_le (by omega) h1.1.2 (by omega) h1.1.1, fun p hp => k _ _ _ _ (e1.trans (Ext.new hp)) (rg1.new hp (rgV_rd n)) (.ref p) (h1.2 p (rg1.none hp))⟩
  · exact h1.elim
theorem rd_lstRgM {ta : TDE} {δ : DS} {g : DG} {Q : DV → DG → Prop} (h : ta δ g (rgM Q)) : dLstRgM ta δ g Q := h
theorem rd_rgMK {n : Nat} {g : DG} {Q : DV → DG → Prop} (c : n ≤ 16777216) (h : ∀ p, g p = none → Q (.ref p) (gup g p (.lst (rangeD 0 n)))) : rgM Q (.int (n : Int)) g := ⟨⟨by omega, by omega⟩, by rw [Int.toNat_natCast]; exact h⟩
/-! ### o.m() -/
theorem pe_insM0 {CX : CXT} {EX : XK} {C q : Addr} {n : Nat} {m : Str} {sp : Sp} {o : Expr} {pos apos : Pos} {to : TE} {pl : Sem Bool} (he : PE X o to) (c : SlX.SCls X.K C) (hm : Meth X.K C m q) (F : FnR X.prog X.w X.K X.mg X.base CX n q sp) (hr : Room n X.A) (hx : Passes CX X EX)
    (ht : eval (.Call (.Attribute o m apos) [] [] pos) X.env = (do
      let ow ← eval o X.env
      standAt apos.atName
      let (f, first) ← holding [ow] (getMethod ow m pl)
      callWith pos f first (backTo pos (starEach [] X.env)) (backToKw pos (keywordEach [] X.env))) := by rfl) : PE X (.Call (.Attribute o m apos) [] [] pos) (tInsM X.K C sp EX to tNil) := by
  refine ⟨fun pinz s σ H Q J h => ?_⟩
  refine PySem.W.methodCall_KW (pl := pl) (thn (he.run pinz s σ H _ J h) fun u s1 ⟨x, H1, J1, rx, a, vs, ex, hsl, q⟩ => ?_) ht
  subst ex
  obtain rfl : u = Value.ref a := rx
  refine ins_meth J1 hsl c hm ?_
  exact PySem.W.callWith_K0 (first := [.ref a]) J1.kIn hm.kp (wpAny_call (run_fnR (us := [.ref a]) (vs := [.ref a]) F hr hx J1 (.cons rfl .nil) q))
theorem pd_mth0 {C q : Addr} {n : Nat} {m : Str} {sp : SpD} {o : Expr} {pos apos : Pos} {t : TDE} {pl : Sem Bool} (c : SlX.SCls X.K C) (hm : Meth X.K C m q) (F : FnR X.prog X.w X.K X.mg X.base CX0 n q (upSp X.K sp)) (hr : Room n X.A) (he : PE X o (upE X.K t))
    (ht : eval (.Call (.Attribute o m apos) [] [] pos) X.env = (do
      let ow ← eval o X.env
      standAt apos.atName
      let (f, first) ← holding [ow] (getMethod ow m pl)
      callWith pos f first (backTo pos (starEach [] X.env)) (backToKw pos (keywordEach [] X.env))) := by rfl) : PE X (.Call (.Attribute o m apos) [] [] pos) (upE X.K (dMth C sp t dNil)) := by
  refine PE_weak (pe_insM0 (EX := fun _ _ _ => False) he c hm F hr pass0 ht) fun σ H Q ⟨δ, g, P, rs, rg, h, kk⟩ => ⟨δ, g, _, rs, rg, h, fun x g1 v H1 e1 rg1 rd1 h1 => ?_⟩
  obtain ⟨ds, es⟩ := Option.isSome_iff_exists.mp h1.1
  obtain ⟨a, vs, rfl, hi, _⟩ := slD_of rg1 rd1 es
  exact ⟨a, vs, rfl, hi, [x], g1, P, .one rd1, rg1, h1.2, fun d g' v H' e' rg' rd' p' => kk d g' v H' (e1.trans e') rg' rd' p'⟩
end
end DL

/-! Deep layer BI: a dict with tuple keys that is still changed, locked while one expression runs, and unlocked behind it. -/
namespace DL
open PySem PySem.Spec PyProof.Rows L2
section
variable {X : Cx} {K : Fg}
end
end DL

/-! Deep layer BJ: `for p in enumerate(a tuple)`, the target one name: the pair is kept by the loop, so the next one is a new tuple. -/
namespace L2.EnN
open PySem PySem.Spec PyProof.Rows
abbrev IsEn (h : Heap) (e it : Addr) (i : Int) (own fl old : Value) : Prop :=
  h.get? e = some { cls := .type "enumerate", dict := none, data := .fields #[own, fl, .ref it, rawInt i, .none, old], slots := #[] }
def OwnOk (own : Value) : Prop := own = .none ∨ ∃ a : Int, own = rawInt a
def EnAt (h : Heap) (e it : Addr) (i : Int) : Prop := ∃ own fl old, OwnOk own ∧ IsEn h e it i own fl old
theorem wpAny_ifAlive {α : Type} {M : Model} {A : Around} {E : Value → Shared → Prop} {s : Shared} {a : Addr} {Q : Option Obj → Shared → Prop} (h : Q (s.heap.get? a) s) : wpAny M A (loadIfAlive a) Q E s := fun _ _ _ => h
section
variable {prog : Program} {w : World} {A : Around} {E : Value → Shared → Prop} {s : Shared}
theorem next_en {e it : Addr} {fp : List Addr} {n i : Nat} {P : Nat → Value → Prop} {St : Nat → Heap → Prop} {Q : Value → Shared → Prop}
    (D : Draws prog w A it fp n P St) (he : EnAt s.heap e it i) (st : St i s.heap) (hlt : i < n) (hne : e ≠ it) (hef : e ∉ fp)
    (hQ : ∀ x h' tk, P i x → EnAt h' e it ((i : Int) + 1) → St (i + 1) h' →
      h'.get? s.heap.objs.size = some { cls := .type "tuple", data := .seq #[.int i tk, x] } → h'.objs.size = s.heap.objs.size + 1 →
      (∀ b o, b ≠ e → b ≠ it → s.heap.get? b = some o → h'.get? b = some o) → Q (.ref s.heap.objs.size) { s with heap := h', toks := tk + 1 }) :
    wpAny (model prog w) A (Builtin.«enumerate.__next__» ⟨[.ref e], []⟩) (fun fin s' => ∃ v, fin = .done (.ret v) ∧ Q v s') E s := by
  obtain ⟨own, fl, old, ho, he⟩ := he
  obtain ⟨M, g, d, t0, io⟩ := s
  show wpAny _ _ (field (.ref e) 2 >>= _) _ _ _
  refine wpAny_bind (wpAny_field he rfl (x := .ref it) rfl ?_)
  refine wpAny_bind (D.item i _ _ _ hlt st fun x ha tk px ta sa => ?_)
  replace sa : Heap.SameBut it M ha := sa
  have ea : IsEn ha e it i own fl old := (sa.2 e hne).trans he
  show wpAny _ _ (field (.ref e) 3 >>= _) _ _ ⟨ha, g, d, tk, io⟩
  refine wpAny_bind (wpAny_field ea rfl (x := rawInt i) rfl ?_)
  show wpAny _ _ (field (.ref e) 4 >>= _) _ _ ⟨ha, g, d, tk, io⟩
  refine wpAny_bind (wpAny_field ea rfl (x := .none) rfl ?_)
  show wpAny _ _ (mkInt i >>= _) _ _ ⟨ha, g, d, tk, io⟩
  refine wpAny_bind (wpAny_mkInt ?_)
  show wpAny _ _ (setField (.ref e) 3 (rawInt ((i : Int) + 1)) >>= _) _ _ ⟨ha, g, d, tk + 1, io⟩
  refine wpAny_bind (wpAny_setField_rec ea (by simp) fun hb eb sb => ?_)
  replace sb : Heap.SameBut e ha hb := sb
  replace eb : IsEn hb e it ((i : Int) + 1) own fl old := eb
  show wpAny _ _ (setField (.ref e) 4 .none >>= _) _ _ ⟨hb, g, d, tk + 1, io⟩
  refine wpAny_bind (wpAny_setField_rec eb (by simp) fun hc ec sc => ?_)
  replace sc : Heap.SameBut e hb hc := sc
  replace ec : IsEn hc e it ((i : Int) + 1) own fl old := ec
  show wpAny _ _ (newTuple [.int i tk, x] >>= _) _ _ ⟨hc, g, d, tk + 1, io⟩
  refine wpAny_bind (wpAny_newTuple ?_)
  have ed : IsEn (hc.push { cls := .type "tuple", data := .seq #[.int i tk, x] }) e it ((i : Int) + 1) own fl old := Heap.get?_push_of_some _ ec
  generalize qd : hc.push { cls := .type "tuple", data := .seq #[.int i tk, x] } = hd at ed
  have s3 : hc.objs.size = M.objs.size := by rw [sc.1, sb.1, sa.1]
  have el : e < M.objs.size := Heap.lt_size he
  have ud : hd.get? M.objs.size = some { cls := .type "tuple", data := .seq #[.int i tk, x] } := by rw [← qd, ← s3]; exact Heap.get?_push_size _ rfl
  have vd : hd.objs.size = M.objs.size + 1 := by rw [← qd, Heap.size_push, s3]
  have wd : ∀ b o, b ≠ e → b ≠ it → M.get? b = some o → hd.get? b = some o := fun b o hbe hbi hb => by
    rw [← qd]; exact Heap.get?_push_of_some _ (sc.extBut b o hbe (sb.extBut b o hbe (sa.extBut b o hbi hb)))
  have td : St (i + 1) hd := D.frame _ _ _ ta fun b hb o y => by
    have hbe : b ≠ e := fun q => hef (q ▸ hb)
    rw [← qd]; exact Heap.get?_push_of_some _ (sc.extBut b o hbe (sb.extBut b o hbe y))
  -- any heap that differs at e alone
  have fin : ∀ hz own' fl' old', OwnOk own' → IsEn hz e it ((i : Int) + 1) own' fl' old' → Heap.SameBut e hd hz → Q (.ref M.objs.size) ⟨hz, g, d, tk + 1, io⟩ := fun hz own' fl' old' o7 ez sz =>
    hQ x hz tk px ⟨own', fl', old', o7, ez⟩
      (D.frame _ _ _ td fun b hb o y => sz.extBut b o (fun q => hef (q ▸ hb)) y)
      (sz.extBut _ _ (Nat.ne_of_gt el) ud) (by rw [sz.1, vd]) (fun b o hbe hbi hb => sz.extBut b o hbe (wd b o hbe hbi hb))
  show wpAny _ _ (Builtin.SmallTypes.ownedTupleIsFree (.ref e) >>= _) _ _ ⟨hd, g, d, tk + 1, io⟩
  rw [s3]
  clear qd ec sc eb sb ea sa ta s3 td wd vd ud hc hb ha hQ
  refine wpAny_bind ?_
  unfold Builtin.SmallTypes.ownedTupleIsFree
  refine wpAny_bind (wpAny_field ed rfl (x := own) rfl ?_)
  rcases ho with ho | ⟨a, ho⟩
  · subst ho
    refine wpAny_pure ?_
    simp only [if_true]
    refine wpAny_bind (wpAny_rule ?_)
    refine wpAny_bind (wpAny_field ed rfl (x := old) rfl ?_)
    refine wpAny_bind (wpAny_setField_rec ed (by simp) fun hm em sm => ?_)
    replace sm : Heap.SameBut e hd hm := sm
    replace em : IsEn hm e it ((i : Int) + 1) .none fl x := em
    show wpAny _ _ (Builtin.SmallTypes.ownedTupleHandOut (.ref e) (.ref M.objs.size) >>= _) _ _ ⟨hm, g, d, tk + 1, io⟩
    refine wpAny_bind ?_
    unfold Builtin.SmallTypes.ownedTupleHandOut
    refine wpAny_bind (wpAny_setField_rec em (by simp) fun hn en sn => ?_)
    replace sn : Heap.SameBut e hm hn := sn
    replace en : IsEn hn e it ((i : Int) + 1) (rawInt M.objs.size) fl x := en
    refine wpAny_setField_rec en (by simp) fun hz ez sz => ?_
    replace sz : Heap.SameBut e hn hz := sz
    refine wpAny_bind (wpAny_letGo (wpAny_pure ⟨_, rfl, fin hz (rawInt M.objs.size) (.bool false) x (.inr ⟨_, rfl⟩) ez ((sm.trans sn).trans sz)⟩))
  · subst ho
    show wpAny _ _ (loadIfAlive a.toNat >>= _) _ _ ⟨hd, g, d, tk + 1, io⟩
    refine wpAny_bind (wpAny_ifAlive (α := Unit) ?_)
    show wpAny _ _ (if (hd.get? a.toNat).isNone = true then _ else _) _ _ ⟨hd, g, d, tk + 1, io⟩
    by_cases c : (hd.get? a.toNat).isNone = true
    · rw [if_pos c]
      refine wpAny_pure ?_
      simp only [if_true]
      refine wpAny_bind (wpAny_rule ?_)
      refine wpAny_bind (wpAny_field ed rfl (x := old) rfl ?_)
      refine wpAny_bind (wpAny_setField_rec ed (by simp) fun hm em sm => ?_)
      replace sm : Heap.SameBut e hd hm := sm
      replace em : IsEn hm e it ((i : Int) + 1) (rawInt a) fl x := em
      show wpAny _ _ (Builtin.SmallTypes.ownedTupleHandOut (.ref e) (.ref M.objs.size) >>= _) _ _ ⟨hm, g, d, tk + 1, io⟩
      refine wpAny_bind ?_
      unfold Builtin.SmallTypes.ownedTupleHandOut
      refine wpAny_bind (wpAny_setField_rec em (by simp) fun hn en sn => ?_)
      replace sn : Heap.SameBut e hm hn := sn
      replace en : IsEn hn e it ((i : Int) + 1) (rawInt M.objs.size) fl x := en
      refine wpAny_setField_rec en (by simp) fun hz ez sz => ?_
      replace sz : Heap.SameBut e hn hz := sz
      refine wpAny_bind (wpAny_letGo (wpAny_pure ⟨_, rfl, fin hz (rawInt M.objs.size) (.bool false) x (.inr ⟨_, rfl⟩) ez ((sm.trans sn).trans sz)⟩))
    · rw [if_neg c]
      refine wpAny_bind (wpAny_field ed rfl (x := fl) rfl ?_)
      show wpAny _ _ (if (fl != .bool true) = true then _ else _) _ _ ⟨hd, g, d, tk + 1, io⟩
      by_cases c2 : (fl != .bool true) = true
      · rw [if_pos c2]
        refine wpAny_bind (wpAny_setField_rec ed (by simp) fun hm em sm => ?_)
        refine wpAny_pure (wpAny_pure ⟨_, rfl, fin hm (rawInt a) (.bool true) old (.inr ⟨_, rfl⟩) em sm⟩)
      · rw [if_neg c2]
        exact wpAny_pure (wpAny_pure ⟨_, rfl, fin hd (rawInt a) fl old (.inr ⟨_, rfl⟩) ed (Heap.SameBut.refl _ _)⟩)
end
/-- the tuple at a, its items numbered; the target is one name -/
theorem turn {P : Program} {w : World} {K : PySem.W.Frag} {x : Str} {xp : Pos} (a e it : Addr) :
    Turn P w K (.Name x xp) (EnT.ItE K a) [e, it] e (fun i h => EnAt h e it ((i : Nat) : Int) ∧ h.IsTupleIter it a i ∧ e ≠ it) where
  mem := by simp
  obj := fun i h st b hb => by
    obtain ⟨⟨own, fl, old, _, he⟩, ⟨o, ho, hc, hd⟩, _⟩ := st
    rcases (show b = e ∨ b = it by simpa using hb) with z | z
    · rw [z]; exact ⟨_, he, fun v q => nomatch q⟩
    · rw [z]; exact ⟨o, ho, fun v q => by rw [hd] at q; cases q⟩
  keep := fun i h h' st k => let ⟨⟨own, fl, old, oo, he⟩, hi, ne⟩ := st; ⟨⟨own, fl, old, oo, k e (by simp) _ he⟩, hi.at fun o q => k it (by simp) o q, ne⟩
  item := by
    intro X hP hw hK hc i pins s σ H E I hf st hg
    subst hP hw hK
    obtain ⟨hen, hit, ne⟩ := st
    have hen0 := hen
    obtain ⟨own, fl, old, oo, he⟩ := hen
    obtain ⟨xs, x, hq, hx⟩ := hg
    obtain ⟨its, rv, p, hz⟩ := I.tuple hq
    obtain ⟨u, hu, ru⟩ := rv.get hx
    have ae : a ≠ e := fun z => by
      obtain ⟨o, h1, h2, _⟩ := p
      have he : s.heap.get? e = some _ := he
      rw [z, he] at h1; cases h1; exact absurd (show Value.type "enumerate" = Value.type "tuple" from h2) (by decide)
    have ai : a ≠ it := fun z => by
      obtain ⟨o, h1, h2, _⟩ := p
      obtain ⟨oi, i1, i2, _⟩ := hit
      rw [z, i1] at h1; cases h1; rw [i2] at h2; exact absurd h2 (by decide)
    have tup : s.heap.IsTuple a its.toArray := p
    have D := Draws.tuple (prog := X.prog) (w := X.w) (A := X.A.in1) (by show X.A.in1.handled = none; exact I.ok.hd hc) it a ai its.toArray
    have le : e < s.heap.objs.size := Heap.lt_size he
    have li : it < s.heap.objs.size := by obtain ⟨_, q, _⟩ := hit; exact Heap.lt_size q
    have lt : i < its.toArray.size := by
      have := (List.getElem?_eq_some_iff.mp hu).1
      rw [List.size_toArray]; exact this
    have hT : s.TypeIs (.ref e) "enumerate" := ⟨_, he, rfl⟩
    unfold pyNext
    refine wpAny_bind (wpAny_attempt (wpAny_callSpecial?_slot (name := Str.ofString "__next__") hT F.slot_enumerate_next
      (wpAny_call_entry F.slot_enumerate_next hT F.entry_enumerate_next
        (next_en D hen0 ⟨hit, tup⟩ lt ne (by simp [ne, Ne.symm ae]) fun z h' tk hz2 ho hst hT hsz hk => wpAny_pure ?_) (F.args_enumerate_next_1 _))))
    have ez : z = u := by
      have q : its.toArray[i]? = some z := hz2
      rw [List.getElem?_toArray, hu] at q
      exact (Option.some.inj q).symm
    subst ez
    have new : ObjOk X.prog X.w (upd H s.heap.objs.size (.tup [.int (i : Nat), x])) h' s.heap.objs.size (.tup [.int (i : Nat), x]) :=
      ⟨by show 2 ≤ sizeLine; decide, [.int i tk, z], .cons ⟨_, rfl⟩ (.cons ru .nil), ⟨_, hT, rfl, _, rfl⟩⟩
    have J : Inv X pins σ (upd H s.heap.objs.size (.tup [.int (i : Nat), x])) { s with heap := h', toks := tk + 1 } :=
      I.turnedNew (ch := [e, it]) (fun b ob hb q => hk b ob (fun z => hb (by simp [z])) (fun z => hb (by simp [z])) q) hf (Nat.le_refl _) new
    refine ⟨_, rfl, wpAny_pure ⟨.ref s.heap.objs.size, _, J, rfl, ⟨_, x, rfl, I.hok.fresh (Nat.le_refl _), rfl, fun ys hy => by rw [I.tuple_inj hy hq]; exact hx⟩, ⟨?_, hst.1, ne⟩, fun b hb => ?_⟩⟩
    · have e1 : ((i + 1 : Nat) : Int) = (i : Int) + 1 := by omega
      rw [e1]; exact ho
    · have hb' : b < s.heap.objs.size := by
        rcases (show b = e ∨ b = it by simpa using hb) with z | z
        · rw [z]; exact le
        · rw [z]; exact li
      rw [upd_ne (Nat.ne_of_lt hb')]
      exact (hf b hb).1
  done := by
    intro X hP hw hK hc i pins s σ H E I hf st hg
    subst hP hw hK
    obtain ⟨⟨own, fl, old, oo, he⟩, hit, ne⟩ := st
    obtain ⟨xs, hq, hx⟩ := hg
    obtain ⟨its, rv, p, hz⟩ := I.tuple hq
    obtain ⟨f0, f1, f2, f3, f4, f5⟩ := hf it (by simp)
    have tup : s.heap.IsTuple a its.toArray := p
    have hd := I.ok.hd hc
    have hT : s.TypeIs (.ref e) "enumerate" := ⟨_, he, rfl⟩
    unfold pyNext
    refine wpAny_bind (wpAny_attempt (wpAny_callSpecial?_slot (name := Str.ofString "__next__") hT F.slot_enumerate_next (wpAny_call_entry F.slot_enumerate_next hT F.entry_enumerate_next ?_ (F.args_enumerate_next_1 _))))
    show wpAny _ _ (field (.ref e) 2 >>= _) _ _ _
    refine wpAny_bind (wpAny_field he rfl (x := .ref it) rfl ?_)
    refine wpAny_bind (wpAny_nextOf_tuple_end hd hit tup (by have := rv.length; rw [List.getElem?_toArray]; exact List.getElem?_eq_none (by omega)) fun h' y ex hy => ?_)
    obtain ⟨o, ho, hc'⟩ := hy
    refine wpAny_bind (wpAny_isInstance (T := "StopIteration") (b := true) ⟨o, ho, hc'⟩ isSubtype_stop ?_)
    exact wpAny_pure ⟨rfl, I.turned (t' := s.toks) (fun b o hb q => ex b o hb q) f0 f1 f3 f4 f5⟩
  self := fun A i s Q E st h => by
    obtain ⟨⟨own, fl, old, oo, he⟩, _⟩ := st
    have hT : s.TypeIs (.ref e) "enumerate" := ⟨_, he, rfl⟩
    refine wpAny_pyIter_slot hT F.slot_enumerate_iter (wpAny_call_entry F.slot_enumerate_iter hT F.entry_enumerate_iter ?_ (F.args_enumerate_iter_1 _))
    show wpAny _ _ (PySem.ret (.ref e)) _ _ s
    exact wpAny_pure ⟨_, rfl, "enumerate", _, hT, F.slot_enumerate_next.lookup, h⟩
end L2.EnN
namespace DL
open PySem PySem.Spec PyProof.Rows L2 Builtin
end DL

/-! Deep layer BK: sorted(set(xs)), xs a list or a tuple of tuples of ints of any lengths. -/
namespace DL
open PySem PySem.Spec PyProof.Rows L2
section
variable {X : Cx} {pinz : List (Addr × Obj)} {σ : L2.St} {H : Hp} {s : Shared} {a : Addr} {L : List (Addr × List Int)}
end
/-! ### sorted(set(xs)) -/
section
variable {X : Cx} {pos : Pos} {a : Expr} {ta : TDE}
end
end DL

/-! Deep layer XG: defs that know that nothing is being shown around them; repr; the end with tables. -/
namespace DL
open PySem PySem.Spec PyProof.Rows L2 LamX
section
variable {X : Cx} {x : Str} {p pos : Pos} {e : Expr} {es : List Expr} {t : TDA}
/-! ### repr -/
end
/-! ### facts for the printer -/
theorem units70 {k : Nat} {A : Around} (r : Room k A) : A.units + 70 < cLine := by have := r.un; omega
/-! ### tuple(range(a, b)) -/
section
variable {X : Cx} {pos : Pos}
end
/-! ### displays, pair by pair -/
/-! ### range(a, b, c) of any step -/
section
variable {X : Cx} {tgx : Expr} {t : TDA} {pos : Pos}
end
end DL

/-! Deep layer XV: a local name that bears one of several defs, called; min of a list or a tuple of ints. -/
namespace DL
open PySem PySem.Spec PyProof.Rows L2
section
variable {X : Cx} {i : Nat} {x : Str} {p pos : Pos} {e : Expr} {es : List Expr}
end
/-! ### min(xs) of a list or a tuple of ints -/
section
variable {prog : Program} {w : World} {A : Around} {E : Value → Shared → Prop} {s : Shared} {l : Addr} {its : List Value} {ns : List Int} {Q : Value → Shared → Prop}
end
section
variable {X : Cx} {K : Fg}
end
end DL

/-! Deep layer BL: raising from a walk; raising methods and operators; class calls and attributes with a part that raises. -/
namespace DL
open PySem PySem.Spec PyProof.Rows L2
/-! ### a walk with a step that raises -/
section
variable {X : Cx} {W : WX} {pos : Pos}
/-! ### methods and operators that raise -/
variable {C q f : Addr} {n : Nat} {m : Str} {e o : Expr} {es : List Expr} {apos : Pos} {r : TDR}
end
end DL
namespace DL
open PySem PySem.Spec PyProof.Rows L2
/-! ### an operator whose own method raises -/
section
variable {X : Cx} {W : WX} {pos : Pos} {C q : Addr} {n : Nat} {a b : Expr}
end
end DL

/-! Deep layer UD: d.update(another dict), tuple keys. -/
namespace DL
open PySem PySem.Spec PyProof.Rows L2
section
variable {X : Cx} {K : Fg} {pos apos cpos : Pos} {o e : Expr} {to : TDE} {t : TDA}
/-! ### len(d), d still changed -/
def rrLenDT : RRs := rr1 fun x g P => ∃ p ks ds, x = .ref p ∧ g p = some (.dT ks ds) ∧ P (.int (ks.length : Nat))
theorem ref_lenDT : RefCall K rrLenDT rLenT := by
  intro xs P vs H g Q rg r k h
  obtain ⟨x, v, rfl, rfl, rx, p, ks, ds, ex, eg, h⟩ := rr1_of r h
  subst ex
  cases rx
  obtain ⟨kvs, hp, ek, _⟩ := rg _ _ eg
  subst ek
  rw [List.length_map] at h
  exact ⟨p, kvs, rfl, hp, .inl (k _ _ H Ext.refl rg (.int _) h)⟩
theorem rd_lenDT {p : Addr} {ks : List (List Key)} {ds : List DV} {g : DG} {P : DV → Prop} (e : g p = some (.dT ks ds)) (h : P (.int (ks.length : Nat))) : rrLenDT [.ref p] g P := ⟨p, ks, ds, rfl, e, h⟩
end
end DL

/-! k40: readings' lemmas. -/
namespace DL
open LA (Prm IsRk Span modP)
open PySem L2
abbrev lI (l : List Int) : DV := .lst (l.map DV.int)
def Fld (p : Int) : Prop := p = 0 ∨ p = 2 ∨ p = 3 ∨ p = 5 ∨ p = 97
def qOf (p : Int) : Nat := if p = 0 then LA.FAR else p.toNat
theorem irr_q {p : Int} (h : Fld p) : LA.Irr (qOf p) ∧ qOf p ≤ LA.FAR := by
  rcases h with h | h | h | h | h <;> subst h
  · exact ⟨LA.far_irr, Nat.le_refl _⟩
  all_goals exact ⟨LA.irr_small (by decide +kernel), by decide +kernel⟩
theorem okP_f {p : Int} (h : Fld p) : OkP p.toNat ∧ p.toNat ≤ 97 := by
  rcases h with h | h | h | h | h <;> subst h
  · exact ⟨.inl rfl, by decide⟩
  all_goals exact ⟨.inr (LA.irr_small (by decide +kernel)), by decide +kernel⟩
theorem no_div {p i : Int} (hf : Fld p) (h0 : p ≠ 0) (h2 : 2 ≤ i) (hs : i * i ≤ p) : p % i ≠ 0 := by
  have h10 : i ≤ 9 := by
    refine Int.not_lt.mp fun c => ?_
    have := Int.mul_le_mul (show (10 : Int) ≤ i by omega) (show (10 : Int) ≤ i by omega) (by decide) (by omega)
    rcases hf with h | h | h | h | h <;> omega
  have hi : i = 2 ∨ i = 3 ∨ i = 4 ∨ i = 5 ∨ i = 6 ∨ i = 7 ∨ i = 8 ∨ i = 9 := by omega
  rcases hf with h | h | h | h | h <;> subst h <;> first | exact absurd rfl h0 | skip
  all_goals rcases hi with e | e | e | e | e | e | e | e <;> subst e <;> first | decide | (exact absurd hs (by decide))
def sqF (p : Int) : DV → Bool
  | .int i => decide (i * i ≤ p)
  | _ => false
theorem fld_lo {p : Int} (hf : Fld p) (h0 : p ≠ 0) : 2 ≤ p ∧ p ≤ 97 := by rcases hf with h | h | h | h | h <;> omega
theorem fld_in {p : Int} (hf : Fld p) : 0 ≤ p ∧ p ≤ 97 := by rcases hf with h | h | h | h | h <;> omega
theorem rangeD_mem {lo : Int} {n : Nat} {d : DV} (h : d ∈ rangeD lo n) : ∃ i : Int, d = .int i ∧ lo ≤ i ∧ i < lo + n := by
  unfold rangeD at h
  obtain ⟨j, hj, e⟩ := List.mem_map.mp h
  have := List.mem_range.mp hj
  exact ⟨lo + j, e.symm, by omega, by omega⟩
theorem fil_t40 (L : List DV) (q : DV → Bool) : (L.filter q).map (fun _ => DV.bl true) = ((L.filter q).map fun _ => true).map DV.bl := by rw [List.map_map]; rfl
/-! ### keys -/
theorem hash_sub : ((subsL 7).map hK).Nodup := by decide +kernel
theorem hashSub {ks : List (List Int)} (nd : ks.Nodup) (h : ∀ k ∈ ks, k ∈ subsL 7) : HashOk (ks.map kI) := by
  intro P w
  rw [List.map_map]
  rw [show ks.map ((tupleKind (mixKind P w)).hash ∘ kI) = ks.map hK from List.map_congr_left fun k _ => hash_kI P w k]
  refine List.pairwise_map.mpr (List.Pairwise.imp_of_mem (fun {a b} ha hb hne e => hne (inj_of hash_sub a (h a ha) b (h b hb) e)) nd)
def lkE (R : Tab) : List DV := R.map fun e => .tup [tI e.1, .int e.2]
theorem pairs_tab : ∀ R : Tab, pairsD ((keysOf R).map kI) ((valsOf R).map DV.int) = lkE R
  | [] => rfl
  | e :: R => by
    show DV.tup [keyDT (kI e.1), .int e.2] :: pairsD ((keysOf R).map kI) ((valsOf R).map DV.int) = _
    rw [pairs_tab R, keyDT_kI]
    rfl
/-- a dict of pairs, some left out -/
theorem dc_it {tg : Tg} {own : List Nat} {tt : TDT} {tk tv : TDE} {δ : DS} {g : DG} (q : List Int × Int → Bool) (f : List Int × Int → Int) : ∀ {R acc : Tab} {C : List (List Key) → List DV → DG → Prop},
    (keysOf (acc ++ R)).Nodup → (∀ e ∈ R, ∃ δ2, bindT tg (.tup [tI e.1, .int e.2]) (wipeD δ own) = some δ2 ∧ (∀ Q2 : Bool → DG → Prop, Q2 (q e) g → tt δ2 g Q2) ∧ (q e = true → (∀ Q2 : DV → DG → Prop, Q2 (tI e.1) g → tk δ2 g Q2) ∧ ∀ Q2 : DV → DG → Prop, Q2 (.int (f e)) g → tv δ2 g Q2)) →
    C ((keysOf (acc ++ ((R.filter q).map fun e => (e.1, f e)))).map kI) ((valsOf (acc ++ ((R.filter q).map fun e => (e.1, f e)))).map DV.int) g → dDcC tg own tt tk tv δ (lkE R) ((keysOf acc).map kI) ((valsOf acc).map DV.int) g C
  | [], acc, C, _, _, h => by
    rw [List.filter_nil, List.map_nil, List.append_nil] at h
    exact h
  | e :: R, acc, C, nd, hR, h => by
    obtain ⟨δ2, eb, h1, h2⟩ := hR e List.mem_cons_self
    show dDcC tg own tt tk tv δ (DV.tup [tI e.1, .int e.2] :: lkE R) _ _ g C
    unfold dDcC
    rw [eb]
    dsimp only
    refine h1 _ ?_
    have ka : ∀ A B : Tab, keysOf (A ++ B) = keysOf A ++ keysOf B := fun A B => List.map_append
    cases hp : q e with
    | false =>
      rw [if_neg Bool.false_ne_true]
      refine dc_it q f (nd.sublist (by rw [ka, ka]; exact List.Sublist.append_left (List.sublist_cons_self _ _) _)) (fun j hj => hR j (List.mem_cons_of_mem _ hj)) ?_
      rw [List.filter_cons_of_neg (by rw [hp]; exact Bool.false_ne_true)] at h
      exact h
    | true =>
      rw [if_pos rfl]
      obtain ⟨hk, hv⟩ := h2 hp
      refine hk _ (hv _ ?_)
      have hn : e.1 ∉ keysOf acc := fun z => by
        rw [ka] at nd
        exact (List.nodup_append.mp nd).2.2 e.1 z e.1 List.mem_cons_self rfl
      rw [keyT_tI]
      dsimp only
      obtain ⟨p1, p2⟩ := put_tab e.1 (f e) acc
      rw [p1, p2]
      have ep : putT acc e.1 (f e) = acc ++ [(e.1, f e)] := by unfold putT; rw [if_neg hn]
      rw [ep]
      refine dc_it q f ?_ (fun j hj => hR j (List.mem_cons_of_mem _ hj)) ?_
      · rw [ka, ka, List.append_assoc]
        rw [ka] at nd
        exact nd
      · rw [List.filter_cons_of_pos hp, List.map_cons] at h
        rw [List.append_assoc]
        exact h
theorem all_t40 : ∀ L : List DV, (L.map fun _ => true).all id = true
  | [] => rfl
  | _ :: L => all_t40 L
theorem lessG_len (p f : Int) : ∀ other row : Tab, (keysOf (lessG p f other row)).length ≤ row.length + other.length ∧ (lessG p f other row).length ≤ row.length + other.length := by
  have key : ∀ other row : Tab, (lessG p f other row).length ≤ row.length + other.length := by
    intro other
    induction other with
    | nil => intro row; exact Nat.le_refl _
    | cons e r ih =>
      intro row
      have h1 := ih (subT p f row e)
      have h2 : (subT p f row e).length ≤ row.length + 1 := by
        unfold subT putT
        split
        · rw [List.length_map]; omega
        · rw [List.length_append]; exact Nat.le_refl _
      show (lessG p f r (subT p f row e)).length ≤ row.length + (r.length + 1)
      omega
  intro other row
  refine ⟨?_, key other row⟩
  unfold keysOf
  rw [List.length_map]
  exact key other row
theorem lessG_snoc {p f : Int} {other row : Tab} {i : Nat} {y : List Int × Int} (h : other[i]? = some y) : lessG p f (other.take (i + 1)) row = putT (lessG p f (other.take i) row) y.1 ((getT (lessG p f (other.take i) row) y.1 - f * y.2) % p) := by
  rw [List.take_add_one, h]
  unfold lessG
  rw [List.foldl_append]
  rfl
theorem isD_r40 {g : DG} {p : Addr} {ks : List (List Key)} {ds : List DV} (h : g p = some (.dT ks ds)) : isDct g (.ref p) = true := by
  unfold isDct
  unfold dctT
  dsimp only
  rw [h]
  rfl
def szF (s : Nat) (d : DV) : Bool := decide (((oneT d).length : Int) = s)
theorem sz_map (A : List (List Int)) (s : Nat) : ((A.map tI).filter (szF s)).map (fun d => d) = (LA.ofSz A s).map tI := fil_id (fun x => by
  unfold szF
  rw [oneT_tI]
  exact decide_eq_decide.mpr (by omega)) A
abbrev hdO (H : List (List Int × Tab)) : DO := .dT ((H.map (·.1)).map kI) ((H.map (·.2)).map fun R => tabD R)
theorem hd_val {H : List (List Int × Tab)} (k : List Int) : valD ((H.map (·.1)).map kI) ((H.map (·.2)).map fun R => tabD R) (kI k) = (H.find? fun e => decide (e.1 = k)).map fun e => tabD e.2 := by
  induction H with
  | nil => rfl
  | cons e H ih =>
    show valD (kI e.1 :: (H.map (·.1)).map kI) (tabD e.2 :: (H.map (·.2)).map fun R => tabD R) (kI k) = _
    unfold valD
    rw [List.find?_cons]
    by_cases c : e.1 = k
    · rw [if_pos (by rw [c]), decide_eq_true c]
      rfl
    · rw [if_neg (fun z => c (kI_inj z)), decide_eq_false c, ih]
theorem atD_hd {g : DG} {a : Addr} {H : List (List Int × Tab)} {k : List Int} (eg : g a = some (hdO H)) : atD g (.ref a) (tI k) = some ((H.find? fun e => decide (e.1 = k)).map fun e => tabD e.2) := by rw [atD_R eg (keyT_tI k), hd_val]
theorem hd_put {H : List (List Int × Tab)} {k : List Int} {R : Tab} (h : k ∉ H.map (·.1)) : putKs ((H.map (·.1)).map kI) (kI k) = ((H ++ [(k, R)]).map (·.1)).map kI ∧ putDs ((H.map (·.1)).map kI) ((H.map (·.2)).map fun R => tabD R) (kI k) (tabD R) = ((H ++ [(k, R)]).map (·.2)).map fun R => tabD R := by
  unfold putKs putDs
  rw [if_neg (fun z => h (mem_kI.mp z)), if_neg (fun z => h (mem_kI.mp z)), List.map_append, List.map_append, List.map_append, List.map_append]
  exact ⟨rfl, rfl⟩
/-- the first item of the pairs of enumerate -/
def enE (t : List Int) : List DV := (List.range t.length).map fun i : Nat => .tup [.int (i : Int), tI (t.eraseIdx i)]
def sgE (p : Nat) (i : Nat) : Int := if ((i : Nat) : Int) % 2 = 1 then -1 % (p : Int) else 1
theorem dc_new {α : Type} {tg : Tg} {own : List Nat} {tt : TDT} {tk tv : TDE} {δ : DS} {g : DG} (it : α → DV) (kf : α → List Int) (vf : α → Int) : ∀ {L : List α} {acc : Tab} {C : List (List Key) → List DV → DG → Prop},
    (keysOf acc ++ L.map kf).Nodup → (∀ x ∈ L, ∃ δ2, bindT tg (it x) (wipeD δ own) = some δ2 ∧ (∀ Q2 : Bool → DG → Prop, Q2 true g → tt δ2 g Q2) ∧ (∀ Q2 : DV → DG → Prop, Q2 (tI (kf x)) g → tk δ2 g Q2) ∧ ∀ Q2 : DV → DG → Prop, Q2 (.int (vf x)) g → tv δ2 g Q2) →
    C ((keysOf (acc ++ L.map fun x => (kf x, vf x))).map kI) ((valsOf (acc ++ L.map fun x => (kf x, vf x))).map DV.int) g → dDcC tg own tt tk tv δ (L.map it) ((keysOf acc).map kI) ((valsOf acc).map DV.int) g C
  | [], acc, C, _, _, h => by
    rw [List.map_nil, List.append_nil] at h
    exact h
  | x :: L, acc, C, nd, hR, h => by
    obtain ⟨δ2, eb, h1, hk, hv⟩ := hR x List.mem_cons_self
    show dDcC tg own tt tk tv δ (it x :: L.map it) _ _ g C
    unfold dDcC
    rw [eb]
    dsimp only
    refine h1 _ ?_
    rw [if_pos rfl]
    refine hk _ (hv _ ?_)
    have hn : kf x ∉ keysOf acc := fun z => (List.nodup_append.mp nd).2.2 _ z _ List.mem_cons_self rfl
    rw [keyT_tI]
    dsimp only
    obtain ⟨p1, p2⟩ := put_tab (kf x) (vf x) acc
    rw [p1, p2]
    have ep : putT acc (kf x) (vf x) = acc ++ [(kf x, vf x)] := by unfold putT; rw [if_neg hn]
    rw [ep]
    refine dc_new it kf vf ?_ (fun j hj => hR j (List.mem_cons_of_mem _ hj)) ?_
    · rw [show keysOf (acc ++ [(kf x, vf x)]) = keysOf acc ++ [kf x] from List.map_append, List.append_assoc]
      exact nd
    · rw [List.map_cons] at h
      rw [List.append_assoc]
      exact h
theorem en_faces (t : List Int) : enD ((dropsL t).map tI) = enE t := by
  refine List.ext_getElem? fun i => ?_
  have hl : (dropsL t).length = t.length := by rw [drops_erase, List.length_map, List.length_range]
  by_cases c : i < t.length
  · have h1 : ((dropsL t).map tI)[i]? = some (tI (t.eraseIdx i)) := by
      rw [drops_erase, List.getElem?_map, List.getElem?_map, List.getElem?_range c]
      rfl
    rw [enD_get h1]
    unfold enE
    rw [List.getElem?_map, List.getElem?_range c]
    rfl
  · rw [List.getElem?_eq_none (by rw [enD_len, List.length_map, hl]; omega), List.getElem?_eq_none (by unfold enE; rw [List.length_map, List.length_range]; omega)]
theorem rb_len {p : Nat} {U done : List (List Int)} {H : List (List Int × Tab)} (h : RB p U H done) : H.length ≤ U.length := by
  have hk : ∀ k ∈ H.map (·.1), k ∈ U := fun k hk => by
    obtain ⟨e, he, rfl⟩ := List.mem_map.mp hk
    obtain ⟨_, _, a, b⟩ := h.hd.ok e he
    refine (b e.1 (Classical.byContradiction fun z => ?_)).2
    rw [get_none z] at a
    cases a
  have := LA.nodup_sub_len h.hd.nd hk
  rwa [List.length_map] at this
theorem tab_len {R : Tab} {U : List (List Int)} (nd : (keysOf R).Nodup) (h : ∀ c ∈ keysOf R, c ∈ U) : R.length ≤ U.length := by
  have := LA.nodup_sub_len nd h
  rwa [show (keysOf R).length = R.length from List.length_map _] at this
theorem find_some {H : List (List Int × Tab)} {k : List Int} {e : List Int × Tab} (h : H.find? (fun e => decide (e.1 = k)) = some e) : e ∈ H ∧ e.1 = k := ⟨List.mem_of_find?_eq_some h, by simpa using List.find?_some h⟩
theorem find_none {H : List (List Int × Tab)} {k : List Int} (h : H.find? (fun e => decide (e.1 = k)) = none) : k ∉ H.map (·.1) := fun z => by
  obtain ⟨e, he, rfl⟩ := List.mem_map.mp z
  have := List.find?_eq_none.mp h e he
  simp at this
theorem rd_eqTab {neg : Bool} {R : Tab} {g : DG} {P : DV → Prop} (h : P (.bl (if neg then !R.isEmpty else R.isEmpty))) : rrEqE neg (tabD R) (.dT [] []) g P := rd_eqE (ks := (keysOf R).map kI) (ds := (valsOf R).map DV.int) rfl (by
  have : ((keysOf R).map kI).isEmpty = R.isEmpty := by cases R <;> rfl
  rw [this]
  exact h)
theorem rd_maxTab {e : List Int × Int} {R : Tab} {g : DG} {P : DV → Prop} (h : P (tI (maxL e.1 (keysOf R)))) : rrMaxDT [tabD (e :: R)] g P := rd_maxDT (k := e.1) (r := keysOf R) (ds := (valsOf (e :: R)).map DV.int) rfl h
theorem rd_neNil {g : DG} {P : DV → Prop} (h : P (.bl false)) : rrEqE true (tabD []) (.dT [] []) g P := rd_eqTab (R := []) h
theorem rd_neCons {e : List Int × Int} {R : Tab} {g : DG} {P : DV → Prop} (h : P (.bl true)) : rrEqE true (tabD (e :: R)) (.dT [] []) g P := rd_eqTab (R := e :: R) h
theorem rd_inHdT {g : DG} {a : Addr} {H : List (List Int × Tab)} {k : List Int} {e : List Int × Tab} {P : DV → Prop} (eg : g a = some (hdO H)) (hf : H.find? (fun e => decide (e.1 = k)) = some e) (h : P (.bl true)) : rrDIn false (tI k) (.ref a) g P :=
  rd_dIn (atD_hd eg) (by rw [hf]; exact h)
theorem rd_inHdF {g : DG} {a : Addr} {H : List (List Int × Tab)} {k : List Int} {P : DV → Prop} (eg : g a = some (hdO H)) (hf : H.find? (fun e => decide (e.1 = k)) = none) (h : P (.bl false)) : rrDIn false (tI k) (.ref a) g P :=
  rd_dIn (atD_hd eg) (by rw [hf]; exact h)
theorem rd_putHd {g : DG} {a : Addr} {H : List (List Int × Tab)} {k : List Int} {R : Tab} {C : DG → Prop} (eg : g a = some (hdO H)) (hn : k ∉ H.map (·.1)) (hl : H.length ≤ 300) (h : C (gup g a (hdO (H ++ [(k, R)])))) : dputT (.ref a) (tI k) (tabD R) g C := by
  refine rd_dputTK eg (keyT_tI k) (by rw [List.length_map, List.length_map]; omega) ?_
  obtain ⟨e1, e2⟩ := hd_put (R := R) hn
  rw [e1, e2]
  exact h
theorem scale_is (b p : Int) (R : Tab) : ((R.filter fun _ => true).map fun e => (e.1, e.2 * b % p)) = scaleT b p R := by
  rw [List.filter_eq_self.mpr fun _ _ => rfl]
  rfl
theorem top_z {A : List (List Int)} {z : Int} (hz : z ∈ A.map fun x => (x.length : Int)) (hm : ∀ y ∈ A.map (fun x => (x.length : Int)), y ≤ z) : z = ((LA.topOf A : Nat) : Int) := by
  obtain ⟨t, ht, rfl⟩ := List.mem_map.mp hz
  have := LA.top_uniq (A := A) (m := t.length) ⟨t, ht, rfl⟩ fun u hu => by
    have := hm _ (List.mem_map.mpr ⟨u, hu, rfl⟩)
    omega
  omega
theorem top_le7 {A : List (List Int)} (h : ∀ x ∈ A, x ∈ subsL 7) : LA.topOf A ≤ 7 := by
  by_cases c : A = []
  · rw [c]; exact Nat.zero_le _
  · obtain ⟨t, ht, e⟩ := LA.top_ex c
    have := subs_each 7 t (h t ht)
    omega
theorem sz_len (A : List (List Int)) (s : Nat) : (((A.map tI).filter (szF s)).map fun _ => DV.int 1).length = LA.many A s := by
  have := congrArg List.length (sz_map A s)
  rw [List.length_map, List.length_map] at this
  rw [List.length_map]
  exact this
def mnL (A : List (List Int)) (T : Nat) : List Int := (List.range (T + 1)).map fun i => (LA.many A i : Int)
noncomputable def rkL (P : Int → Prop) (A : List (List Int)) (T : Nat) : List Int := (List.range (T + 2)).map fun i => (LA.rk P A i : Int)
theorem rk_row {P : Int → Prop} (h : Prm P) (A : List (List Int)) : (0 : Int) :: (((List.range (LA.topOf A)).map fun i => ((LA.rk P A (i + 1) : Nat) : Int)) ++ [0]) = rkL P A (LA.topOf A) := by
  unfold rkL
  rw [List.range_succ, List.range_succ_eq_map, List.map_append, List.map_cons, List.map_map, LA.rk_0 h]
  show _ = (0 : Int) :: (_ ++ [((LA.rk P A (LA.topOf A + 1) : Nat) : Int)])
  rw [LA.rk_top h (Nat.lt_succ_self _)]
  rfl
theorem mnL_at {A : List (List Int)} {T i : Nat} (h : i < T + 1) : ((mnL A T).map DV.int)[i]? = some (.int (LA.many A i : Int)) := by
  unfold mnL
  rw [List.getElem?_map, List.getElem?_map, List.getElem?_range h]
  rfl
theorem rkL_at {P : Int → Prop} {A : List (List Int)} {T i : Nat} (h : i < T + 2) : ((rkL P A T).map DV.int)[i]? = some (.int (LA.rk P A i : Int)) := by
  unfold rkL
  rw [List.getElem?_map, List.getElem?_map, List.getElem?_range h]
  rfl
/-- a comprehension over a range -/
def nF (f : Nat → Int) : DV → DV
  | .int i => .int (f i.toNat)
  | d => d
theorem nF_map (f : Nat → Int) (n : Nat) : (rangeD 0 n).map (nF f) = ((List.range n).map f).map DV.int := by
  unfold rangeD
  rw [List.map_map, List.map_map]
  refine List.map_congr_left fun i _ => ?_
  show DV.int (f ((0 : Int) + i).toNat) = _
  rw [Int.zero_add, Int.toNat_natCast]
  rfl
theorem nF_map1 (f : Nat → Int) (n : Nat) : (rangeD 1 n).map (nF f) = ((List.range n).map fun i => f (i + 1)).map DV.int := by
  unfold rangeD
  rw [List.map_map, List.map_map]
  refine List.map_congr_left fun i _ => ?_
  show DV.int (f ((1 : Int) + i).toNat) = _
  rw [show ((1 : Int) + i).toNat = i + 1 by omega]
  rfl
theorem holes_ne {P : Int → Prop} {A : List (List Int)} (h : A ≠ []) : LA.holesV P A = (List.range (LA.topOf A + 1)).map fun s => (LA.many A s : Int) - (LA.rk P A s : Nat) - (LA.rk P A (s + 1) : Nat) := by
  unfold LA.holesV
  rw [if_neg h]
theorem holes_nil {P : Int → Prop} : LA.holesV P [] = [] := by
  unfold LA.holesV
  rw [if_pos rfl]
/-! ### the law's side -/
theorem gcdL_snoc {l : List Int} {j : Nat} {e : Int} (h : l[j]? = some e) : gcdL (l.take (j + 1)) = Nat.gcd (gcdL (l.take j)) e.natAbs := by
  rw [List.take_add_one, h]
  unfold gcdL
  rw [List.foldl_append]
  rfl
theorem gcdL_le {l : List Int} {B : Nat} (h : ∀ x ∈ l, x.natAbs ≤ B) : gcdL l ≤ B := by
  by_cases c : ∃ e ∈ l, e ≠ 0
  · obtain ⟨e, he, h0⟩ := c
    have h1 := Int.natAbs_dvd_natAbs.mpr (gcdL_dvd l e he)
    rw [Int.natAbs_natCast] at h1
    have := Nat.le_of_dvd (by omega) h1
    have := h e he
    omega
  · have : ∀ l : List Int, (∀ e ∈ l, e = 0) → l.foldl (fun g e => Nat.gcd g e.natAbs) 0 = 0 := by
      intro l
      induction l with
      | nil => intro _; rfl
      | cons a l ih =>
        intro hl
        rw [List.foldl_cons, hl a List.mem_cons_self]
        exact ih fun e he => hl e (List.mem_cons_of_mem _ he)
    have e0 : gcdL l = 0 := this l fun e he => Classical.byContradiction fun z => c ⟨e, he, z⟩
    rw [e0]
    exact Nat.zero_le _
theorem abs_nat (e : Int) : (if e < 0 then -e else e) = ((e.natAbs : Nat) : Int) := by split <;> omega
def dvF (g : Int) : DV → DV
  | .int i => .int (i / g)
  | d => d
theorem dv_map (g : Int) (l : List Int) : (l.map DV.int).map (dvF g) = (l.map fun e => e / g).map DV.int := by
  rw [List.map_map, List.map_map]
  rfl
theorem int_me4 {l : List Int} {d : DV} (h : d ∈ l.map DV.int) : ∃ i ∈ l, d = .int i := by
  obtain ⟨i, hi, e⟩ := List.mem_map.mp h
  exact ⟨i, hi, e.symm⟩
theorem py_lI4 (ns : List Int) : (lI ns).py = .list (ns.map PyData.int) := by
  have := py_tI ns
  show PyData.list (pyAll (ns.map DV.int)) = _
  have e : PyData.tuple (pyAll (ns.map DV.int)) = .tuple (ns.map PyData.int) := this
  injection e with e
  rw [e]
theorem okE_lI (l : List Int) : okE (lI l) := ⟨okD_lI' l, by rw [py_lI4, PyData.depth, dep_is]; omega⟩
theorem okD_lII (L : List (List Int)) : okD (.lst (L.map lI)) = true := okD_lstE fun d hd => by
  obtain ⟨l, _, rfl⟩ := List.mem_map.mp hd
  exact okE_lI l
def nmD (N : List Int) : DV → DV
  | .int i => .int (nmF N i)
  | d => d
theorem nmD_map (N x : List Int) : (x.map DV.int).map (nmD N) = (x.map (nmF N)).map DV.int := by
  rw [List.map_map, List.map_map]
  rfl
theorem nm_at {N : List Int} {m : Nat} (h : m < N.length) : (N.map DV.int)[m]? = some (.int (nmF N (m : Int))) := by
  rw [List.getElem?_map, List.getElem?_eq_getElem h]
  unfold nmF
  rw [Int.toNat_natCast, List.getD_eq_getElem?_getD, List.getElem?_eq_getElem h]
  rfl
theorem ren_map (N : List Int) (S : List (List Int)) : (S.map tI).map (fun d => tI (LA.srt (nmF N) (oneT d))) = (S.map (LA.srt (nmF N))).map tI := by
  rw [List.map_map, List.map_map]
  refine List.map_congr_left fun x _ => ?_
  show tI (LA.srt (nmF N) (oneT (tI x))) = _
  rw [oneT_tI]
  rfl
theorem rangeD_ints (n : Nat) : rangeD 0 n = ((List.range n).map fun i : Nat => (i : Int)).map DV.int := by
  unfold rangeD
  rw [List.map_map]
  refine List.map_congr_left fun i _ => ?_
  show DV.int ((0 : Int) + i) = DV.int (i : Int)
  rw [Int.zero_add]
theorem eqv_ints4 : ∀ l : List Int, PyData.eqvAll (l.map PyData.int) [] = l.isEmpty
  | [] => by simp [PyData.eqvAll]
  | _ :: _ => by simp [PyData.eqvAll]
theorem eqD_nilI4 (l : List Int) : eqD (.lst (l.map DV.int)) (.lst []) = l.isEmpty := by
  unfold eqD
  rw [show (DV.lst (l.map DV.int)).py = .list (l.map PyData.int) from py_lI4 l]
  show PyData.eqv (.list (l.map PyData.int)) (.list []) = _
  rw [← eqv_ints4 l]
  simp only [PyData.eqv]
theorem eqD_nilII (L : List (List Int)) : eqD (.lst (L.map lI)) (.lst []) = L.isEmpty := by
  unfold eqD
  cases L with
  | nil => show PyData.eqv (.list []) (.list []) = true; simp [PyData.eqv, PyData.eqvAll]
  | cons l L => show PyData.eqv (.list ((lI l).py :: pyAll (L.map lI))) (.list []) = false; simp [PyData.eqv, PyData.eqvAll]
theorem erase_perm4 {α : Type} : ∀ {l : List α} {i : Nat} (h : i < l.length), (l[i] :: l.eraseIdx i).Perm l
  | _ :: _, 0, _ => List.Perm.refl _
  | a :: l, i + 1, h => (List.Perm.swap a _ _).trans ((erase_perm4 (l := l) (i := i) (by simpa using h)).cons a)
theorem erase_map4 {α β : Type} (f : α → β) : ∀ (l : List α) (i : Nat), (l.map f).eraseIdx i = (l.eraseIdx i).map f
  | [], _ => rfl
  | _ :: _, 0 => rfl
  | a :: l, i + 1 => by
    show f a :: (l.map f).eraseIdx i = f a :: (l.eraseIdx i).map f
    rw [erase_map4 f l i]
/-- the boundary, its first i parts -/
def pbd (t : List Int) (i : Nat) (c : List Int) : Int := LA.sumN i fun i => if t.eraseIdx i = c then LA.sg i else 0
theorem rep4 (t : List Int) : ∀ L : List (List Int), (List.replicate L.length [DV.int 0]).flatten = (L.map (pbd t 0)).map DV.int
  | [] => rfl
  | a :: L => by
    rw [List.length_cons, List.replicate_succ, List.flatten_cons, rep4 t L]
    rfl
theorem set_bd {L : List (List Int)} {t : List Int} {i j : Nat} {v : Int} (nd : L.Nodup) (hn : t.Nodup) (hi : i < t.length) (hj : L[j]? = some (t.eraseIdx i)) (hv : v = LA.sg i) :
    ((L.map (pbd t i)).map DV.int).set j (.int v) = (L.map (pbd t (i + 1))).map DV.int := by
  have hjl := (List.getElem?_eq_some_iff.mp hj).1
  refine List.ext_getElem? fun m => ?_
  rw [List.getElem?_set, List.getElem?_map, List.getElem?_map, List.getElem?_map, List.getElem?_map, List.length_map, List.length_map]
  by_cases c : j = m
  · subst c
    rw [if_pos rfl, if_pos hjl, hj]
    show some (DV.int v) = some (DV.int (pbd t i (t.eraseIdx i) + if t.eraseIdx i = t.eraseIdx i then LA.sg i else 0))
    have z : pbd t i (t.eraseIdx i) = 0 := by
      unfold pbd
      rw [LA.sum_congr (g := fun _ => 0) fun k hk => if_neg fun e => ?_, LA.sum_zero]
      have := LA.erase_inj hn (by omega) hi e
      omega
    rw [if_pos rfl, z, Int.zero_add, hv]
  · rw [if_neg c]
    cases e : L[m]? with
    | none => rfl
    | some x =>
      have hx : t.eraseIdx i ≠ x := fun z => by
        have h1 := (List.getElem?_eq_some_iff.mp e)
        have h2 := (List.getElem?_eq_some_iff.mp hj)
        exact c (LA.nd_inj nd h2.1 h1.1 (by rw [h1.2, h2.2, z]))
      show some (DV.int (pbd t i x)) = some (DV.int (pbd t i x + if t.eraseIdx i = x then LA.sg i else 0))
      rw [if_neg hx, Int.add_zero]
theorem first_at : ∀ {L : List (List Int)} {c : List Int}, c ∈ L → ∃ j : Nat, L[j]? = some c ∧ ∀ (m : Nat) (y : List Int), m < j → L[m]? = some y → y ≠ c
  | a :: L, c, h => by
    by_cases e : a = c
    · exact ⟨0, by rw [e]; rfl, fun m y hm => absurd hm (Nat.not_lt_zero m)⟩
    · obtain ⟨j, h1, h2⟩ := first_at (L := L) (c := c) ((List.mem_cons.mp h).resolve_left fun z => e z.symm)
      refine ⟨j + 1, h1, fun m y hm hy => ?_⟩
      cases m with
      | zero => cases hy; exact e
      | succ m => exact h2 m y (by omega) hy
theorem find_face {L : List (List Int)} {c : List Int} (h : c ∈ L) : ∃ j : Nat, L[j]? = some c ∧ ∀ (m : Nat) (z' : DV), m < j → (L.map tI)[m]? = some z' → eqD z' (tI c) = false := by
  obtain ⟨j, h1, h2⟩ := first_at h
  refine ⟨j, h1, fun m z' hm hz => ?_⟩
  rw [List.getElem?_map] at hz
  obtain ⟨y, hy, e⟩ := Option.map_eq_some_iff.mp hz
  rw [← e, eqD_tI]
  exact decide_eq_false (h2 m y hm hy)
theorem dense_snoc {A : List (List Int)} {s j : Nat} {t : List Int} (h : (LA.ofSz A s)[j]? = some t) : (LA.dense A s).take (j + 1) = (LA.dense A s).take j ++ [(LA.ofSz A (s - 1)).map (LA.bd t)] := by
  rw [List.take_add_one]
  unfold LA.dense
  rw [List.getElem?_map, h]
  rfl
theorem ixN_n {n j : Nat} (h : j < n) : ixN n (j : Int) = some j := by
  unfold ixN
  rw [if_pos (by omega), if_pos (by omega)]
  simp
theorem sub7 {n : Nat} (hn : n ≤ 7) {x : List Int} (h : x ∈ subsL n) : x ∈ subsL 7 := good_sub ⟨(sub_good h).1, fun i hi => by have := (sub_good h).2 i hi; omega⟩
theorem bd_one {t : List Int} (h : t.Nodup) (c : List Int) : (LA.bd t c).natAbs ≤ 1 := by
  by_cases z : ∃ i, i < t.length ∧ t.eraseIdx i = c
  · obtain ⟨i, hi, e⟩ := z
    rw [← e, LA.bd_face h hi]
    rcases LA.sg_unit i with e | e <;> rw [e] <;> decide
  · rw [LA.bd_non fun i hi e => z ⟨i, hi, e⟩]
    decide
theorem dense_rkOf {P : Int → Prop} (h : Prm P) {A : List (List Int)} (hA : LA.Cpx A) (s : Nat) : LA.rkOf P ((LA.dense A s).map LA.fn) = LA.rk P A s :=
  IsRk.of h ((LA.dense_rk h hA s _).mp (LA.rk_is h A s))
theorem lstS4 {g : DG} {p : Addr} {ds : List DV} (h : g p = some (.lst ds)) : (lstD g (.ref p)).isSome = true := by
  unfold lstD
  dsimp only
  rw [h]
  rfl
theorem seqS4 {g : DG} {p : Addr} {ds : List DV} (h : g p = some (.lst ds)) : seqD g (.ref p) = some ds := by
  unfold seqD
  dsimp only
  rw [h]
def nzB (p : Nat) (v : List Int) (j : Nat) : Bool := !decide ((if (0 : Int) < (p : Int) then LA.fn v j % (p : Int) else LA.fn v j) = 0)
theorem nz_is {p : Nat} {v : List Int} {j : Nat} : nzB p v j = true ↔ ¬ modP p (LA.fn v j) := by
  unfold nzB modP
  by_cases c : (0 : Int) < (p : Int)
  · rw [if_pos c]
    simp only [Bool.not_eq_true', decide_eq_false_iff_not]
    exact not_congr ⟨Int.dvd_of_emod_eq_zero, Int.emod_eq_zero_of_dvd⟩
  · rw [if_neg c, show (p : Int) = 0 by omega]
    simp only [Bool.not_eq_true', decide_eq_false_iff_not]
    exact not_congr ⟨fun h => by rw [h]; exact Int.dvd_zero _, fun h => by simpa using h⟩
def spF (p : Nat) (L : List (List Int)) (j : Nat) : DV → Bool
  | .int i => nzB p (L.getD i.toNat []) j
  | _ => false
def spL (p : Nat) (L : List (List Int)) (j : Nat) : List Int := (((List.range L.length).filter fun i => nzB p (L.getD i []) j).map fun i : Nat => (i : Int))
theorem sp_map (p : Nat) (L : List (List Int)) (j : Nat) : ((rangeD 0 L.length).filter (spF p L j)).map (fun d => d) = (spL p L j).map DV.int := by
  rw [rangeD_ints]
  unfold spL
  generalize List.range L.length = R
  induction R with
  | nil => rfl
  | cons a R ih =>
    rw [List.map_cons, List.map_cons, List.filter_cons, List.filter_cons]
    have e : spF p L j (DV.int ((a : Nat) : Int)) = nzB p (L.getD a []) j := by
      show nzB p (L.getD ((a : Nat) : Int).toNat []) j = _
      rw [Int.toNat_natCast]
    rw [e]
    split
    · rw [List.map_cons, List.map_cons, List.map_cons, ih]
    · exact ih
theorem sp_none {p : Nat} {L : List (List Int)} {j : Nat} (h : spL p L j = []) : ∀ v ∈ L, modP p (LA.fn v j) := fun v hv => by
  obtain ⟨i, hi, e⟩ := List.mem_iff_getElem.mp hv
  unfold spL at h
  rw [List.map_eq_nil_iff, List.filter_eq_nil_iff] at h
  have h1 := h i (List.mem_range.mpr hi)
  rw [List.getD_eq_getElem?_getD, List.getElem?_eq_getElem hi, nz_is] at h1
  rw [← e]
  exact Classical.byContradiction fun z => h1 z
theorem sp_some {p : Nat} {L : List (List Int)} {j : Nat} {a : Int} {r : List Int} (h : spL p L j = a :: r) : ∃ (i : Nat) (x : List Int), a = (i : Int) ∧ L[i]? = some x ∧ ¬ modP p (LA.fn x j) := by
  have ha : a ∈ spL p L j := by rw [h]; exact List.mem_cons_self
  obtain ⟨i, hi, rfl⟩ := List.mem_map.mp ha
  obtain ⟨h1, h2⟩ := List.mem_filter.mp hi
  have hil := List.mem_range.mp h1
  rw [List.getD_eq_getElem?_getD, List.getElem?_eq_getElem hil, nz_is] at h2
  exact ⟨i, L[i], rfl, List.getElem?_eq_getElem hil, h2⟩
theorem row_at {L : List (List Int)} {i : Nat} {x : List Int} (h : L[i]? = some x) : (L.map lI)[i]? = some (lI x) := by
  rw [List.getElem?_map, h]
  rfl
theorem ent_at {v : List Int} {j : Nat} (h : j < v.length) : (v.map DV.int)[j]? = some (.int (LA.fn v j)) := by
  rw [List.getElem?_map, List.getElem?_eq_getElem h]
  unfold LA.fn
  rw [List.getD_eq_getElem?_getD, List.getElem?_eq_getElem h]
  rfl
theorem zip_ints4 : ∀ a b : List Int, zipD (a.map DV.int) (b.map DV.int) = (a.zip b).map fun p => .tup [.int p.1, .int p.2]
  | [], _ => rfl
  | _ :: _, [] => rfl
  | x :: a, y :: b => by
    show DV.tup [.int x, .int y] :: zipD (a.map DV.int) (b.map DV.int) = _
    rw [zip_ints4 a b]
    rfl
def lnF (h v : Int) : DV → DV
  | .tup [.int a, .int b] => .int (h * a - v * b)
  | d => d
theorem ln_map (j : Nat) (x v : List Int) : ((v.zip x).map fun p => DV.tup [.int p.1, .int p.2]).map (lnF (LA.fn x j) (LA.fn v j)) = (lineL j x v).map DV.int := by
  unfold lineL LA.fn
  rw [List.map_map, ← List.map_uncurry_zip_eq_zipWith, List.map_map]
  rfl
def mdF (p : Int) : DV → DV
  | .int i => .int (i % p)
  | d => d
theorem md_map (p : Int) (l : List Int) : (l.map DV.int).map (mdF p) = (l.map fun e => e % p).map DV.int := by
  rw [List.map_map, List.map_map]
  rfl
theorem bb_le : ∀ {k : Nat}, k ≤ 10 → bb k ≤ 2 ^ 1023 := by
  have h : ((List.range 11).all fun k => decide (bb k ≤ 2 ^ 1023)) = true := by decide +kernel
  intro k hk
  exact of_decide_eq_true (List.all_eq_true.mp h k (List.mem_range.mpr (by omega)))
theorem ent_bd {p w found place : Nat} {R L : List (List Int)} (h : LR p w R L found place) (hf : p = 0 → found ≤ 10) (h97 : p ≤ 97) : ∀ v ∈ L, ∀ y ∈ v, y.natAbs ≤ 2 ^ 1023 := fun v hv y hy => by
  have := h.bd v hv y hy
  by_cases c : p = 0
  · rw [if_pos c] at this
    exact Nat.le_trans this (bb_le (hf c))
  · rw [if_neg c] at this
    exact Nat.le_trans this (Nat.le_trans h97 (by decide +kernel))
theorem lt_of_e {n : Nat} (h : n ≤ 2 ^ 1023) : n < 2 ^ 1030 := Nat.lt_of_le_of_lt h (Nat.pow_lt_pow_right (by decide) (by decide))
theorem ent_lt {v : List Int} (h : ∀ y ∈ v, y.natAbs ≤ 2 ^ 1023) (j : Nat) : (LA.fn v j).natAbs < 2 ^ 1030 := lt_of_e (fn_abs h j)
theorem big_le : 2 * (2 ^ 1023 * 2 ^ 1023) ≤ 2 ^ 2100 := by decide +kernel
theorem line_len {j : Nat} {x v : List Int} (h : v.length = x.length) : (lineL j x v).length = x.length := by unfold lineL; rw [List.length_zipWith]; omega
theorem rd_zipL4 {QA : List DV → DG → Prop} {ds es : List DV} {g : DG} (h : QA (zipD ds es) g) : one2 (fun x y g1 => match x, y with
  | .tup xs, .tup ys => QA (zipD xs ys) g1
  | .lst xs, .lst ys => QA (zipD xs ys) g1
  | .tpl xs, .tup ys => QA (zipD xs ys) g1
  | .tpl xs, .tpl ys => QA (zipD xs ys) g1
  | _, _ => False) [.lst ds, .lst es] g := h
theorem rows_snoc {M : List (List Int)} {j : Nat} {v : List Int} (f : List Int → List Int) (h : M[j]? = some v) : ((M.take (j + 1)).map f).map lI = ((M.take j).map f).map lI ++ [lI (f v)] := by
  rw [List.take_add_one, h, List.map_append, List.map_append]
  rfl
theorem hol_same {n : Nat} {f : Int} (hf : Fld f) (h1 : 1 ≤ n) (h6 : n ≤ 6) (S : List (List Int)) : LA.holesV (modP f.toNat) (allL n S) = LA.holesV (modP (qOf f)) (allL n S) := by
  unfold qOf
  by_cases c : f = 0
  · rw [if_pos c, holes_far h1 h6, c]
    show LA.holesV (modP 0) _ = _
    rw [mod_zero]
  · rw [if_neg c]
theorem pick_prime {d : DV} (h : d ∈ [DV.int 2, .int 2, .int 3, .int 5, .int 97]) : ∃ q : Int, d = .int q ∧ Fld q ∧ q ≠ 0 := by
  simp only [List.mem_cons, List.not_mem_nil, or_false] at h
  rcases h with h | h | h | h | h
  · exact ⟨2, h, .inr (.inl rfl), by decide⟩
  · exact ⟨2, h, .inr (.inl rfl), by decide⟩
  · exact ⟨3, h, .inr (.inr (.inl rfl)), by decide⟩
  · exact ⟨5, h, .inr (.inr (.inr (.inl rfl))), by decide⟩
  · exact ⟨97, h, .inr (.inr (.inr (.inr rfl))), by decide⟩
def enI (l : List Int) : List DV := (List.range l.length).map fun i : Nat => .tup [.int (i : Int), .int (l.getD i 0)]
theorem en_int4 (l : List Int) : enD (l.map DV.int) = enI l := by
  refine List.ext_getElem? fun i => ?_
  unfold enI
  by_cases c : i < l.length
  · have h1 : (l.map DV.int)[i]? = some (.int (l.getD i 0)) := by
      rw [List.getElem?_map, List.getD_eq_getElem?_getD, List.getElem?_eq_getElem c]
      rfl
    rw [enD_get h1, List.getElem?_map, List.getElem?_range c]
    rfl
  · rw [List.getElem?_eq_none (by rw [enD_len, List.length_map]; omega), List.getElem?_eq_none (by rw [List.length_map, List.length_range]; omega)]
def altF : DV → DV
  | .tup [.int i, .int v] => .int (if i % 2 = 1 then v else 0 - v)
  | d => d
theorem alt_map (l : List Int) : (enI l).map altF = ((List.range l.length).map fun i : Nat => if ((i : Nat) : Int) % 2 = 1 then l.getD i 0 else 0 - l.getD i 0).map DV.int := by
  unfold enI
  rw [List.map_map, List.map_map]
  rfl
theorem alt_eul {P : Int → Prop} (h : Prm P) (A : List (List Int)) : LA.alt (LA.holesV P A) = eulL A := LA.euler_law h A
theorem zip_le {a b : List Int} (h : ∀ i : Nat, a.getD i 0 ≤ b.getD i 0) {q : Int × Int} (hq : q ∈ a.zip b) : q.1 ≤ q.2 := by
  obtain ⟨i, hi, e⟩ := List.mem_iff_getElem.mp hq
  rw [List.getElem_zip] at e
  rw [List.length_zip] at hi
  have := h i
  rw [List.getD_eq_getElem?_getD, List.getD_eq_getElem?_getD, List.getElem?_eq_getElem (show i < a.length by omega), List.getElem?_eq_getElem (show i < b.length by omega)] at this
  rw [← e]
  exact this
theorem altF_at (i v : Int) : altF (.tup [.int i, .int v]) = .int (if i % 2 = 1 then v else 0 - v) := rfl
theorem fil_no (L : List DV) : ((L.filter fun _ => false).map fun _ => DV.int 1) = ([] : List Int).map DV.int := by
  rw [List.filter_eq_nil_iff.mpr fun _ _ => Bool.false_ne_true]
  rfl
theorem qOf_0 : qOf 0 = LA.FAR := if_pos rfl
theorem over_map (n : Nat) (S : List (List Int)) : (S.map tI).map (endF n) = (S.map fun x => x ++ [(n : Int)]).map tI := by
  rw [List.map_map, List.map_map]
  refine List.map_congr_left fun x _ => ?_
  show tI (oneT (tI x) ++ [(n : Int)]) = _
  rw [oneT_tI]
  rfl
end DL

/-! k40: the half sphere and the told families. -/
namespace DL
open PySem L2
theorem sph_far {N : List Int} (hN : Nms 6 N) : LA.holesV (LA.modP (qOf 0)) (allL 6 (S6.map (LA.srt (nmF N)))) = [0, 0, 0, 0] := by
  rw [qOf_0, named_holes (LA.prm_mod LA.far_irr) hN S6_in, S6_all, holesC_is LA.far_irr (by rw [← S6_all]; exact all_cpx 6 S6), S6_far]
theorem irr2 : LA.Irr 2 := LA.irr_small (by decide +kernel)
theorem irr3 : LA.Irr 3 := LA.irr_small (by decide +kernel)
theorem irr5 : LA.Irr 5 := LA.irr_small (by decide +kernel)
theorem sph_two {N : List Int} (hN : Nms 6 N) : LA.holesV (LA.modP 2) (allL 6 (S6.map (LA.srt (nmF N)))) = [0, 0, 1, 1] := by
  rw [named_holes (LA.prm_mod irr2) hN S6_in, S6_all, holesC_is irr2 (by rw [← S6_all]; exact all_cpx 6 S6), S6_two]
theorem sph_three {N : List Int} (hN : Nms 6 N) : LA.holesV (LA.modP 3) (allL 6 (S6.map (LA.srt (nmF N)))) = [0, 0, 0, 0] := by
  rw [named_holes (LA.prm_mod irr3) hN S6_in, S6_all, holesC_is irr3 (by rw [← S6_all]; exact all_cpx 6 S6), S6_three]
theorem qOf_2 : qOf 2 = 2 := rfl
theorem qOf_3 : qOf 3 = 3 := rfl
theorem qOf_5 : qOf 5 = 5 := rfl
theorem sph_eul {N : List Int} (hN : Nms 6 N) : eulL (allL 6 (S6.map (LA.srt (nmF N)))) = 0 := by
  rw [← alt_eul (LA.prm_mod irr2), sph_two hN]
  decide
def s40 : List DV := [tI [0, 0, 0, 0], tI [0, 0, 1, 1], tI [0, 0, 0, 0], .int 0]
theorem s40_ok : okD (.lst s40) = true := by decide +kernel
theorem s40_eq : eqD (.lst s40) (.lst s40) = true := by decide +kernel
theorem N3_in : InS 3 [] := by unfold InS; decide +kernel
theorem E3_hol : LA.holesV (LA.modP 5) (allL 3 [[]]) = [1] := by
  rw [holesC_is irr5 (all_cpx 3 [[]]), E3_all]
  decide +kernel
abbrev T3 : List (List Int) := [[0, 1], [2]]
theorem T3_in : InS 3 T3 := by unfold InS; decide +kernel
theorem T3_all : allL 3 T3 = A3 := allL_eq (by decide +kernel) (by decide +kernel)
theorem T3_hol : LA.holesV (LA.modP (qOf 0)) (allL 3 T3) = [0, 1, 0] := by
  rw [qOf_0, holesC_is LA.far_irr (all_cpx 3 T3), T3_all]
  decide +kernel
theorem N3_hol : LA.holesV (LA.modP (qOf 0)) (allL 3 []) = [] := by
  rw [allL_nil, holes_nil]
def u40 : List DV := [tI [], tI [1], tI [0, 1, 0]]
theorem u40_ok : okD (.lst u40) = true := by decide +kernel
theorem u40_eq : eqD (.lst u40) (.lst u40) = true := by decide +kernel
theorem sph_c7 {N : List Int} : ∀ x ∈ allL 6 (S6.map (LA.srt (nmF N))), x ∈ subsL 7 := fun x hx => sub7 (show 6 ≤ 7 by decide) (allL_sub hx)
theorem c7_3 {S : List (List Int)} : ∀ x ∈ allL 3 S, x ∈ subsL 7 := fun x hx => sub7 (show 3 ≤ 7 by decide) (allL_sub hx)
end DL

namespace DL
open PySem L2

def topS (i : Nat) : Stmt := PySem.Challenge.pw_pureladders_k40_whole_holes_by_ranks.main.body.getD i (.Pass ⟨0, 0, 0, 0⟩)
structure Txt (P : Program) (K : Fg) (mg : Str → Option Value) (t_FAR_PRIME t_MAX_CORNERS t_MAX_FIELD t_MAX_PASSED : Tok) (c_KeptSets c_Family : Addr) : Prop where
  b_abs : mg "abs" = none
  b_all : mg "all" = none
  b_bool : mg "bool" = none
  b_dict : mg "dict" = none
  b_enumerate : mg "enumerate" = none
  b_int : mg "int" = none
  b_isinstance : mg "isinstance" = none
  b_iter : mg "iter" = none
  b_len : mg "len" = none
  b_list : mg "list" = none
  b_max : mg "max" = none
  b_min : mg "min" = none
  b_range : mg "range" = none
  b_sorted : mg "sorted" = none
  b_sum : mg "sum" = none
  b_tuple : mg "tuple" = none
  b_zip : mg "zip" = none
  c_FAR_PRIME : mg "FAR_PRIME" = some (.int 2305843009213693951 t_FAR_PRIME)
  c_MAX_CORNERS : mg "MAX_CORNERS" = some (.int 8 t_MAX_CORNERS)
  c_MAX_FIELD : mg "MAX_FIELD" = some (.int 97 t_MAX_FIELD)
  c_MAX_PASSED : mg "MAX_PASSED" = some (.int 256 t_MAX_PASSED)
  g_KeptSets : mg "KeptSets" = some (.ref c_KeptSets)
  F_KeptSets : ClsF K c_KeptSets
  g_Family : mg "Family" = some (.ref c_Family)
  F_Family : ClsF K c_Family
  s_Family_own_corners : ∃ p, SlX.Slot1 K c_Family "own_corners" p 0
  s_Family_own_known : ∃ p, SlX.Slot1 K c_Family "own_known" p 1
  s_Family_own_members : ∃ p, SlX.Slot1 K c_Family "own_members" p 2
  s_Family_own_sets : ∃ p, SlX.Slot1 K c_Family "own_sets" p 3
  s_KeptSets_own_sets : ∃ p, SlX.Slot1 K c_KeptSets "own_sets" p 0

abbrev s_is_whole : Stmt := topS 7
abbrev N_is_whole : List Str := ["value"]
theorem sc_is_whole : FnScope N_is_whole ["value"] (defScope s_is_whole) := ⟨rfl, rfl, rfl, by decide +kernel, rfl, by decide +kernel, by decide +kernel⟩
abbrev sp_is_whole (c_KeptSets c_Family : Addr) : SpD :=
  sp1 fun a g P => a.pl = true ∧ P (.bl (isW a)) g

theorem ok_is_whole {P : Program} {w : World} {K : Fg} {mg : Str → Option Value} {base : Heap} {t_FAR_PRIME t_MAX_CORNERS t_MAX_FIELD t_MAX_PASSED : Tok} {c_KeptSets c_Family : Addr} {f : Addr} {fd : FuncData} (D : Dfn K mg "is_whole" s_is_whole ["value"] f fd) (T : Txt P K mg t_FAR_PRIME t_MAX_CORNERS t_MAX_FIELD t_MAX_PASSED c_KeptSets c_Family) :
    FnOk P w K mg base CX0 1 f fd ["value"] (upSp K (sp_is_whole c_KeptSets c_Family)) := by
  refine fun_okD D.fn sc_is_whole (fun ds g Q h => len1 h) (fun cdv A outer s H E hr => ⟨_, (pds_one (pds_ret (pd_and (pd_callB call_isiY ref_isi T.b_isinstance (by decide +kernel) (pda_cons (pdv 0) (pda_cons (pd_ty (n := "int") T.b_int (by decide +kernel)) pda_nil))) (pd_one (pd_not (pd_callB call_isiY ref_isi T.b_isinstance (by decide +kernel) (pda_cons (pdv 0) (pda_cons (pd_ty (n := "bool") T.b_bool (by decide +kernel)) pda_nil)))))))), ?_⟩)
  intro ds g Q h
  obtain ⟨a0, rfl, h⟩ := sp1_of h
  rw [show startD N_is_whole [a0] = [some a0] from rfl]
  obtain ⟨hp, k⟩ := h
  cases a0 <;> first | cases hp; done | skip
  all_goals simp [rrNeg, dSeq, dNext, dDrop, dRet, dRetN, dIf, dAsg, bindT, setAll, dPar, dFor, dVar, dC, dOp, dB, dChain, dTru, dAnd, dOr, dNot, dAndV, dOrV, dNotV, dIfE, dUn, dNil, dCons, dTup, dLst, dLstM, dCB, dCall, ixD, optD, wSeq, wRng1, wRng2, wRngD, wZip, one1, one2, one3, dLc, dLcM, dYes, dMt, dMt0, rmAppend, rmExtend, rmPop, atL, dSetI, dSl, dPart, dNoPart, dStar, rr1, rr2, rrLen, rrInt, rrAbs, rrII, rrSum, rrBs, rrTuple, rrList, rrSorted, rrIsi, rrAdd, rrI, rrCmp, rrEq, rrNe, rrIsN, rrNotN, nth, truD, seqD, lstD, seqP, tyNm, isiN, dEnds, List.set, wipeD, gup_same, dFz, dWhile, dNever, dBreak, dCont, atI_c0, atI_c1, atI_c2, ixN_30, ixN_31, ixN_32, List.length_cons, List.length_nil, Nat.zero_add, Nat.reduceAdd, decide_eq_true_eq]
  all_goals exact dret k

abbrev s_is_within : Stmt := topS 8
abbrev N_is_within : List Str := ["value", "least", "greatest"]
theorem sc_is_within : FnScope N_is_within ["value", "least", "greatest"] (defScope s_is_within) := ⟨rfl, rfl, rfl, by decide +kernel, rfl, by decide +kernel, by decide +kernel⟩
abbrev sp_is_within (c_KeptSets c_Family : Addr) : SpD :=
  sp3 fun a b c g P => a.pl = true ∧ ∃ lo hi : Int, b = .int lo ∧ c = .int hi ∧ P (.bl (isWi lo hi a)) g

theorem ok_is_within {P : Program} {w : World} {K : Fg} {mg : Str → Option Value} {base : Heap} {t_FAR_PRIME t_MAX_CORNERS t_MAX_FIELD t_MAX_PASSED : Tok} {c_KeptSets c_Family : Addr} {f f_is_whole : Addr} {fd d_is_whole : FuncData} (D : Dfn K mg "is_within" s_is_within ["value", "least", "greatest"] f fd) (T : Txt P K mg t_FAR_PRIME t_MAX_CORNERS t_MAX_FIELD t_MAX_PASSED c_KeptSets c_Family) (D_is_whole : Dfn K mg "is_whole" s_is_whole ["value"] f_is_whole d_is_whole) (G_is_whole : FnOk P w K mg base CX0 1 f_is_whole d_is_whole ["value"] (upSp K (sp_is_whole c_KeptSets c_Family))) :
    FnOk P w K mg base CX0 2 f fd ["value", "least", "greatest"] (upSp K (sp_is_within c_KeptSets c_Family)) := by
  refine fun_okD D.fn sc_is_within (fun ds g Q h => len3 h) (fun cdv A outer s H E hr => ⟨_, (pds_one (pds_ret (pd_and (pd_call G_is_whole (hr.mono (by decide)) D_is_whole.at_ D_is_whole.fn.kp D_is_whole.bd pass0 (pda_cons (pdv 0) pda_nil)) (pd_one (pd_chain op_le ref_cmp op_le ref_cmp (pdv 1) (pdv 0) (pdv 2)))))), ?_⟩)
  intro ds g Q h
  obtain ⟨a0, a1, a2, rfl, h⟩ := sp3_of h
  rw [show startD N_is_within [a0, a1, a2] = [some a0, some a1, some a2] from rfl]
  obtain ⟨hp, lo, hi, e1, e2, k⟩ := h
  subst e1 e2
  simp only [rrNeg, dSeq, dNext, dDrop, dRet, dRetN, dIf, dAsg, bindT, setAll, dPar, dFor, dVar, dC, dOp, dB, dChain, dTru, dAnd, dOr, dNot, dAndV, dOrV, dNotV, dIfE, dUn, dNil, dCons, dTup, dLst, dLstM, dCB, dCall, ixD, optD, wSeq, wRng1, wRng2, wRngD, wZip, one1, one2, one3, dLc, dLcM, dYes, dMt, dMt0, rmAppend, rmExtend, rmPop, atL, dSetI, dSl, dPart, dNoPart, dStar, rr1, rr2, rrLen, rrInt, rrAbs, rrII, rrSum, rrBs, rrTuple, rrList, rrSorted, rrIsi, rrAdd, rrI, rrCmp, rrEq, rrNe, rrIsN, rrNotN, nth, truD, seqD, lstD, seqP, tyNm, isiN, dEnds, List.set, wipeD, gup_same, dFz, dWhile, dNever, dBreak, dCont, atI_c0, atI_c1, atI_c2, ixN_30, ixN_31, ixN_32, List.length_cons, List.length_nil, Nat.zero_add, Nat.reduceAdd, decide_eq_true_eq, sp_is_whole, sp1]
  refine ⟨hp, ?_⟩
  cases a0 <;> simp only [isW]
  case int i =>
    by_cases c : lo ≤ i
    · simpa [isWi, c] using dret k
    · simpa [isWi, c] using dret k
  all_goals exact dret k

abbrev s_is_prime_number : Stmt := topS 9
abbrev N_is_prime_number : List Str := ["number", "divisor"]
theorem sc_is_prime_number : FnScope N_is_prime_number ["number"] (defScope s_is_prime_number) := ⟨rfl, rfl, rfl, by decide +kernel, rfl, by decide +kernel, by decide +kernel⟩
abbrev sp_is_prime_number (c_KeptSets c_Family : Addr) : SpD :=
  sp1 fun a g P => ∃ p : Int, a = .int p ∧ Fld p ∧ p ≠ 0 ∧ P (.bl true) g

local macro_rules | `(tactic| walk_at "rr1") => `(tactic| (repeat (first | (with_reducible first | refine rd_seq ?_ | refine rd_seqE ?_ | refine rd_next ?_ | refine rd_rtE ?_ | refine rd_nxE ?_ | refine rd_nx ?_ | refine rd_rt ?_ | refine rd_drop ?_ | refine rd_ret ?_ | refine rd_dif ?_ | refine rd_c ?_ | refine rd_op ?_ | refine rd_b ?_ | refine rd_bK ?_ | refine rd_nil ?_ | refine rd_cons ?_ | refine rd_cb ?_ | refine rd_call ?_ | refine rd_sp1 ?_ | refine rd_sp2 ?_ | refine rd_sp3 ?_ | refine rd_cmp ?_ | refine rd_lc ?_ | refine rd_rng2 ?_ | refine rd_itet ?_ | refine rd_itef ?_ | refine rd_itnt ?_ | refine rd_itnf ?_) | ((with_reducible apply rd_var); (· exact rfl)))))
theorem ok_is_prime_number {P : Program} {w : World} {K : Fg} {mg : Str → Option Value} {base : Heap} {t_FAR_PRIME t_MAX_CORNERS t_MAX_FIELD t_MAX_PASSED : Tok} {c_KeptSets c_Family : Addr} {f : Addr} {fd : FuncData} (D : Dfn K mg "is_prime_number" s_is_prime_number ["number"] f fd) (T : Txt P K mg t_FAR_PRIME t_MAX_CORNERS t_MAX_FIELD t_MAX_PASSED c_KeptSets c_Family) :
    FnOk P w K mg base CX0 1 f fd ["number"] (upSp K (sp_is_prime_number c_KeptSets c_Family)) := by
  refine fun_okD D.fn sc_is_prime_number (fun ds g Q h => len1 h) (fun cdv A outer s H E hr => ⟨_, (pds_cons (pds_if (pt_cmpD op_lt (RefCmp.op ref_cmp) (pdv 0) pd_int (nomark _)) (pds_one (pds_ret pd_bl)) pds_nil) (pds_one (pds_ret (pd_callB (cr_all rfl) ref_bs T.b_all (by decide +kernel) (pda_cons (pd_lc (own := [("divisor", 1)]) (tg := .nm 1) rfl sc_is_prime_number.nd (pid_range2 T.b_range (pda_cons pd_int (pda_cons pd_int pda_nil))) (blkOk_by (own := [("divisor", 1)]) (N := N_is_prime_number) (sc := defScope s_is_prime_number) (by decide +kernel)) (fun _ _ _ _ _ => (pgd_nm (i := 1) sc_is_prime_number.nd)) (fun _ _ _ _ _ => (ptsd_one (pt_cmpD op_le (RefCmp.op ref_cmp) (pd_mulI (pdv 1) (pdv 1)) (pdv 0) (nomark _)))) (fun _ _ _ _ _ => (pd_cmp (op_neD hr.units) (RefCmp.op ref_ne) (pd_mod (pdv 0) (pdv 1)) pd_int (nomark _)))) pda_nil))))), ?_⟩)
  intro ds g Q h
  obtain ⟨a0, rfl, h⟩ := sp1_of h
  rw [show startD N_is_prime_number [a0] = [some a0, none] from rfl]
  obtain ⟨p, e1, hf, h0, k⟩ := h
  subst e1
  have hlo := fld_lo hf h0
  walk_at "rr1"
  rw [decide_eq_false (show ¬ p < 2 by omega)]
  walk_at "rr1"
  refine rd_rng2K (by unfold rngOk; decide) ?_
  refine rd_zK (by rw [rangeD_len]; decide) (comp_fil (p := sqF p) (f := fun _ => .bl true) (fun d hd => ?_) ?_)
  · obtain ⟨i, e, h1, h2⟩ := rangeD_mem hd
    subst e
    refine ⟨_, rfl, fun Q' h' => ?_, fun hq Q2 h2 => ?_⟩
    · walk_at "rr1"
      refine rd_rI (mulW (by omega) (by omega) (by omega) (by omega)) ?_
      walk_at "rr1"
      exact h'
    · have hs : i * i ≤ p := of_decide_eq_true hq
      have hn := no_div hf h0 h1 hs
      walk_at "rr1"
      refine rd_rI (by omega) ?_
      walk_at "rr1"
      refine rd_ne (okD_int _) (okD_int _) ?_
      rw [eqD_int, decide_eq_false hn]
      exact h2
  · rw [fil_t40]
    walk_at "rr1"
    refine rd_bs rfl (blsD_map _) ?_
    rw [all_t40]
    exact dret k

abbrev s_is_field : Stmt := topS 10
abbrev N_is_field : List Str := ["value"]
theorem sc_is_field : FnScope N_is_field ["value"] (defScope s_is_field) := ⟨rfl, rfl, rfl, by decide +kernel, rfl, by decide +kernel, by decide +kernel⟩
abbrev sp_is_field (c_KeptSets c_Family : Addr) : SpD :=
  sp1 fun a g P => ∃ p : Int, a = .int p ∧ Fld p ∧ P (.bl true) g

local macro_rules | `(tactic| walk_at "rr2") => `(tactic| (repeat (first | (with_reducible first | refine rd_seq ?_ | refine rd_seqE ?_ | refine rd_next ?_ | refine rd_rtE ?_ | refine rd_nxE ?_ | refine rd_nx ?_ | refine rd_rt ?_ | refine rd_drop ?_ | refine rd_ret ?_ | refine rd_c ?_ | refine rd_op ?_ | refine rd_b ?_ | refine rd_bK ?_ | refine rd_andV ?_ | refine rd_orV ?_ | refine rd_tvKb ?_ | refine rd_nil ?_ | refine rd_cons ?_ | refine rd_cb ?_ | refine rd_call ?_ | refine rd_sp1 ?_ | refine rd_sp2 ?_ | refine rd_sp3 ?_ | refine rd_itet ?_ | refine rd_itef ?_ | refine rd_itnt ?_ | refine rd_itnf ?_) | ((with_reducible apply rd_var); (· exact rfl)))))
theorem ok_is_field {P : Program} {w : World} {K : Fg} {mg : Str → Option Value} {base : Heap} {t_FAR_PRIME t_MAX_CORNERS t_MAX_FIELD t_MAX_PASSED : Tok} {c_KeptSets c_Family : Addr} {f f_is_prime_number f_is_within : Addr} {fd d_is_prime_number d_is_within : FuncData} (D : Dfn K mg "is_field" s_is_field ["value"] f fd) (T : Txt P K mg t_FAR_PRIME t_MAX_CORNERS t_MAX_FIELD t_MAX_PASSED c_KeptSets c_Family) (D_is_prime_number : Dfn K mg "is_prime_number" s_is_prime_number ["number"] f_is_prime_number d_is_prime_number) (G_is_prime_number : FnOk P w K mg base CX0 1 f_is_prime_number d_is_prime_number ["number"] (upSp K (sp_is_prime_number c_KeptSets c_Family))) (D_is_within : Dfn K mg "is_within" s_is_within ["value", "least", "greatest"] f_is_within d_is_within) (G_is_within : FnOk P w K mg base CX0 2 f_is_within d_is_within ["value", "least", "greatest"] (upSp K (sp_is_within c_KeptSets c_Family))) :
    FnOk P w K mg base CX0 3 f fd ["value"] (upSp K (sp_is_field c_KeptSets c_Family)) := by
  refine fun_okD D.fn sc_is_field (fun ds g Q h => len1 h) (fun cdv A outer s H E hr => ⟨_, (pds_one (pds_ret (pd_and (pd_call G_is_within (hr.mono (by decide)) D_is_within.at_ D_is_within.fn.kp D_is_within.bd pass0 (pda_cons (pdv 0) (pda_cons pd_int (pda_cons (pd_globI T.c_MAX_FIELD) pda_nil)))) (pd_one (pd_or (pd_cmp (op_eqD hr.units) (RefCmp.op ref_eq) (pdv 0) pd_int (nomark _)) (pd_one (pd_call G_is_prime_number (hr.mono (by decide)) D_is_prime_number.at_ D_is_prime_number.fn.kp D_is_prime_number.bd pass0 (pda_cons (pdv 0) pda_nil)))))))), ?_⟩)
  intro ds g Q h
  obtain ⟨a0, rfl, h⟩ := sp1_of h
  rw [show startD N_is_field [a0] = [some a0] from rfl]
  obtain ⟨p, e1, hf, k⟩ := h
  subst e1
  have hin := fld_in hf
  walk_at "rr2"
  refine ⟨rfl, 0, 97, rfl, rfl, ?_⟩
  rw [isWi_at (by omega) (by omega)]
  walk_at "rr2"
  refine rd_eq (okD_int _) (okD_int _) ?_
  rw [eqD_int]
  by_cases h0 : p = 0
  · rw [decide_eq_true h0]
    walk_at "rr2"
    exact dret k
  · rw [decide_eq_false h0]
    walk_at "rr2"
    refine ⟨p, rfl, hf, h0, ?_⟩
    exact dret k

abbrev s_require_field : Stmt := topS 11
abbrev N_require_field : List Str := ["prime"]
theorem sc_require_field : FnScope N_require_field ["prime"] (defScope s_require_field) := ⟨rfl, rfl, rfl, by decide +kernel, rfl, by decide +kernel, by decide +kernel⟩
abbrev sp_require_field (c_KeptSets c_Family : Addr) : SpD :=
  sp1 fun a g P => ∃ p : Int, a = .int p ∧ Fld p ∧ P .non g

local macro_rules | `(tactic| walk_at "rr3") => `(tactic| (repeat (first | (with_reducible first | refine rd_seq ?_ | refine rd_seqE ?_ | refine rd_next ?_ | refine rd_rtE ?_ | refine rd_nxE ?_ | refine rd_nx ?_ | refine rd_rt ?_ | refine rd_drop ?_ | refine rd_ret ?_ | refine rd_dif ?_ | refine rd_c ?_ | refine rd_op ?_ | refine rd_b ?_ | refine rd_bK ?_ | refine rd_tru ?_ | refine rd_tKb ?_ | refine rd_not ?_ | refine rd_nil ?_ | refine rd_cons ?_ | refine rd_cb ?_ | refine rd_call ?_ | refine rd_sp1 ?_ | refine rd_sp2 ?_ | refine rd_sp3 ?_ | refine rd_itet ?_ | refine rd_itef ?_ | refine rd_itnt ?_ | refine rd_itnf ?_) | ((with_reducible apply rd_var); (· exact rfl)))))
theorem ok_require_field {P : Program} {w : World} {K : Fg} {mg : Str → Option Value} {base : Heap} {t_FAR_PRIME t_MAX_CORNERS t_MAX_FIELD t_MAX_PASSED : Tok} {c_KeptSets c_Family : Addr} {f f_is_field : Addr} {fd d_is_field : FuncData} (D : Dfn K mg "require_field" s_require_field ["prime"] f fd) (T : Txt P K mg t_FAR_PRIME t_MAX_CORNERS t_MAX_FIELD t_MAX_PASSED c_KeptSets c_Family) (D_is_field : Dfn K mg "is_field" s_is_field ["value"] f_is_field d_is_field) (G_is_field : FnOk P w K mg base CX0 3 f_is_field d_is_field ["value"] (upSp K (sp_is_field c_KeptSets c_Family))) :
    FnOk P w K mg base CX0 4 f fd ["prime"] (upSp K (sp_require_field c_KeptSets c_Family)) := by
  refine fun_okD D.fn sc_require_field (fun ds g Q h => len1 h) (fun cdv A outer s H E hr => ⟨_, (pds_one (pds_if (pt_notD (pt_truD (pd_call G_is_field (hr.mono (by decide)) D_is_field.at_ D_is_field.fn.kp D_is_field.bd pass0 (pda_cons (pdv 0) pda_nil)))) (pds_one pds_never) pds_nil)), ?_⟩)
  intro ds g Q h
  obtain ⟨a0, rfl, h⟩ := sp1_of h
  rw [show startD N_require_field [a0] = [some a0] from rfl]
  obtain ⟨p, e1, hf, k⟩ := h
  subst e1
  walk_at "rr3"
  refine ⟨p, rfl, hf, ?_⟩
  walk_at "rr3"
  exact dret k

abbrev s_inverse_in : Stmt := topS 13
abbrev N_inverse_in : List Str := ["number", "prime", "one", "other", "left", "right", "times"]
theorem sc_inverse_in : FnScope N_inverse_in ["number", "prime"] (defScope s_inverse_in) := ⟨rfl, rfl, rfl, by decide +kernel, rfl, by decide +kernel, by decide +kernel⟩
abbrev sp_inverse_in (c_KeptSets c_Family : Addr) : SpD :=
  sp2 fun a b g P => ∃ (n : Int) (p : Nat), a = .int n ∧ b = .int (p : Int) ∧ LA.Irr p ∧ p ≤ LA.FAR ∧ 1 ≤ n ∧ n < p ∧ ∀ r, IsInv n p r → P (.int r) g

local macro_rules | `(tactic| walk_at "rr4") => `(tactic| (repeat (first | (with_reducible first | refine rd_seq ?_ | refine rd_seqE ?_ | refine rd_next ?_ | refine rd_rtE ?_ | refine rd_nxE ?_ | refine rd_nx ?_ | refine rd_rt ?_ | refine rd_ct ?_ | refine rd_bk ?_ | refine rd_drop ?_ | refine rd_ret ?_ | refine rd_asg ?_ | refine rd_c ?_ | refine rd_op ?_ | refine rd_b ?_ | refine rd_bK ?_ | refine rd_nil ?_ | refine rd_cons ?_ | refine rd_tup ?_ | refine rd_cb ?_ | refine rd_call ?_ | refine rd_sp1 ?_ | refine rd_sp2 ?_ | refine rd_sp3 ?_ | refine rd_sub ?_ | refine rd_itet ?_ | refine rd_itef ?_ | refine rd_itnt ?_ | refine rd_itnf ?_) | ((with_reducible apply rd_var); (· exact rfl)) | ((with_reducible apply rd_asgK); (· exact rfl)))))
theorem ok_inverse_in {P : Program} {w : World} {K : Fg} {mg : Str → Option Value} {base : Heap} {t_FAR_PRIME t_MAX_CORNERS t_MAX_FIELD t_MAX_PASSED : Tok} {c_KeptSets c_Family : Addr} {f : Addr} {fd : FuncData} (D : Dfn K mg "inverse_in" s_inverse_in ["number", "prime"] f fd) (T : Txt P K mg t_FAR_PRIME t_MAX_CORNERS t_MAX_FIELD t_MAX_PASSED c_KeptSets c_Family) :
    FnOk P w K mg base CX0 1 f fd ["number", "prime"] (upSp K (sp_inverse_in c_KeptSets c_Family)) := by
  refine fun_okD D.fn sc_inverse_in (fun ds g Q h => len2 h) (fun cdv A outer s H E hr => ⟨_, (pds_cons (pds_setT (tg := .tp [2, 3, 4, 5]) (pgd_tp (is := [2, 3, 4, 5]) rfl (pgd_cons (i := 2) (pgd_nm (i := 2) sc_inverse_in.nd) (pgd_cons (i := 3) (pgd_nm (i := 3) sc_inverse_in.nd) (pgd_cons (i := 4) (pgd_nm (i := 4) sc_inverse_in.nd) (pgd_cons (i := 5) (pgd_nm (i := 5) sc_inverse_in.nd) pgd_nil))))) (pd_tup (pda_cons (pdv 1) (pda_cons (pd_mod (pdv 0) (pdv 1)) (pda_cons pd_int (pda_cons pd_int pda_nil)))))) (pds_cons (pds_while PassesOwn.never (pt_cmpD (op_neD hr.units) (RefCmp.op ref_ne) (pdv 3) pd_int (nomark _)) (pds_cons (pds_set (i := 6) sc_inverse_in.nd (pd_fdiv (pdv 2) (pdv 3))) (pds_one (pds_setT (tg := .tp [2, 3, 4, 5]) (pgd_tp (is := [2, 3, 4, 5]) rfl (pgd_cons (i := 2) (pgd_nm (i := 2) sc_inverse_in.nd) (pgd_cons (i := 3) (pgd_nm (i := 3) sc_inverse_in.nd) (pgd_cons (i := 4) (pgd_nm (i := 4) sc_inverse_in.nd) (pgd_cons (i := 5) (pgd_nm (i := 5) sc_inverse_in.nd) pgd_nil))))) (pd_tup (pda_cons (pdv 3) (pda_cons (pd_sub (pdv 2) (pd_mulI (pdv 6) (pdv 3))) (pda_cons (pdv 5) (pda_cons (pd_sub (pdv 4) (pd_mulI (pdv 6) (pdv 5))) pda_nil))))))))) (pds_one (pds_ret (pd_mod (pdv 4) (pdv 1)))))), ?_⟩)
  intro ds g Q h
  obtain ⟨a0, a1, rfl, h⟩ := sp2_of h
  rw [show startD N_inverse_in [a0, a1] = [some a0, some a1, none, none, none, none, none] from rfl]
  obtain ⟨n, p, e1, e2, hp, hf, h1, h2, k⟩ := h
  subst e1 e2
  walk_at "rr4"
  refine rd_rI (by omega) ?_
  walk_at "rr4"
  refine rd_zK (by show 4 ≤ 16777216; decide) ?_
  walk_at "rr4"
  refine rd_while (I := fun kk δ g' => ∃ (one other left right : Int) (v6 : Option DV), δ = [some (.int n), some (.int (p : Int)), some (.int one), some (.int other), some (.int left), some (.int right), v6] ∧ InvI n p one other left right ∧ other.toNat < kk ∧ g' = g) _ ⟨_, _, _, _, _, rfl, InvI.start hp h1 h2, Nat.lt_succ_self _, rfl⟩ (fun δ g' ⟨_, _, _, _, _, _, _, h, _⟩ => by omega) (fun kk δ g' f hf2 hI => ?_)
  obtain ⟨one, other, left, right, v6, e, hi, hm, eg⟩ := hI
  subst e eg
  walk_at "rr4"
  refine rd_ne (okD_int _) (okD_int _) ?_
  rw [eqD_int]
  walk_at "rr4"
  refine rd_iteb (fun c => ?_) (fun c => ?_)
  · have hz : other ≠ 0 := by simpa using c
    have h61 : LA.FAR < 2 ^ 61 := by decide
    have b1 := hi.h1
    have b2 := hi.h2
    have b3 := hi.h3
    have bs := hi.bds
    have hop := hi.h4
    have q0 : 0 ≤ one / other := Int.ediv_nonneg (by omega) b2
    have q1 : one / other ≤ one := Int.ediv_le_self _ (by omega)
    walk_at "rr4"
    refine rd_rI (divW (by omega) (by omega)) ?_
    walk_at "rr4"
    refine rd_rI (mulW (by omega) (by omega) (by omega) (by omega)) ?_
    walk_at "rr4"
    refine rd_rI (mulW (by omega) (by omega) (by omega) (by omega)) ?_
    walk_at "rr4"
    refine rd_zK (by show 4 ≤ 16777216; decide) ?_
    walk_at "rr4"
    exact hf2 _ _ ⟨_, _, _, _, _, rfl, hi.step hz, by have := hi.dec hz; omega, rfl⟩
  · have hz : other = 0 := by simpa using c
    subst hz
    walk_at "rr4"
    refine rd_rI (by omega) ?_
    exact dret (k _ hi.fin)

abbrev s_without_each : Stmt := topS 16
abbrev N_without_each : List Str := ["chosen", "at"]
theorem sc_without_each : FnScope N_without_each ["chosen"] (defScope s_without_each) := ⟨rfl, rfl, rfl, by decide +kernel, rfl, by decide +kernel, by decide +kernel⟩
abbrev sp_without_each (c_KeptSets c_Family : Addr) : SpD :=
  sp1 fun a g P => ∃ xs : List Int, a = tI xs ∧ xs.length ≤ 1000 ∧ P (.lst ((dropsL xs).map tI)) g

local macro_rules | `(tactic| walk_at "rr5") => `(tactic| (repeat (first | (with_reducible first | refine rd_seq ?_ | refine rd_seqE ?_ | refine rd_next ?_ | refine rd_rtE ?_ | refine rd_nxE ?_ | refine rd_nx ?_ | refine rd_rt ?_ | refine rd_drop ?_ | refine rd_ret ?_ | refine rd_c ?_ | refine rd_op ?_ | refine rd_b ?_ | refine rd_bK ?_ | refine rd_nil ?_ | refine rd_cons ?_ | refine rd_cb ?_ | refine rd_call ?_ | refine rd_sp1 ?_ | refine rd_sp2 ?_ | refine rd_sp3 ?_ | refine rd_add ?_ | refine rd_lc ?_ | refine rd_yes ?_ | refine rd_rng1 ?_ | refine rd_sl ?_ | refine rd_slT ?_ | refine rd_slL ?_ | refine rd_slS ?_ | refine rd_nopart ?_ | refine rd_part ?_ | refine rd_ptK ?_ | refine rd_itet ?_ | refine rd_itef ?_ | refine rd_itnt ?_ | refine rd_itnf ?_) | ((with_reducible apply rd_var); (· exact rfl)) | ((with_reducible apply rd_len); (· (first | assumption | exact seqD_ref (by assumption) | exact seqD_up | exact lstD_ref (by assumption) | exact lstD_up | rfl))))))
theorem ok_without_each {P : Program} {w : World} {K : Fg} {mg : Str → Option Value} {base : Heap} {t_FAR_PRIME t_MAX_CORNERS t_MAX_FIELD t_MAX_PASSED : Tok} {c_KeptSets c_Family : Addr} {f : Addr} {fd : FuncData} (D : Dfn K mg "without_each" s_without_each ["chosen"] f fd) (T : Txt P K mg t_FAR_PRIME t_MAX_CORNERS t_MAX_FIELD t_MAX_PASSED c_KeptSets c_Family) :
    FnOk P w K mg base CX0 1 f fd ["chosen"] (upSp K (sp_without_each c_KeptSets c_Family)) := by
  refine fun_okD D.fn sc_without_each (fun ds g Q h => len1 h) (fun cdv A outer s H E hr => ⟨_, (pds_one (pds_ret (pd_lc (own := [("at", 1)]) (tg := .nm 1) rfl sc_without_each.nd (pid_range1 T.b_range (pda_cons (pd_callB call_len_seq ref_len T.b_len (by decide +kernel) (pda_cons (pdv 0) pda_nil)) pda_nil)) (blkOk_by (own := [("at", 1)]) (N := N_without_each) (sc := defScope s_without_each) (by decide +kernel)) (fun _ _ _ _ _ => (pgd_nm (i := 1) sc_without_each.nd)) (fun _ _ _ _ _ => ptsd_nil) (fun _ _ _ _ _ => (pd_add (pd_slice (pdv 0) pod_none (pod_some (pdv 1))) (pd_slice (pdv 0) (pod_some (pd_add (pdv 1) pd_int)) pod_none)))))), ?_⟩)
  intro ds g Q h
  obtain ⟨a0, rfl, h⟩ := sp1_of h
  rw [show startD N_without_each [a0] = [some a0, none] from rfl]
  obtain ⟨xs, e1, hl, k⟩ := h
  subst e1
  walk_at "rr5"
  rw [List.length_map]
  refine rd_rng1K ⟨by omega, by omega⟩ ?_
  refine rd_zK (by rw [rangeD_len]; omega) (comp_map (f := dropF xs) (fun d hd => ?_) ?_)
  · obtain ⟨i, hi⟩ := List.mem_iff_getElem?.mp hd
    obtain ⟨hil, e⟩ := rangeD_at hi
    subst e
    refine ⟨_, rfl, fun Q2 h2 => ?_⟩
    have hil2 : i < xs.length := by omega
    walk_at "rr5"
    rw [cut_to (by rw [List.length_map]; omega), show ((i : Int) + 1) = ((i + 1 : Nat) : Int) from rfl, cut_fr (by rw [List.length_map]; omega), ← List.map_take, ← List.map_drop]
    refine rd_addT (by rw [List.length_map, List.length_map, List.length_take, List.length_drop]; omega) ?_
    rw [← List.map_append]
    exact h2
  · rw [show ((xs.length : Nat) : Int).toNat = xs.length from rfl, drops_map]
    walk_at "rr5"
    exact dret k

abbrev s_closed_downward : Stmt := topS 17
abbrev N_closed_downward : List Str := ["sets", "found", "waiting", "smaller", "chosen"]
theorem sc_closed_downward : FnScope N_closed_downward ["sets"] (defScope s_closed_downward) := ⟨rfl, rfl, rfl, by decide +kernel, rfl, by decide +kernel, by decide +kernel⟩
abbrev sp_closed_downward (c_KeptSets c_Family : Addr) : SpD :=
  sp1 fun a g P => ∃ (n : Nat) (S : List (List Int)), a = .tup (S.map tI) ∧ n ≤ 8 ∧ InS n S ∧ S.length ≤ 1000 ∧ P (.lst ((closL n S).map tI)) g

local macro_rules | `(tactic| walk_at "rr6") => `(tactic| (repeat (first | (with_reducible first | refine rd_seq ?_ | refine rd_seqE ?_ | refine rd_next ?_ | refine rd_rtE ?_ | refine rd_nxE ?_ | refine rd_nx ?_ | refine rd_rt ?_ | refine rd_ct ?_ | refine rd_bk ?_ | refine rd_drop ?_ | refine rd_ret ?_ | refine rd_dif ?_ | refine rd_asg ?_ | refine rd_for ?_ | refine rd_c ?_ | refine rd_op ?_ | refine rd_b ?_ | refine rd_bK ?_ | refine rd_nil ?_ | refine rd_cons ?_ | refine rd_lst ?_ | refine rd_cb ?_ | refine rd_call ?_ | refine rd_sp1 ?_ | refine rd_sp2 ?_ | refine rd_sp3 ?_ | refine rd_mt ?_ | refine rd_mt0 ?_ | refine rd_yes ?_ | refine rd_wseq ?_ | refine rd_wsT ?_ | refine rd_wsL ?_ | refine rd_wsS ?_ | refine rd_dput ?_ | refine rd_cbM ?_ | refine rd_dputT ?_ | refine rd_dcTM ?_ | refine rd_itet ?_ | refine rd_itef ?_ | refine rd_itnt ?_ | refine rd_itnf ?_) | ((with_reducible apply rd_var); (· exact rfl)) | ((with_reducible apply rd_asgK); (· exact rfl)) | ((with_reducible apply rd_some); (· (first | assumption | exact seqD_ref (by assumption) | exact seqD_up | exact lstD_ref (by assumption) | exact lstD_up | rfl))))))
theorem ok_closed_downward {P : Program} {w : World} {K : Fg} {mg : Str → Option Value} {base : Heap} {t_FAR_PRIME t_MAX_CORNERS t_MAX_FIELD t_MAX_PASSED : Tok} {c_KeptSets c_Family : Addr} {f f_without_each : Addr} {fd d_without_each : FuncData} (D : Dfn K mg "closed_downward" s_closed_downward ["sets"] f fd) (T : Txt P K mg t_FAR_PRIME t_MAX_CORNERS t_MAX_FIELD t_MAX_PASSED c_KeptSets c_Family) (D_without_each : Dfn K mg "without_each" s_without_each ["chosen"] f_without_each d_without_each) (G_without_each : FnOk P w K mg base CX0 1 f_without_each d_without_each ["chosen"] (upSp K (sp_without_each c_KeptSets c_Family))) :
    FnOk P w K mg base CX0 2 f fd ["sets"] (upSp K (sp_closed_downward c_KeptSets c_Family)) := by
  refine fun_okD D.fn sc_closed_downward (fun ds g Q h => len1 h) (fun cdv A outer s H E hr => ⟨_, (pds_cons (pds_setDcM (i := 1) (own := [("chosen", 4)]) (tg := .nm 4) hr.units rfl sc_closed_downward.nd (swD_true rfl rfl rfl (by decide +kernel)) (pid_seq (pdv 0)) (blkOk_by (own := [("chosen", 4)]) (N := N_closed_downward) (sc := defScope s_closed_downward) (by decide +kernel)) (fun _ _ _ _ _ => (pgd_nm (i := 4) sc_closed_downward.nd)) (fun _ _ _ _ _ => ptsd_nil) (fun _ _ _ _ _ => (pdv 4)) (fun _ _ _ _ _ => pd_bl)) (pds_cons (pds_set (i := 2) sc_closed_downward.nd (pd_callTyM (cr_listT rfl) ref_listTM T.b_list (by decide +kernel) (pda_cons (pdv 1) pda_nil))) (pds_cons (pds_while PassesOwn.never (pt_cmpD (op_neD hr.units) (RefCmp.op ref_neR) (pdv 2) (pd_lst pda_nil) (nomark _)) (pds_one (pds_for (tg := .nm 3) PassesOwn.never rfl (pid_seq (pd_call G_without_each (hr.mono (by decide)) D_without_each.at_ D_without_each.fn.kp D_without_each.bd pass0 (pda_cons (pd_pop (pdv 2)) pda_nil))) (pgd_nm (i := 3) sc_closed_downward.nd) (pds_one (pds_if (pt_cmpD (op_dNotIn hr.units) (RefCmp.op ref_dIn) (pdv 3) (pdv 1) (by rfl)) (pds_cons (pds_dputT hr.units (pdv 1) (pdv 3) pd_bl) (pds_one (pds_expr (pd_append (pdv 2) (pda_cons (pdv 3) pda_nil))))) pds_nil))))) (pds_one (pds_ret (pd_callB (cr_sortT hr.units rfl) ref_sortT T.b_sorted (by decide +kernel) (pda_cons (pdv 1) pda_nil))))))), ?_⟩)
  intro ds g Q h
  obtain ⟨a0, rfl, h⟩ := sp1_of h
  rw [show startD N_closed_downward [a0] = [some a0, none, none, none, none] from rfl]
  obtain ⟨n, S, e1, hn, hS, hl, k⟩ := h
  subst e1
  walk_at "rr6"
  refine rd_zK (by rw [List.length_map]; omega) (dc_rep (ks := []) (kf := keyF) (v := .bl true) (fun d hd => ?_) ?_)
  · obtain ⟨x, hx, e⟩ := tI_mem hd
    subst e
    refine ⟨_, tI x, rfl, by rw [keyF_tI]; exact keyT_tI x, fun Q2 h2 => ?_, fun Q2 h2 => ?_⟩
    · walk_at "rr6"
      exact h2
    · walk_at "rr6"
      exact h2
  · rw [fold_keyF]
    intro p hp
    have hw := ClW.start (n := n) hS
    generalize S.foldl putKs [] = L0 at hw ⊢
    walk_at "rr6"
    refine rd_listTM (dctT_up (L := L0)) ?_
    intro q hq
    have hqp : q ≠ p := fun z => by rw [z, gup_same] at hq; cases hq
    have hpq : p ≠ q := fun z => hqp z.symm
    rw [gup_ne hqp] at hq
    rw [keyDT_all]
    walk_at "rr6"
    refine rd_while (I := fun kk δ g' => ∃ (L W : List (List Int)) (v3 v4 : Option DV), δ = [some (.tup (S.map tI)), some (.ref p), some (.ref q), v3, v4] ∧ ClW n S L W kk ∧ g' = gup (gup g p (oneO L (.bl true))) q (.lst (W.map tI))) _ ⟨L0, L0, _, _, rfl, hw, rfl⟩ (fun δ g' ⟨_, _, _, _, _, h, _⟩ => by have := h.m; omega) (fun kk δ g' f hf hI => ?_)
    obtain ⟨L, W, v3, v4, e, hc, eg⟩ := hI
    subst e eg
    walk_at "rr6"
    refine rd_zK (by show 0 ≤ 16777216; decide) ?_
    refine rd_neR gup_same (okD_lIs' W) (okD_lIs' []) ?_
    rw [eqD_nilL, List.isEmpty_map]
    walk_at "rr6"
    refine rd_iteb (fun c => ?_) (fun c => ?_)
    · rcases List.eq_nil_or_concat W with e | ⟨W', x, e⟩
      · subst e; cases c
      · rw [List.concat_eq_append] at e
        subst e
        have hx := hc.i x (hc.w x (by simp))
        have hx8 := sub_crn hn (inL_sub hx)
        walk_at "rr6"
        refine rd_pop gup_same (y := tI x) (by simp) ?_
        rw [gup_gup, show ((W' ++ [x]).map tI).dropLast = W'.map tI by rw [List.map_append]; exact List.dropLast_concat]
        walk_at "rr6"
        refine ⟨x, rfl, by omega, ?_⟩
        walk_at "rr6"
        refine rd_loopX (I := fun t δ g' => ∃ (L W : List (List Int)) (v3 v4 : Option DV), δ = [some (.tup (S.map tI)), some (.ref p), some (.ref q), v3, v4] ∧ ClI n S L W kk x t ∧ g' = gup (gup g p (oneO L (.bl true))) q (.lst (W.map tI))) ⟨L, W', _, _, rfl, hc.pop, rfl⟩ ?_ ?_
        · intro t d hd δ g' f2 hf2 hI
          obtain ⟨L2, W2, u3, u4, e, hc2, eg⟩ := hI
          subst e eg
          rw [List.getElem?_map] at hd
          obtain ⟨y, hy, e⟩ := Option.map_eq_some_iff.mp hd
          subst e
          have hL2 := sub_len hc2.nd hc2.i
          have hp2 : 2 ^ n ≤ 2 ^ 8 := Nat.pow_le_pow_right (by decide) hn
          refine ⟨_, rfl, ?_⟩
          walk_at "rr6"
          refine rd_inOneR (L := L2) (v := .bl true) (neg := true) (by rw [gup_ne hpq]; exact gup_same) ?_
          walk_at "rr6"
          refine rd_iteb (fun c => ?_) (fun c => ?_)
          · have hm : y ∉ L2 := by simpa using c
            walk_at "rr6"
            refine rd_putOne (L := L2) (by rw [gup_ne hpq]; exact gup_same) hm (by omega) ?_
            rw [gup_swap hqp]
            walk_at "rr6"
            refine rd_append gup_same ?_ ?_
            · rw [List.length_map]
              have := hc2.len
              omega
            rw [gup_gup, show W2.map tI ++ [tI y] = (W2 ++ [y]).map tI by rw [List.map_append]; rfl]
            walk_at "rr6"
            exact hf2 _ _ ⟨L2 ++ [y], W2 ++ [y], _, _, rfl, hc2.put hS hy hm, rfl⟩
          · have hm : y ∈ L2 := by simpa using c
            walk_at "rr6"
            exact hf2 _ _ ⟨L2, W2, _, _, rfl, hc2.skip hy hm, rfl⟩
        · intro δ g' hI
          obtain ⟨L2, W2, u3, u4, e, hc2, eg⟩ := hI
          rw [List.length_map] at hc2
          exact hf _ _ ⟨L2, W2, u3, u4, e, hc2.done, eg⟩
    · have e : W = [] := by simpa using c
      subst e
      have hL2 := sub_len hc.nd hc.i
      have hp2 : 2 ^ n ≤ 2 ^ 8 := Nat.pow_le_pow_right (by decide) hn
      walk_at "rr6"
      refine rd_sortT (itT_one (L := L) (v := .bl true) (by rw [gup_ne hpq]; exact gup_same)) (by omega) ?_
      rw [hc.fin hS]
      walk_at "rr6"
      refine ⟨g, fun a => ?_, k⟩
      by_cases ha : a = q
      · subst ha
        exact .inr hq
      · by_cases ha2 : a = p
        · subst ha2
          exact .inr hp
        · left
          rw [gup_ne ha, gup_ne ha2]

abbrev s_less_times : Stmt := topS 18
abbrev N_less_times : List Str := ["row", "factor", "other", "prime", "found", "place", "entry"]
theorem sc_less_times : FnScope N_less_times ["row", "factor", "other", "prime"] (defScope s_less_times) := ⟨rfl, rfl, rfl, by decide +kernel, rfl, by decide +kernel, by decide +kernel⟩
abbrev sp_less_times (c_KeptSets c_Family : Addr) : SpD :=
  sp4 fun a b c d g P => ∃ (row other : Tab) (f : Int) (p : Nat), a = tabD row ∧ b = .int f ∧ c = tabD other ∧ d = .int (p : Int) ∧ 0 < p ∧ p ≤ LA.FAR ∧ 0 ≤ f ∧ f < p ∧ RowOk p row ∧ (∀ c ∈ keysOf row, c ∈ subsL 7) ∧ (keysOf other).Nodup ∧ (∀ e ∈ other, 0 ≤ e.2 ∧ e.2 < p) ∧ row.length ≤ 300 ∧ other.length ≤ 300 ∧ P (tabD (lessT p f other row)) g

local macro_rules | `(tactic| walk_at "rr7") => `(tactic| (repeat (first | (with_reducible first | refine rd_seq ?_ | refine rd_seqE ?_ | refine rd_next ?_ | refine rd_rtE ?_ | refine rd_nxE ?_ | refine rd_nx ?_ | refine rd_rt ?_ | refine rd_ct ?_ | refine rd_bk ?_ | refine rd_drop ?_ | refine rd_ret ?_ | refine rd_asg ?_ | refine rd_for ?_ | refine rd_c ?_ | refine rd_op ?_ | refine rd_b ?_ | refine rd_bK ?_ | refine rd_nil ?_ | refine rd_cons ?_ | refine rd_cb ?_ | refine rd_call ?_ | refine rd_sp1 ?_ | refine rd_sp2 ?_ | refine rd_sp3 ?_ | refine rd_sub ?_ | refine rd_dput ?_ | refine rd_cbM ?_ | refine rd_dcT ?_ | refine rd_dget2 ?_ | refine rd_isd ?_ | refine rd_dputT ?_ | refine rd_wiT ?_ | refine rd_itet ?_ | refine rd_itef ?_ | refine rd_itnt ?_ | refine rd_itnf ?_) | ((with_reducible apply rd_var); (· exact rfl)) | ((with_reducible apply rd_asgK); (· exact rfl)))))
theorem ok_less_times {P : Program} {w : World} {K : Fg} {mg : Str → Option Value} {base : Heap} {t_FAR_PRIME t_MAX_CORNERS t_MAX_FIELD t_MAX_PASSED : Tok} {c_KeptSets c_Family : Addr} {f : Addr} {fd : FuncData} (D : Dfn K mg "less_times" s_less_times ["row", "factor", "other", "prime"] f fd) (T : Txt P K mg t_FAR_PRIME t_MAX_CORNERS t_MAX_FIELD t_MAX_PASSED c_KeptSets c_Family) :
    FnOk P w K mg base CX0 1 f fd ["row", "factor", "other", "prime"] (upSp K (sp_less_times c_KeptSets c_Family)) := by
  refine fun_okD D.fn sc_less_times (fun ds g Q h => len4 h) (fun cdv A outer s H E hr => ⟨_, (pds_cons (pds_set (i := 4) sc_less_times.nd (pd_callTyM (cr_dictT hr.units) ref_dictTM T.b_dict (by decide +kernel) (pda_cons (pdv 0) pda_nil))) (pds_cons (pds_for (tg := .tp [5, 6]) PassesOwn.never rfl (pid_itemsT (pdv 2)) (pgd_tp (is := [5, 6]) rfl (pgd_cons (i := 5) (pgd_nm (i := 5) sc_less_times.nd) (pgd_cons (i := 6) (pgd_nm (i := 6) sc_less_times.nd) pgd_nil))) (pds_one (pds_dputT hr.units (pdv 4) (pdv 5) (pd_mod (pd_sub (pd_dget2 hr.units (pdv 4) (pdv 5) pd_int) (pd_mulI (pdv 1) (pdv 6))) (pdv 3))))) (pds_fz 4 (pds_one (pds_ret (pd_dcT (own := [("place", 5), ("entry", 6)]) (tg := .tp [5, 6]) hr.units rfl sc_less_times.nd (pid_itemsT (pdv 4)) (blkOk_by (own := [("place", 5), ("entry", 6)]) (N := N_less_times) (sc := defScope s_less_times) (by decide +kernel)) (fun _ _ _ _ _ => (pgd_tp (is := [5, 6]) rfl (pgd_cons (i := 5) (pgd_nm (i := 5) sc_less_times.nd) (pgd_cons (i := 6) (pgd_nm (i := 6) sc_less_times.nd) pgd_nil)))) (fun _ _ _ _ _ => (ptsd_one (pt_cmpD (op_neD hr.units) (RefCmp.op ref_ne) (pdv 6) pd_int (nomark _)))) (fun _ _ _ _ _ => (pdv 5)) (fun _ _ _ _ _ => (pdv 6)))))))), ?_⟩)
  intro ds g Q h
  obtain ⟨a0, a1, a2, a3, rfl, h⟩ := sp4_of h
  rw [show startD N_less_times [a0, a1, a2, a3] = [some a0, some a1, some a2, some a3, none, none, none] from rfl]
  obtain ⟨row, other, f, p, e1, e2, e3, e4, hp, hf, f0, f1, hr, hs, ho, hv, l1, l2, k⟩ := h
  subst e1 e2 e3 e4
  walk_at "rr7"
  refine rd_dictTM rfl (hashSub hr.nd hs) (fun a ha => ?_)
  walk_at "rr7"
  refine ⟨_, _, rfl, ?_⟩
  rw [pairs_tab]
  refine rd_loopX (I := fun j δ g' => ∃ v5 v6, g' = gup g a (tabO (lessG p f (other.take j) row)) ∧ δ = [some (tabD row), some (.int f), some (tabD other), some (.int (p : Int)), some (.ref a), v5, v6]) ⟨none, none, rfl, rfl⟩ ?_ ?_
  · intro i x hx δ g' f2 hf2 hI
    obtain ⟨v5, v6, eg, e⟩ := hI
    subst eg e
    rw [lkE, List.getElem?_map] at hx
    obtain ⟨y, hy, e⟩ := Option.map_eq_some_iff.mp hx
    subst e
    refine ⟨_, rfl, ?_⟩
    have hym := List.mem_of_getElem? hy
    have hyv := hv y hym
    have h61 : LA.FAR < 2 ^ 61 := by decide
    walk_at "rr7"
    refine ⟨isD_r40 gup_same, ?_⟩
    walk_at "rr7"
    refine ⟨_, atD_tabR gup_same, ?_⟩
    rw [get_getD]
    walk_at "rr7"
    refine rd_rI (mulW (by omega) (by omega) (by omega) (by omega)) ?_
    walk_at "rr7"
    refine rd_rI (by omega) ?_
    walk_at "rr7"
    refine rd_putT gup_same (by have := lessG_len p f (other.take i) row; rw [List.length_take] at this; omega) ?_
    rw [gup_gup]
    walk_at "rr7"
    refine hf2 _ _ ⟨_, _, ?_, rfl⟩
    rw [lessG_snoc hy]
  · intro δ g' hI
    obtain ⟨v5, v6, eg, e⟩ := hI
    subst eg e
    rw [show (lkE other).length = other.length from List.length_map _, List.take_length]
    have nd2 := lessG_nd p f other row hr.nd
    have hlen := lessG_len p f other row
    refine rd_fzT rfl gup_same ?_
    rw [gdel_gup ha]
    walk_at "rr7"
    refine ⟨_, _, rfl, ?_⟩
    rw [pairs_tab]
    refine rd_zK (by rw [show (lkE (lessG p f other row)).length = (lessG p f other row).length from List.length_map _]; omega) (dc_it (acc := []) (fun e => !decide (e.2 = 0)) (fun e => e.2) (by rw [List.nil_append]; exact nd2) (fun e he => ?_) ?_)
    · refine ⟨_, rfl, fun Q2 h2 => ?_, fun _ => ⟨fun Q2 h2 => ?_, fun Q2 h2 => ?_⟩⟩
      · walk_at "rr7"
        refine rd_ne (okD_int _) (okD_int _) ?_
        rw [eqD_int]
        exact h2
      · walk_at "rr7"
        exact h2
      · walk_at "rr7"
        exact h2
    · rw [List.nil_append, show ((lessG (p : Int) f other row).filter fun e => !decide (e.2 = 0)).map (fun e => (e.1, e.2)) = lessT p f other row from by rw [show (fun e : List Int × Int => (e.1, e.2)) = id from rfl, List.map_id]; rfl]
      exact dret k

abbrev s_boundary_rank : Stmt := topS 19
abbrev N_boundary_rank : List Str := ["sets", "size", "prime", "heads", "chosen", "row", "one", "last", "back", "at", "smaller", "place", "entry"]
theorem sc_boundary_rank : FnScope N_boundary_rank ["sets", "size", "prime"] (defScope s_boundary_rank) := ⟨rfl, rfl, rfl, by decide +kernel, rfl, by decide +kernel, by decide +kernel⟩
abbrev sp_boundary_rank (c_KeptSets c_Family : Addr) : SpD :=
  sp3 fun a b c g P => ∃ (A : List (List Int)) (s p : Nat), a = .lst (A.map tI) ∧ b = .int (s : Int) ∧ c = .int (p : Int) ∧ LA.Irr p ∧ p ≤ LA.FAR ∧ LA.Cpx A ∧ A.length ≤ 300 ∧ (∀ x ∈ A, x ∈ subsL 7) ∧ 1 ≤ s ∧ P (.int ((LA.rk (LA.modP p) A s : Nat) : Int)) g

local macro_rules | `(tactic| walk_at "rr8") => `(tactic| (repeat (first | (with_reducible first | refine rd_seq ?_ | refine rd_seqE ?_ | refine rd_next ?_ | refine rd_rtE ?_ | refine rd_nxE ?_ | refine rd_nx ?_ | refine rd_rt ?_ | refine rd_ct ?_ | refine rd_bk ?_ | refine rd_drop ?_ | refine rd_ret ?_ | refine rd_dif ?_ | refine rd_asg ?_ | refine rd_for ?_ | refine rd_c ?_ | refine rd_op ?_ | refine rd_un ?_ | refine rd_b ?_ | refine rd_bK ?_ | refine rd_and ?_ | refine rd_ifE ?_ | refine rd_nil ?_ | refine rd_cons ?_ | refine rd_cb ?_ | refine rd_call ?_ | refine rd_sp1 ?_ | refine rd_sp2 ?_ | refine rd_sp3 ?_ | refine rd_lc ?_ | refine rd_yes ?_ | refine rd_wseq ?_ | refine rd_wsT ?_ | refine rd_wsL ?_ | refine rd_wsS ?_ | refine rd_ng ?_ | refine rd_dput ?_ | refine rd_dcT ?_ | refine rd_dget ?_ | refine rd_dputT ?_ | refine rd_newTF ?_ | refine rd_newT ?_ | refine rd_wiT ?_ | refine rd_wenL ?_ | refine rd_enKL ?_ | refine rd_itet ?_ | refine rd_itef ?_ | refine rd_itnt ?_ | refine rd_itnf ?_) | ((with_reducible apply rd_var); (· exact rfl)) | ((with_reducible apply rd_asgK); (· exact rfl)) | ((with_reducible apply rd_len); (· (first | assumption | exact seqD_ref (by assumption) | exact seqD_up | exact lstD_ref (by assumption) | exact lstD_up | rfl))))))
theorem ok_boundary_rank {P : Program} {w : World} {K : Fg} {mg : Str → Option Value} {base : Heap} {t_FAR_PRIME t_MAX_CORNERS t_MAX_FIELD t_MAX_PASSED : Tok} {c_KeptSets c_Family : Addr} {f f_inverse_in f_less_times f_without_each : Addr} {fd d_inverse_in d_less_times d_without_each : FuncData} (D : Dfn K mg "boundary_rank" s_boundary_rank ["sets", "size", "prime"] f fd) (T : Txt P K mg t_FAR_PRIME t_MAX_CORNERS t_MAX_FIELD t_MAX_PASSED c_KeptSets c_Family) (D_inverse_in : Dfn K mg "inverse_in" s_inverse_in ["number", "prime"] f_inverse_in d_inverse_in) (G_inverse_in : FnOk P w K mg base CX0 1 f_inverse_in d_inverse_in ["number", "prime"] (upSp K (sp_inverse_in c_KeptSets c_Family))) (D_less_times : Dfn K mg "less_times" s_less_times ["row", "factor", "other", "prime"] f_less_times d_less_times) (G_less_times : FnOk P w K mg base CX0 1 f_less_times d_less_times ["row", "factor", "other", "prime"] (upSp K (sp_less_times c_KeptSets c_Family))) (D_without_each : Dfn K mg "without_each" s_without_each ["chosen"] f_without_each d_without_each) (G_without_each : FnOk P w K mg base CX0 1 f_without_each d_without_each ["chosen"] (upSp K (sp_without_each c_KeptSets c_Family))) :
    FnOk P w K mg base CX0 2 f fd ["sets", "size", "prime"] (upSp K (sp_boundary_rank c_KeptSets c_Family)) := by
  refine fun_okD D.fn sc_boundary_rank (fun ds g Q h => len3 h) (fun cdv A outer s H E hr => ⟨_, (pds_cons (pds_set (i := 3) sc_boundary_rank.nd pd_newT) (pds_cons (pds_for (tg := .nm 4) PassesOwn.never rfl (pid_seq (pd_lc (own := [("one", 6)]) (tg := .nm 6) rfl sc_boundary_rank.nd (pid_seq (pdv 0)) (blkOk_by (own := [("one", 6)]) (N := N_boundary_rank) (sc := defScope s_boundary_rank) (by decide +kernel)) (fun _ _ _ _ _ => (pgd_nm (i := 6) sc_boundary_rank.nd)) (fun _ _ _ _ _ => (ptsd_one (pt_cmpD (op_eqD hr.units) (RefCmp.op ref_eq) (pd_callB call_len_seq ref_len T.b_len (by decide +kernel) (pda_cons (pdv 6) pda_nil)) (pdv 1) (nomark _)))) (fun _ _ _ _ _ => (pdv 6)))) (pgd_nm (i := 4) sc_boundary_rank.nd) (pds_cons (pds_setDc (i := 5) (own := [("at", 9), ("smaller", 10)]) (tg := .tp [9, 10]) hr.units rfl sc_boundary_rank.nd (swD_true rfl rfl rfl (by decide +kernel)) (pid_enL T.b_enumerate (pda_cons (pd_call G_without_each (hr.mono (by decide)) D_without_each.at_ D_without_each.fn.kp D_without_each.bd pass0 (pda_cons (pdv 4) pda_nil)) pda_nil)) (blkOk_by (own := [("at", 9), ("smaller", 10)]) (N := N_boundary_rank) (sc := defScope s_boundary_rank) (by decide +kernel)) (fun _ _ _ _ _ => (pgd_tp (is := [9, 10]) rfl (pgd_cons (i := 9) (pgd_nm (i := 9) sc_boundary_rank.nd) (pgd_cons (i := 10) (pgd_nm (i := 10) sc_boundary_rank.nd) pgd_nil)))) (fun _ _ _ _ _ => ptsd_nil) (fun _ _ _ _ _ => (pdv 10)) (fun _ _ _ _ _ => (pd_ifExp (pt_cmpD (op_eqD hr.units) (RefCmp.op ref_eq) (pd_mod (pdv 9) pd_int) pd_int (nomark _)) (pd_mod (pd_neg pd_int) (pdv 2)) pd_int))) (pds_cons (pds_while PassesOwn.never (pwd_pt (pwd_and (pt_cmpD (op_neE (units65 hr)) (RefCmp.op ref_eqE) (pdv 5) pd_newTF (nomark _)) (pwd_and1 (pt_cmpD (op_dIn hr.units) (RefCmp.op ref_dIn) (pd_callB (cr_maxDT rfl hr.units) ref_maxDT T.b_max (by decide +kernel) (pda_cons (pdv 5) pda_nil)) (pdv 3) (by rfl))))) (pds_cons (pds_set (i := 7) sc_boundary_rank.nd (pd_callB (cr_maxDT rfl hr.units) ref_maxDT T.b_max (by decide +kernel) (pda_cons (pdv 5) pda_nil))) (pds_one (pds_set (i := 5) sc_boundary_rank.nd (pd_call G_less_times (hr.mono (by decide)) D_less_times.at_ D_less_times.fn.kp D_less_times.bd pass0 (pda_cons (pdv 5) (pda_cons (pd_dget hr.units (pdv 5) (pdv 7)) (pda_cons (pd_dget hr.units (pdv 3) (pdv 7)) (pda_cons (pdv 2) pda_nil))))))))) (pds_one (pds_if (pt_cmpD (op_neE (units65 hr)) (RefCmp.op ref_eqE) (pdv 5) pd_newTF (nomark _)) (pds_cons (pds_set (i := 8) sc_boundary_rank.nd (pd_call G_inverse_in (hr.mono (by decide)) D_inverse_in.at_ D_inverse_in.fn.kp D_inverse_in.bd pass0 (pda_cons (pd_dget hr.units (pdv 5) (pd_callB (cr_maxDT rfl hr.units) ref_maxDT T.b_max (by decide +kernel) (pda_cons (pdv 5) pda_nil))) (pda_cons (pdv 2) pda_nil)))) (pds_one (pds_dputT hr.units (pdv 3) (pd_callB (cr_maxDT rfl hr.units) ref_maxDT T.b_max (by decide +kernel) (pda_cons (pdv 5) pda_nil)) (pd_dcT (own := [("place", 11), ("entry", 12)]) (tg := .tp [11, 12]) hr.units rfl sc_boundary_rank.nd (pid_itemsT (pdv 5)) (blkOk_by (own := [("place", 11), ("entry", 12)]) (N := N_boundary_rank) (sc := defScope s_boundary_rank) (by decide +kernel)) (fun _ _ _ _ _ => (pgd_tp (is := [11, 12]) rfl (pgd_cons (i := 11) (pgd_nm (i := 11) sc_boundary_rank.nd) (pgd_cons (i := 12) (pgd_nm (i := 12) sc_boundary_rank.nd) pgd_nil)))) (fun _ _ _ _ _ => ptsd_nil) (fun _ _ _ _ _ => (pdv 11)) (fun _ _ _ _ _ => (pd_mod (pd_mulI (pdv 12) (pdv 8)) (pdv 2))))))) pds_nil))))) (pds_one (pds_ret (pd_callB call_len_dT ref_lenDT T.b_len (by decide +kernel) (pda_cons (pdv 3) pda_nil)))))), ?_⟩)
  intro ds g Q h
  obtain ⟨a0, a1, a2, rfl, h⟩ := sp3_of h
  rw [show startD N_boundary_rank [a0, a1, a2] = [some a0, some a1, some a2, none, none, none, none, none, none, none, none, none, none] from rfl]
  obtain ⟨A, s, p, e1, e2, e3, hp, hf, hA, hl, h7, hs, k⟩ := h
  subst e1 e2 e3
  walk_at "rr8"
  intro a ha
  walk_at "rr8"
  refine rd_zK (by rw [List.length_map]; omega) (comp_fil (p := szF s) (f := fun d => d) (fun d hd => ?_) ?_)
  · obtain ⟨x, hx, e⟩ := tI_mem hd
    subst e
    refine ⟨_, rfl, fun Q' h' => ?_, fun _ Q2 h2 => ?_⟩
    · walk_at "rr8"
      refine rd_eq (okD_int _) (okD_int _) ?_
      rw [eqD_int, List.length_map]
      unfold szF at h'
      rw [oneT_tI] at h'
      exact h'
    · walk_at "rr8"
      exact h2
  rw [sz_map]
  walk_at "rr8"
  refine rd_loopX (I := fun j δ g' => ∃ (H : List (List Int × Tab)) (v4 v5 v6 v7 v8 v9 v10 v11 v12 : Option DV), δ = [some (.lst (A.map tI)), some (.int (s : Int)), some (.int (p : Int)), some (.ref a), v4, v5, v6, v7, v8, v9, v10, v11, v12] ∧ RB p (LA.ofSz A (s - 1)) H ((LA.ofSz A s).take j) ∧ g' = gup g a (hdO H)) ⟨[], _, _, _, _, _, _, _, _, _, rfl, RB.start, rfl⟩ ?_ ?_
  · intro j x hx δ g' f2 hf2 hI
    obtain ⟨H, v4, v5, v6, v7, v8, v9, v10, v11, v12, e, hrb, eg⟩ := hI
    subst e eg
    rw [List.getElem?_map] at hx
    obtain ⟨t, ht, e⟩ := Option.map_eq_some_iff.mp hx
    subst e
    refine ⟨_, rfl, ?_⟩
    have htm := LA.mem_ofSz.mp (List.mem_of_getElem? ht)
    have htn := (hA.asc t htm.1).nodup
    have ht7 := subs_each 7 t (h7 t htm.1)
    have hU7 : ∀ c ∈ LA.ofSz A (s - 1), c ∈ subsL 7 := fun c hc => h7 c (LA.mem_ofSz.mp hc).1
    have hUl : (LA.ofSz A (s - 1)).length ≤ 300 := Nat.le_trans (List.length_filter_le _ _) hl
    have hfU : ∀ c ∈ dropsL t, c ∈ LA.ofSz A (s - 1) := fun c hc => by
      rw [drops_erase] at hc
      obtain ⟨i, hi, rfl⟩ := List.mem_map.mp hc
      have hi2 := List.mem_range.mp hi
      exact LA.mem_ofSz.mpr ⟨hA.dn t htm.1 i hi2, by rw [List.length_eraseIdx_of_lt hi2, htm.2]⟩
    have h61 : LA.FAR < 2 ^ 61 := by decide
    have hp2 := hp.1
    have htk : (LA.ofSz A s).take (j + 1) = (LA.ofSz A s).take j ++ [t] := by rw [List.take_add_one, ht]; rfl
    have hHl := rb_len hrb
    walk_at "rr8"
    refine ⟨t, rfl, by omega, ?_⟩
    walk_at "rr8"
    rw [en_faces]
    refine rd_zK (by unfold enE; rw [List.length_map, List.length_range]; omega) (dc_new (α := Nat) (fun i : Nat => .tup [.int (i : Int), tI (t.eraseIdx i)]) (fun i => t.eraseIdx i) (sgE p) (acc := []) (by have := drops_nd htn; rw [drops_erase] at this; exact this) (fun i hi => ?_) ?_)
    · refine ⟨_, rfl, fun Q2 h2 => ?_, fun Q2 h2 => ?_, fun Q2 h2 => ?_⟩
      · walk_at "rr8"
        exact h2
      · walk_at "rr8"
        exact h2
      · unfold sgE at h2
        walk_at "rr8"
        refine rd_rI (by decide) ?_
        walk_at "rr8"
        refine rd_eq (okD_int _) (okD_int _) ?_
        rw [eqD_int]
        by_cases c : ((i : Nat) : Int) % 2 = 1
        · rw [decide_eq_true c]
          rw [if_pos c] at h2
          walk_at "rr8"
          refine rd_rI (by omega) ?_
          exact h2
        · rw [decide_eq_false c]
          rw [if_neg c] at h2
          walk_at "rr8"
          exact h2
    rw [List.nil_append, show ((List.range t.length).map fun i => (t.eraseIdx i, sgE p i)) = rowB p t from rfl]
    walk_at "rr8"
    refine rd_while (I := fun kk δ g' => ∃ (row : Tab) (v6 v7 v8 v9 v10 v11 v12 : Option DV), δ = [some (.lst (A.map tI)), some (.int (s : Int)), some (.int (p : Int)), some (.ref a), some (tI t), some (tabD row), v6, v7, v8, v9, v10, v11, v12] ∧ RowSt p (LA.ofSz A (s - 1)) H ((LA.ofSz A s).take j) t row ∧ meas (LA.ofSz A (s - 1)) row < kk ∧ g' = gup g a (hdO H)) _ ⟨rowB p t, _, _, _, _, _, _, _, rfl, hrb.rowS hp htn hfU, Nat.lt_succ_self _, rfl⟩ (fun δ g' ⟨_, _, _, _, _, _, _, _, _, _, h, _⟩ => by omega) (fun kk δ g' f3 hf3 hI => ?_)
    obtain ⟨row, v6, v7, v8, v9, v10, v11, v12, e, hr, hm, eg⟩ := hI
    subst e eg
    have hrl := tab_len hr.ok.nd hr.inU
    cases row with
    | nil =>
      walk_at "rr8"
      refine rd_neNil ?_
      walk_at "rr8"
      refine rd_neNil ?_
      walk_at "rr8"
      refine hf2 _ _ ⟨H, _, _, _, _, _, _, _, _, _, rfl, ?_, rfl⟩
      rw [htk]
      exact hrb.skip hp hr
    | cons e0 r0 =>
      obtain ⟨hmx1, hmx2⟩ := maxL_spec (keysOf r0) e0.1
      have hmU := hr.inU _ hmx1
      have hgv := hr.ok.v _ (val_get hr.ok.nd hmx1)
      walk_at "rr8"
      refine rd_neCons ?_
      walk_at "rr8"
      refine rd_maxTab ?_
      cases hfd : H.find? (fun e => decide (e.1 = maxL e0.1 (keysOf r0))) with
      | some eh =>
        obtain ⟨heh, eeh⟩ := find_some hfd
        obtain ⟨n1, n2, n3, n4⟩ := hrb.hd.ok eh heh
        have hel := tab_len n1 fun c hc => (n4 c hc).2
        have hst := hr.step hp hrb heh (by rw [eeh]; exact hmx1) (by rw [eeh]; exact hmx2)
        rw [eeh] at hst
        walk_at "rr8"
        refine rd_inHdT gup_same hfd ?_
        walk_at "rr8"
        refine rd_maxTab ?_
        walk_at "rr8"
        refine rd_atK hmx1 ?_
        walk_at "rr8"
        refine ⟨_, by rw [atD_hd gup_same, hfd]; rfl, ?_⟩
        walk_at "rr8"
        refine ⟨_, _, _, p, rfl, rfl, rfl, rfl, by omega, hf, Int.le_of_lt hgv.1, hgv.2, hr.ok, fun c hc => hU7 c (hr.inU c hc), n1, n2, by omega, by omega, ?_⟩
        walk_at "rr8"
        refine hf3 _ _ ⟨_, _, _, _, _, _, _, _, rfl, hst.1, ?_, rfl⟩
        have := meas_lt (U := LA.ofSz A (s - 1)) (row := e0 :: r0) hmx1 hmU hst.2
        omega
      | none =>
        have hnot := find_none hfd
        walk_at "rr8"
        refine rd_inHdF gup_same hfd ?_
        walk_at "rr8"
        refine rd_neCons ?_
        walk_at "rr8"
        refine rd_maxTab ?_
        walk_at "rr8"
        refine rd_atK hmx1 ?_
        walk_at "rr8"
        refine ⟨_, p, rfl, rfl, hp, hf, Int.add_one_le_of_lt hgv.1, hgv.2, fun b hb => ?_⟩
        walk_at "rr8"
        refine ⟨_, _, rfl, ?_⟩
        rw [pairs_tab]
        refine rd_zK (by rw [show (lkE (e0 :: r0)).length = (e0 :: r0).length from List.length_map _]; omega) (dc_it (acc := []) (fun _ => true) (fun e => e.2 * b % p) (by rw [List.nil_append]; exact hr.ok.nd) (fun e he => ?_) ?_)
        · have hev := hr.ok.v e he
          refine ⟨_, rfl, fun Q2 h2 => ?_, fun _ => ⟨fun Q2 h2 => ?_, fun Q2 h2 => ?_⟩⟩
          · walk_at "rr8"
            exact h2
          · walk_at "rr8"
            exact h2
          · have hb0 := hb.1
            have hb1 := hb.2.1
            walk_at "rr8"
            refine rd_rI (mulW (by omega) (by omega) (by omega) (by omega)) ?_
            walk_at "rr8"
            refine rd_rI (by omega) ?_
            exact h2
        rw [List.nil_append, scale_is]
        walk_at "rr8"
        refine rd_maxTab ?_
        walk_at "rr8"
        refine rd_putHd gup_same hnot (by omega) ?_
        rw [gup_gup]
        walk_at "rr8"
        refine hf2 _ _ ⟨_, _, _, _, _, _, _, _, _, _, rfl, ?_, rfl⟩
        rw [htk]
        exact hrb.put hp hr hmx1 hmx2 hnot hb
  · intro δ g' hI
    obtain ⟨H, v4, v5, v6, v7, v8, v9, v10, v11, v12, e, hrb, eg⟩ := hI
    subst e eg
    rw [List.length_map, List.take_length] at hrb
    have hk := LA.rk_of (LA.prm_mod hp) (show LA.IsRk (LA.modP p) (LA.bdR A s) H.length from hrb.fin hp)
    walk_at "rr8"
    refine rd_lenDT gup_same ?_
    rw [List.length_map, List.length_map, ← hk]
    refine ⟨g, fun b => ?_, k⟩
    by_cases hb : b = a
    · subst hb; exact .inr ha
    · exact .inl (gup_ne hb).symm

abbrev s_holes_in : Stmt := topS 20
abbrev N_holes_in : List Str := ["sets", "prime", "modulus", "top", "many", "ranks", "size", "chosen"]
theorem sc_holes_in : FnScope N_holes_in ["sets", "prime"] (defScope s_holes_in) := ⟨rfl, rfl, rfl, by decide +kernel, rfl, by decide +kernel, by decide +kernel⟩
abbrev sp_holes_in (c_KeptSets c_Family : Addr) : SpD :=
  sp2 fun a b g P => ∃ (A : List (List Int)) (p : Int), a = .lst (A.map tI) ∧ b = .int p ∧ Fld p ∧ LA.Cpx A ∧ A.length ≤ 300 ∧ (∀ x ∈ A, x ∈ subsL 7) ∧ P (.tup ((LA.holesV (LA.modP (qOf p)) A).map DV.int)) g

local macro_rules | `(tactic| walk_at "rr9") => `(tactic| (repeat (first | (with_reducible first | refine rd_seq ?_ | refine rd_seqE ?_ | refine rd_next ?_ | refine rd_rtE ?_ | refine rd_nxE ?_ | refine rd_nx ?_ | refine rd_rt ?_ | refine rd_drop ?_ | refine rd_ret ?_ | refine rd_dif ?_ | refine rd_asg ?_ | refine rd_c ?_ | refine rd_op ?_ | refine rd_b ?_ | refine rd_bK ?_ | refine rd_ifE ?_ | refine rd_nil ?_ | refine rd_cons ?_ | refine rd_tup ?_ | refine rd_lst ?_ | refine rd_cb ?_ | refine rd_call ?_ | refine rd_sp1 ?_ | refine rd_sp2 ?_ | refine rd_sp3 ?_ | refine rd_add ?_ | refine rd_sub ?_ | refine rd_cmp ?_ | refine rd_lc ?_ | refine rd_yes ?_ | refine rd_wseq ?_ | refine rd_wsT ?_ | refine rd_wsL ?_ | refine rd_wsS ?_ | refine rd_rng1 ?_ | refine rd_rng2 ?_ | refine rd_star ?_ | refine rd_itet ?_ | refine rd_itef ?_ | refine rd_itnt ?_ | refine rd_itnf ?_) | ((with_reducible apply rd_var); (· exact rfl)) | ((with_reducible apply rd_asgK); (· exact rfl)) | ((with_reducible apply rd_len); (· (first | assumption | exact seqD_ref (by assumption) | exact seqD_up | exact lstD_ref (by assumption) | exact lstD_up | rfl))) | ((with_reducible apply rd_tuple); (· (first | assumption | exact seqD_ref (by assumption) | exact seqD_up | exact lstD_ref (by assumption) | exact lstD_up | rfl))) | ((with_reducible apply rd_stK); (· (first | assumption | exact seqD_ref (by assumption) | exact seqD_up | exact lstD_ref (by assumption) | exact lstD_up | rfl))) | ((with_reducible apply rd_ix); (· (first | assumption | exact seqD_ref (by assumption) | exact seqD_up | exact lstD_ref (by assumption) | exact lstD_up | rfl)); (· (first | exact atI_c0 _ _ | exact atI_c1 _ _ _ | exact atI_c2 _ _ _ _ | assumption | rfl))))))
theorem ok_holes_in {P : Program} {w : World} {K : Fg} {mg : Str → Option Value} {base : Heap} {t_FAR_PRIME t_MAX_CORNERS t_MAX_FIELD t_MAX_PASSED : Tok} {c_KeptSets c_Family : Addr} {f f_boundary_rank : Addr} {fd d_boundary_rank : FuncData} (D : Dfn K mg "holes_in" s_holes_in ["sets", "prime"] f fd) (T : Txt P K mg t_FAR_PRIME t_MAX_CORNERS t_MAX_FIELD t_MAX_PASSED c_KeptSets c_Family) (D_boundary_rank : Dfn K mg "boundary_rank" s_boundary_rank ["sets", "size", "prime"] f_boundary_rank d_boundary_rank) (G_boundary_rank : FnOk P w K mg base CX0 2 f_boundary_rank d_boundary_rank ["sets", "size", "prime"] (upSp K (sp_boundary_rank c_KeptSets c_Family))) :
    FnOk P w K mg base CX0 3 f fd ["sets", "prime"] (upSp K (sp_holes_in c_KeptSets c_Family)) := by
  refine fun_okD D.fn sc_holes_in (fun ds g Q h => len2 h) (fun cdv A outer s H E hr => ⟨_, (pds_cons (pds_if (pt_cmpD (op_eqD hr.units) (RefCmp.op ref_eq) (pd_callB call_len_seq ref_len T.b_len (by decide +kernel) (pda_cons (pdv 0) pda_nil)) pd_int (nomark _)) (pds_one (pds_ret (pd_tup pda_nil))) pds_nil) (pds_cons (pds_set (i := 2) sc_holes_in.nd (pd_ifExp (pt_cmpD op_gt (RefCmp.op ref_cmp) (pdv 1) pd_int (nomark _)) (pdv 1) (pd_globI T.c_FAR_PRIME))) (pds_cons (pds_set (i := 3) sc_holes_in.nd (pd_callB (cr_maxS rfl) ref_maxS T.b_max (by decide +kernel) (pda_cons (pd_lc (own := [("chosen", 7)]) (tg := .nm 7) rfl sc_holes_in.nd (pid_seq (pdv 0)) (blkOk_by (own := [("chosen", 7)]) (N := N_holes_in) (sc := defScope s_holes_in) (by decide +kernel)) (fun _ _ _ _ _ => (pgd_nm (i := 7) sc_holes_in.nd)) (fun _ _ _ _ _ => ptsd_nil) (fun _ _ _ _ _ => (pd_callB call_len_seq ref_len T.b_len (by decide +kernel) (pda_cons (pdv 7) pda_nil)))) pda_nil))) (pds_cons (pds_set (i := 4) sc_holes_in.nd (pd_lc (own := [("size", 6)]) (tg := .nm 6) rfl sc_holes_in.nd (pid_range1 T.b_range (pda_cons (pd_add (pdv 3) pd_int) pda_nil)) (blkOk_by (own := [("size", 6)]) (N := N_holes_in) (sc := defScope s_holes_in) (by decide +kernel)) (fun _ _ _ _ _ => (pgd_nm (i := 6) sc_holes_in.nd)) (fun _ _ _ _ _ => ptsd_nil) (fun _ _ _ _ _ => (pd_callB call_len_seq ref_len T.b_len (by decide +kernel) (pda_cons (pd_lc (own := [("chosen", 7)]) (tg := .nm 7) rfl sc_holes_in.nd (pid_seq (pdv 0)) (blkOk_by (own := [("chosen", 7)]) (N := N_holes_in) (by kernel_rfl)) (fun _ _ _ _ _ => (pgd_nm (i := 7) sc_holes_in.nd)) (fun _ _ _ _ _ => (ptsd_one (pt_cmpD (op_eqD hr.units) (RefCmp.op ref_eq) (pd_callB call_len_seq ref_len T.b_len (by decide +kernel) (pda_cons (pdv 7) pda_nil)) (pdv 6) (nomark _)))) (fun _ _ _ _ _ => pd_int)) pda_nil))))) (pds_cons (pds_set (i := 5) sc_holes_in.nd (pd_lst (pda_cons pd_int (pda_star (pd_lc (own := [("size", 6)]) (tg := .nm 6) rfl sc_holes_in.nd (pid_range2 T.b_range (pda_cons pd_int (pda_cons (pd_add (pdv 3) pd_int) pda_nil))) (blkOk_by (own := [("size", 6)]) (N := N_holes_in) (sc := defScope s_holes_in) (by decide +kernel)) (fun _ _ _ _ _ => (pgd_nm (i := 6) sc_holes_in.nd)) (fun _ _ _ _ _ => ptsd_nil) (fun _ _ _ _ _ => (pd_call G_boundary_rank (hr.mono (by decide)) D_boundary_rank.at_ D_boundary_rank.fn.kp D_boundary_rank.bd pass0 (pda_cons (pdv 0) (pda_cons (pdv 6) (pda_cons (pdv 2) pda_nil)))))) (pda_cons pd_int pda_nil))))) (pds_one (pds_ret (pd_callTy call_tuple_of ref_tuple T.b_tuple (by decide +kernel) (pda_cons (pd_lc (own := [("size", 6)]) (tg := .nm 6) rfl sc_holes_in.nd (pid_range1 T.b_range (pda_cons (pd_add (pdv 3) pd_int) pda_nil)) (blkOk_by (own := [("size", 6)]) (N := N_holes_in) (sc := defScope s_holes_in) (by decide +kernel)) (fun _ _ _ _ _ => (pgd_nm (i := 6) sc_holes_in.nd)) (fun _ _ _ _ _ => ptsd_nil) (fun _ _ _ _ _ => (pd_sub (pd_sub (pd_ix (pdv 4) (pdv 6)) (pd_ix (pdv 5) (pdv 6))) (pd_ix (pdv 5) (pd_add (pdv 6) pd_int))))) pda_nil))))))))), ?_⟩)
  intro ds g Q h
  obtain ⟨a0, a1, rfl, h⟩ := sp2_of h
  rw [show startD N_holes_in [a0, a1] = [some a0, some a1, none, none, none, none, none, none] from rfl]
  obtain ⟨A, p, e1, e2, hf, hA, hl, h7, k⟩ := h
  subst e1 e2
  obtain ⟨hirr, hqf⟩ := irr_q hf
  have hpm := LA.prm_mod hirr
  have ht7 := top_le7 h7
  walk_at "rr9"
  refine rd_eq (okD_int _) (okD_int _) ?_
  rw [eqD_int, List.length_map]
  by_cases c0 : A = []
  · subst c0
    rw [holes_nil] at k
    walk_at "rr9"
    rw [if_pos (show decide (((([] : List (List Int)).length : Nat) : Int) = 0) = true from rfl)]
    walk_at "rr9"
    refine rd_zK (by show 0 ≤ 16777216; decide) ?_
    exact dret k
  · rw [decide_eq_false (by have := List.length_pos_iff.mpr c0; omega)]
    walk_at "rr9"
    by_cases hz : 0 < p
    · rw [decide_eq_true hz]
      have hq : DV.int p = DV.int ((qOf p : Nat) : Int) := by
        unfold qOf
        rw [if_neg (by omega), Int.toNat_of_nonneg (by omega)]
      walk_at "rr9"
      refine rd_zK (by rw [List.length_map]; omega) (comp_map (f := lenF) (fun d hd => ?_) ?_)
      · obtain ⟨x, hx, e⟩ := tI_mem hd
        subst e
        refine ⟨_, rfl, fun Q2 h2 => ?_⟩
        rw [lenF_tI] at h2
        walk_at "rr9"
        rw [List.length_map]
        exact h2
      rw [len_map]
      walk_at "rr9"
      refine rd_maxS (ns := A.map fun x => (x.length : Int)) rfl (by rw [List.length_map]; exact List.length_pos_iff.mpr c0) fun z hz0 hzm => ?_
      rw [top_z hz0 hzm]
      walk_at "rr9"
      refine rd_rng1K ⟨by omega, by omega⟩ ?_
      rw [show (((LA.topOf A : Nat) : Int) + 1).toNat = LA.topOf A + 1 by omega]
      refine rd_zK (by rw [rangeD_len]; omega) (comp_map (f := nF fun i => (LA.many A i : Int)) (fun d hd => ?_) ?_)
      · obtain ⟨i, e, hi0, hi1⟩ := rangeD_mem hd
        subst e
        obtain ⟨m, rfl⟩ := Int.eq_ofNat_of_zero_le hi0
        refine ⟨_, rfl, fun Q2 h2 => ?_⟩
        walk_at "rr9"
        refine rd_zK (by rw [List.length_map]; omega) (comp_fil (p := szF m) (f := fun _ => .int 1) (fun d hd => ?_) ?_)
        · obtain ⟨x, hx, e⟩ := tI_mem hd
          subst e
          refine ⟨_, rfl, fun Q' h' => ?_, fun _ Q2 h2 => ?_⟩
          · walk_at "rr9"
            refine rd_eq (okD_int _) (okD_int _) ?_
            rw [eqD_int, List.length_map]
            unfold szF at h'
            rw [oneT_tI] at h'
            exact h'
          · walk_at "rr9"
            exact h2
        walk_at "rr9"
        rw [sz_len]
        exact h2
      rw [nF_map]
      walk_at "rr9"
      refine rd_rng2K (by unfold rngOk; omega) ?_
      rw [show (((LA.topOf A : Nat) : Int) + 1 - 1).toNat = LA.topOf A by omega]
      refine rd_zK (by rw [rangeD_len]; omega) (comp_map (f := nF fun i => (LA.rk (LA.modP (qOf p)) A i : Int)) (fun d hd => ?_) ?_)
      · obtain ⟨i, e, hi0, hi1⟩ := rangeD_mem hd
        subst e
        obtain ⟨m, rfl⟩ := Int.eq_ofNat_of_zero_le (show 0 ≤ i by omega)
        refine ⟨_, rfl, fun Q2 h2 => ?_⟩
        walk_at "rr9"
        refine ⟨A, m, qOf p, rfl, rfl, hq, hirr, hqf, hA, hl, h7, by omega, ?_⟩
        exact h2
      rw [nF_map1]
      walk_at "rr9"
      have hrow : (DV.int 0 :: (List.map DV.int (List.map (fun i => ((LA.rk (LA.modP (qOf p)) A (i + 1) : Nat) : Int)) (List.range (LA.topOf A))) ++ [DV.int 0])) = (rkL (LA.modP (qOf p)) A (LA.topOf A)).map DV.int := by
        rw [← rk_row hpm A, List.map_cons, List.map_append]
        rfl
      rw [hrow]
      refine rd_zK (by rw [List.length_map]; unfold rkL; rw [List.length_map, List.length_range]; omega) ?_
      walk_at "rr9"
      refine rd_rng1K ⟨by omega, by omega⟩ ?_
      rw [show (((LA.topOf A : Nat) : Int) + 1).toNat = LA.topOf A + 1 by omega]
      refine rd_zK (by rw [rangeD_len]; omega) (comp_map (f := nF fun i => (LA.many A i : Int) - (LA.rk (LA.modP (qOf p)) A i : Int) - (LA.rk (LA.modP (qOf p)) A (i + 1) : Int)) (fun d hd => ?_) ?_)
      · obtain ⟨i, e, hi0, hi1⟩ := rangeD_mem hd
        subst e
        obtain ⟨m, rfl⟩ := Int.eq_ofNat_of_zero_le hi0
        refine ⟨_, rfl, fun Q2 h2 => ?_⟩
        walk_at "rr9"
        (with_reducible apply rd_ix)
        · rfl
        · exact atI_nat (mnL_at (by omega))
        walk_at "rr9"
        (with_reducible apply rd_ix)
        · rfl
        · exact atI_nat (rkL_at (by omega))
        walk_at "rr9"
        (with_reducible apply rd_ix)
        · rfl
        · exact atI_nat (j := m + 1) (rkL_at (by omega))
        walk_at "rr9"
        exact h2
      rw [nF_map]
      rw [holes_ne c0] at k
      walk_at "rr9"
      exact dret k
    · rw [decide_eq_false hz]
      have hq : DV.int 2305843009213693951 = DV.int ((qOf p : Nat) : Int) := by
        have := (fld_in hf).1
        unfold qOf
        rw [if_pos (by omega)]
        rfl
      walk_at "rr9"
      refine rd_zK (by rw [List.length_map]; omega) (comp_map (f := lenF) (fun d hd => ?_) ?_)
      · obtain ⟨x, hx, e⟩ := tI_mem hd
        subst e
        refine ⟨_, rfl, fun Q2 h2 => ?_⟩
        rw [lenF_tI] at h2
        walk_at "rr9"
        rw [List.length_map]
        exact h2
      rw [len_map]
      walk_at "rr9"
      refine rd_maxS (ns := A.map fun x => (x.length : Int)) rfl (by rw [List.length_map]; exact List.length_pos_iff.mpr c0) fun z hz0 hzm => ?_
      rw [top_z hz0 hzm]
      walk_at "rr9"
      refine rd_rng1K ⟨by omega, by omega⟩ ?_
      rw [show (((LA.topOf A : Nat) : Int) + 1).toNat = LA.topOf A + 1 by omega]
      refine rd_zK (by rw [rangeD_len]; omega) (comp_map (f := nF fun i => (LA.many A i : Int)) (fun d hd => ?_) ?_)
      · obtain ⟨i, e, hi0, hi1⟩ := rangeD_mem hd
        subst e
        obtain ⟨m, rfl⟩ := Int.eq_ofNat_of_zero_le hi0
        refine ⟨_, rfl, fun Q2 h2 => ?_⟩
        walk_at "rr9"
        refine rd_zK (by rw [List.length_map]; omega) (comp_fil (p := szF m) (f := fun _ => .int 1) (fun d hd => ?_) ?_)
        · obtain ⟨x, hx, e⟩ := tI_mem hd
          subst e
          refine ⟨_, rfl, fun Q' h' => ?_, fun _ Q2 h2 => ?_⟩
          · walk_at "rr9"
            refine rd_eq (okD_int _) (okD_int _) ?_
            rw [eqD_int, List.length_map]
            unfold szF at h'
            rw [oneT_tI] at h'
            exact h'
          · walk_at "rr9"
            exact h2
        walk_at "rr9"
        rw [sz_len]
        exact h2
      rw [nF_map]
      walk_at "rr9"
      refine rd_rng2K (by unfold rngOk; omega) ?_
      rw [show (((LA.topOf A : Nat) : Int) + 1 - 1).toNat = LA.topOf A by omega]
      refine rd_zK (by rw [rangeD_len]; omega) (comp_map (f := nF fun i => (LA.rk (LA.modP (qOf p)) A i : Int)) (fun d hd => ?_) ?_)
      · obtain ⟨i, e, hi0, hi1⟩ := rangeD_mem hd
        subst e
        obtain ⟨m, rfl⟩ := Int.eq_ofNat_of_zero_le (show 0 ≤ i by omega)
        refine ⟨_, rfl, fun Q2 h2 => ?_⟩
        walk_at "rr9"
        refine ⟨A, m, qOf p, rfl, rfl, hq, hirr, hqf, hA, hl, h7, by omega, ?_⟩
        exact h2
      rw [nF_map1]
      walk_at "rr9"
      have hrow : (DV.int 0 :: (List.map DV.int (List.map (fun i => ((LA.rk (LA.modP (qOf p)) A (i + 1) : Nat) : Int)) (List.range (LA.topOf A))) ++ [DV.int 0])) = (rkL (LA.modP (qOf p)) A (LA.topOf A)).map DV.int := by
        rw [← rk_row hpm A, List.map_cons, List.map_append]
        rfl
      rw [hrow]
      refine rd_zK (by rw [List.length_map]; unfold rkL; rw [List.length_map, List.length_range]; omega) ?_
      walk_at "rr9"
      refine rd_rng1K ⟨by omega, by omega⟩ ?_
      rw [show (((LA.topOf A : Nat) : Int) + 1).toNat = LA.topOf A + 1 by omega]
      refine rd_zK (by rw [rangeD_len]; omega) (comp_map (f := nF fun i => (LA.many A i : Int) - (LA.rk (LA.modP (qOf p)) A i : Int) - (LA.rk (LA.modP (qOf p)) A (i + 1) : Int)) (fun d hd => ?_) ?_)
      · obtain ⟨i, e, hi0, hi1⟩ := rangeD_mem hd
        subst e
        obtain ⟨m, rfl⟩ := Int.eq_ofNat_of_zero_le hi0
        refine ⟨_, rfl, fun Q2 h2 => ?_⟩
        walk_at "rr9"
        (with_reducible apply rd_ix)
        · rfl
        · exact atI_nat (mnL_at (by omega))
        walk_at "rr9"
        (with_reducible apply rd_ix)
        · rfl
        · exact atI_nat (rkL_at (by omega))
        walk_at "rr9"
        (with_reducible apply rd_ix)
        · rfl
        · exact atI_nat (j := m + 1) (rkL_at (by omega))
        walk_at "rr9"
        exact h2
      rw [nF_map]
      rw [holes_ne c0] at k
      walk_at "rr9"
      exact dret k

abbrev s_is_set_on : Stmt := topS 25
abbrev N_is_set_on : List Str := ["corners", "value", "one", "other", "corner"]
theorem sc_is_set_on : FnScope N_is_set_on ["corners", "value"] (defScope s_is_set_on) := ⟨rfl, rfl, rfl, by decide +kernel, rfl, by decide +kernel, by decide +kernel⟩
abbrev sp_is_set_on (c_KeptSets c_Family : Addr) : SpD :=
  sp2 fun a b g P => ∃ n : Nat, a = .int (n : Int) ∧ ((∃ ds, b = .tup ds ∧ plAll ds = true ∧ ds.length ≤ 1000 ∧ P (.bl (isSt n ds)) g) ∨ ((∃ s, tyNm g b = some s ∧ isiN s "tuple" = some false) ∧ P (.bl false) g))

local macro_rules | `(tactic| walk_at "rr10") => `(tactic| (repeat (first | (with_reducible first | refine rd_seq ?_ | refine rd_seqE ?_ | refine rd_next ?_ | refine rd_rtE ?_ | refine rd_nxE ?_ | refine rd_nx ?_ | refine rd_rt ?_ | refine rd_drop ?_ | refine rd_ret ?_ | refine rd_dif ?_ | refine rd_c ?_ | refine rd_op ?_ | refine rd_b ?_ | refine rd_bK ?_ | refine rd_tru ?_ | refine rd_tKb ?_ | refine rd_or ?_ | refine rd_not ?_ | refine rd_nil ?_ | refine rd_cons ?_ | refine rd_cb ?_ | refine rd_call ?_ | refine rd_sp1 ?_ | refine rd_sp2 ?_ | refine rd_sp3 ?_ | refine rd_sub ?_ | refine rd_cmp ?_ | refine rd_lc ?_ | refine rd_yes ?_ | refine rd_wseq ?_ | refine rd_wsT ?_ | refine rd_wsL ?_ | refine rd_wsS ?_ | refine rd_wzip ?_ | refine rd_zipT ?_ | refine rd_sl ?_ | refine rd_slT ?_ | refine rd_slL ?_ | refine rd_slS ?_ | refine rd_nopart ?_ | refine rd_part ?_ | refine rd_ptK ?_ | refine rd_itet ?_ | refine rd_itef ?_ | refine rd_itnt ?_ | refine rd_itnf ?_) | ((with_reducible apply rd_var); (· exact rfl)))))
theorem ok_is_set_on {P : Program} {w : World} {K : Fg} {mg : Str → Option Value} {base : Heap} {t_FAR_PRIME t_MAX_CORNERS t_MAX_FIELD t_MAX_PASSED : Tok} {c_KeptSets c_Family : Addr} {f f_is_within : Addr} {fd d_is_within : FuncData} (D : Dfn K mg "is_set_on" s_is_set_on ["corners", "value"] f fd) (T : Txt P K mg t_FAR_PRIME t_MAX_CORNERS t_MAX_FIELD t_MAX_PASSED c_KeptSets c_Family) (D_is_within : Dfn K mg "is_within" s_is_within ["value", "least", "greatest"] f_is_within d_is_within) (G_is_within : FnOk P w K mg base CX0 2 f_is_within d_is_within ["value", "least", "greatest"] (upSp K (sp_is_within c_KeptSets c_Family))) :
    FnOk P w K mg base CX0 3 f fd ["corners", "value"] (upSp K (sp_is_set_on c_KeptSets c_Family)) := by
  refine fun_okD D.fn sc_is_set_on (fun ds g Q h => len2 h) (fun cdv A outer s H E hr => ⟨_, (pds_cons (pds_if (pwd_pt (pwd_or (pt_notD (pt_truD (pd_callB call_isiY ref_isi T.b_isinstance (by decide +kernel) (pda_cons (pdv 1) (pda_cons (pd_ty (n := "tuple") T.b_tuple (by decide +kernel)) pda_nil))))) (pwd_or1 (pt_notD (pt_truD (pd_callB (cr_all rfl) ref_bs T.b_all (by decide +kernel) (pda_cons (pd_lc (own := [("corner", 4)]) (tg := .nm 4) rfl sc_is_set_on.nd (pid_seq (pdv 1)) (blkOk_by (own := [("corner", 4)]) (N := N_is_set_on) (sc := defScope s_is_set_on) (by decide +kernel)) (fun _ _ _ _ _ => (pgd_nm (i := 4) sc_is_set_on.nd)) (fun _ _ _ _ _ => ptsd_nil) (fun _ _ _ _ _ => (pd_call G_is_within (hr.mono (by decide)) D_is_within.at_ D_is_within.fn.kp D_is_within.bd pass0 (pda_cons (pdv 4) (pda_cons pd_int (pda_cons (pd_sub (pdv 0) pd_int) pda_nil)))))) pda_nil))))))) (pds_one (pds_ret pd_bl)) pds_nil) (pds_one (pds_ret (pd_callB (cr_all rfl) ref_bs T.b_all (by decide +kernel) (pda_cons (pd_lc (own := [("one", 2), ("other", 3)]) (tg := .tp [2, 3]) rfl sc_is_set_on.nd (pid_zip T.b_zip (pda_cons (pdv 1) (pda_cons (pd_slice (pdv 1) (pod_some pd_int) pod_none) pda_nil))) (blkOk_by (own := [("one", 2), ("other", 3)]) (N := N_is_set_on) (sc := defScope s_is_set_on) (by decide +kernel)) (fun _ _ _ _ _ => (pgd_tp (is := [2, 3]) rfl (pgd_cons (i := 2) (pgd_nm (i := 2) sc_is_set_on.nd) (pgd_cons (i := 3) (pgd_nm (i := 3) sc_is_set_on.nd) pgd_nil)))) (fun _ _ _ _ _ => ptsd_nil) (fun _ _ _ _ _ => (pd_cmp op_lt (RefCmp.op ref_cmp) (pdv 2) (pdv 3) (nomark _)))) pda_nil))))), ?_⟩)
  intro ds g Q h
  obtain ⟨a0, a1, rfl, h⟩ := sp2_of h
  rw [show startD N_is_set_on [a0, a1] = [some a0, some a1, none, none, none] from rfl]
  obtain ⟨n, e1, hh⟩ := h
  subst e1
  rcases hh with ⟨ds, e2, hp, hl, k⟩ | ⟨⟨s, es, ei⟩, k⟩
  · subst e2
    walk_at "rr10"
    refine rd_isiT ?_
    walk_at "rr10"
    refine rd_zK (by omega) (comp_map (f := fun d => .bl (isWi 0 ((n : Int) - 1) d)) (fun d hd => ?_) ?_)
    · refine ⟨_, rfl, fun Q2 h2 => ?_⟩
      walk_at "rr10"
      exact ⟨plAll_mem hp d hd, 0, _, rfl, rfl, h2⟩
    · walk_at "rr10"
      refine rd_bs rfl (blsD_fun (isWi 0 ((n : Int) - 1)) _) ?_
      rw [all_id_map]
      walk_at "rr10"
      unfold isSt at k
      refine rd_iteb (fun c => ?_) (fun c => ?_)
      · rw [show ds.all (isWi 0 ((n : Int) - 1)) = false by simpa using c, Bool.false_and] at k
        walk_at "rr10"
        exact dret k
      · have c2 : ds.all (isWi 0 ((n : Int) - 1)) = true := by simpa using c
        rw [c2, Bool.true_and] at k
        obtain ⟨ns, e, hn⟩ := wi_ints c2
        subst e
        rw [List.length_map] at hl
        walk_at "rr10"
        rw [show (1 : Int) = ((1 : Nat) : Int) from rfl, cutD_from, ← List.map_drop]
        walk_at "rr10"
        refine rd_zK (by rw [zipD_len, List.length_map, List.length_map, List.length_drop]; omega) (comp_map (f := fun d => .bl (ltD d)) (fun d hd => ?_) ?_)
        · rw [zip_ints] at hd
          obtain ⟨q, _, e⟩ := List.mem_map.mp hd
          subst e
          refine ⟨_, rfl, fun Q2 h2 => ?_⟩
          walk_at "rr10"
          exact h2
        · walk_at "rr10"
          refine rd_bs rfl (blsD_fun ltD _) ?_
          rw [all_id_map]
          unfold ascD at k
          rw [← List.map_drop] at k
          walk_at "rr10"
          exact dret k
  · walk_at "rr10"
    refine rd_isi es ei ?_
    walk_at "rr10"
    exact dret k

abbrev s_by_size : Stmt := topS 26
abbrev N_by_size : List Str := ["sets"]
theorem sc_by_size : FnScope N_by_size ["sets"] (defScope s_by_size) := ⟨rfl, rfl, rfl, by decide +kernel, rfl, by decide +kernel, by decide +kernel⟩
abbrev sp_by_size (c_KeptSets c_Family : Addr) : SpD :=
  sp1 fun a g P => ∃ S : List (List Int), ItT g a S ∧ S.length ≤ 1000 ∧ P (.lst ((sizeL S).map tI)) g

local macro_rules | `(tactic| walk_at "rr11") => `(tactic| (repeat (first | (with_reducible first | refine rd_seq ?_ | refine rd_seqE ?_ | refine rd_next ?_ | refine rd_rtE ?_ | refine rd_nxE ?_ | refine rd_nx ?_ | refine rd_rt ?_ | refine rd_drop ?_ | refine rd_ret ?_ | refine rd_c ?_ | refine rd_op ?_ | refine rd_b ?_ | refine rd_bK ?_ | refine rd_nil ?_ | refine rd_cons ?_ | refine rd_cb ?_ | refine rd_call ?_ | refine rd_sp1 ?_ | refine rd_sp2 ?_ | refine rd_sp3 ?_ | refine rd_sk ?_ | refine rd_itet ?_ | refine rd_itef ?_ | refine rd_itnt ?_ | refine rd_itnf ?_) | ((with_reducible apply rd_var); (· exact rfl)))))
theorem ok_by_size {P : Program} {w : World} {K : Fg} {mg : Str → Option Value} {base : Heap} {t_FAR_PRIME t_MAX_CORNERS t_MAX_FIELD t_MAX_PASSED : Tok} {c_KeptSets c_Family : Addr} {f : Addr} {fd : FuncData} (D : Dfn K mg "by_size" s_by_size ["sets"] f fd) (T : Txt P K mg t_FAR_PRIME t_MAX_CORNERS t_MAX_FIELD t_MAX_PASSED c_KeptSets c_Family) :
    FnOk P w K mg base CX0 1 f fd ["sets"] (upSp K (sp_by_size c_KeptSets c_Family)) := by
  refine fun_okD D.fn sc_by_size (fun ds g Q h => len1 h) (fun cdv A outer s H E hr => ⟨_, (pds_one (pds_ret (pd_sortK keyT_len T.b_sorted T.b_len (by decide +kernel) hr.units rfl (pd_callB (cr_sortT hr.units rfl) ref_sortT T.b_sorted (by decide +kernel) (pda_cons (pdv 0) pda_nil))))), ?_⟩)
  intro ds g Q h
  obtain ⟨a0, rfl, h⟩ := sp1_of h
  rw [show startD N_by_size [a0] = [some a0] from rfl]
  obtain ⟨S, hi, hl, k⟩ := h
  walk_at "rr11"
  refine rd_sortT hi (by omega) ?_
  walk_at "rr11"
  refine rd_skK (L := S.mergeSort leL) (.inl rfl) (by rw [List.length_mergeSort]; omega) ?_
  walk_at "rr11"
  exact dret k

abbrev s_greatest_of : Stmt := topS 27
abbrev N_greatest_of : List Str := ["sets", "within", "chosen", "smaller"]
theorem sc_greatest_of : FnScope N_greatest_of ["sets"] (defScope s_greatest_of) := ⟨rfl, rfl, rfl, by decide +kernel, rfl, by decide +kernel, by decide +kernel⟩
abbrev sp_greatest_of (c_KeptSets c_Family : Addr) : SpD :=
  sp1 fun a g P => ∃ S : List (List Int), a = .lst (S.map tI) ∧ S.length ≤ 1000 ∧ (∀ x ∈ S, x.length ≤ 8) ∧ P (.tup ((greatL S).map tI)) g

local macro_rules | `(tactic| walk_at "rr12") => `(tactic| (repeat (first | (with_reducible first | refine rd_seq ?_ | refine rd_seqE ?_ | refine rd_next ?_ | refine rd_rtE ?_ | refine rd_nxE ?_ | refine rd_nx ?_ | refine rd_rt ?_ | refine rd_drop ?_ | refine rd_ret ?_ | refine rd_asg ?_ | refine rd_c ?_ | refine rd_op ?_ | refine rd_b ?_ | refine rd_bK ?_ | refine rd_nil ?_ | refine rd_cons ?_ | refine rd_cb ?_ | refine rd_call ?_ | refine rd_sp1 ?_ | refine rd_sp2 ?_ | refine rd_sp3 ?_ | refine rd_lc ?_ | refine rd_yes ?_ | refine rd_wseq ?_ | refine rd_wsT ?_ | refine rd_wsL ?_ | refine rd_wsS ?_ | refine rd_dc2 ?_ | refine rd_itet ?_ | refine rd_itef ?_ | refine rd_itnt ?_ | refine rd_itnf ?_) | ((with_reducible apply rd_var); (· exact rfl)) | ((with_reducible apply rd_asgK); (· exact rfl)) | ((with_reducible apply rd_tuple); (· (first | assumption | exact seqD_ref (by assumption) | exact seqD_up | exact lstD_ref (by assumption) | exact lstD_up | rfl))))))
theorem ok_greatest_of {P : Program} {w : World} {K : Fg} {mg : Str → Option Value} {base : Heap} {t_FAR_PRIME t_MAX_CORNERS t_MAX_FIELD t_MAX_PASSED : Tok} {c_KeptSets c_Family : Addr} {f f_without_each : Addr} {fd d_without_each : FuncData} (D : Dfn K mg "greatest_of" s_greatest_of ["sets"] f fd) (T : Txt P K mg t_FAR_PRIME t_MAX_CORNERS t_MAX_FIELD t_MAX_PASSED c_KeptSets c_Family) (D_without_each : Dfn K mg "without_each" s_without_each ["chosen"] f_without_each d_without_each) (G_without_each : FnOk P w K mg base CX0 1 f_without_each d_without_each ["chosen"] (upSp K (sp_without_each c_KeptSets c_Family))) :
    FnOk P w K mg base CX0 2 f fd ["sets"] (upSp K (sp_greatest_of c_KeptSets c_Family)) := by
  refine fun_okD D.fn sc_greatest_of (fun ds g Q h => len1 h) (fun cdv A outer s H E hr => ⟨_, (pds_cons (pds_set (i := 1) sc_greatest_of.nd (pd_dc2 (own := [("chosen", 2), ("smaller", 3)]) (tg := .nm 2) (tg1 := .nm 3) (vs1 := [3]) hr.units rfl sc_greatest_of.nd (pid_seq (pdv 0)) (blkOk_by (own := [("chosen", 2), ("smaller", 3)]) (N := N_greatest_of) (sc := defScope s_greatest_of) (by decide +kernel)) (fun _ _ _ _ _ => (pgd_nm (i := 2) sc_greatest_of.nd)) (fun _ _ _ _ _ => ptsd_nil) (fun _ _ _ _ _ => (pid_seq (pd_call G_without_each (hr.mono (by decide)) D_without_each.at_ D_without_each.fn.kp D_without_each.bd pass0 (pda_cons (pdv 2) pda_nil)))) (fun _ _ _ _ _ => (pgd_nm (i := 3) sc_greatest_of.nd)) (fun _ _ _ _ _ => ptsd_nil) (fun _ _ _ _ _ => (pdv 3)) (fun _ _ _ _ _ => pd_bl))) (pds_one (pds_ret (pd_callTy call_tuple_of ref_tuple T.b_tuple (by decide +kernel) (pda_cons (pd_callB (cr_sortT hr.units rfl) ref_sortT T.b_sorted (by decide +kernel) (pda_cons (pd_lc (own := [("chosen", 2)]) (tg := .nm 2) rfl sc_greatest_of.nd (pid_seq (pdv 0)) (blkOk_by (own := [("chosen", 2)]) (N := N_greatest_of) (sc := defScope s_greatest_of) (by decide +kernel)) (fun _ _ _ _ _ => (pgd_nm (i := 2) sc_greatest_of.nd)) (fun _ _ _ _ _ => (ptsd_one (pt_cmpD (op_dNotIn hr.units) (RefCmp.op ref_dIn) (pdv 2) (pdv 1) (by rfl)))) (fun _ _ _ _ _ => (pdv 2))) pda_nil)) pda_nil))))), ?_⟩)
  intro ds g Q h
  obtain ⟨a0, rfl, h⟩ := sp1_of h
  rw [show startD N_greatest_of [a0] = [some a0, none, none, none] from rfl]
  obtain ⟨S, e1, hl, h8, k⟩ := h
  subst e1
  walk_at "rr12"
  refine dco_rep (ks := []) (F := dropD) (kf := keyF) (v := .bl true) (fun d hd => ?_) ?_ ?_
  · obtain ⟨x, hx, e⟩ := tI_mem hd
    subst e
    have hx8 := h8 x hx
    refine ⟨_, rfl, fun QA h2 => ?_, fun e he => ?_⟩
    · walk_at "rr12"
      refine ⟨x, rfl, by omega, ?_⟩
      rw [dropD_tI] at h2
      walk_at "rr12"
      exact h2
    · rw [dropD_tI] at he
      obtain ⟨y, hy, e⟩ := tI_mem he
      subst e
      refine ⟨_, tI y, rfl, by rw [keyF_tI]; exact keyT_tI y, fun Q2 h2 => ?_, fun Q2 h2 => ?_⟩
      · walk_at "rr12"
        exact h2
      · walk_at "rr12"
        exact h2
  · have := flat_len h8
    rw [flat_drop, List.length_map, List.length_nil]
    omega
  · rw [flat_drop, fold_keyF]
    walk_at "rr12"
    refine rd_zK (by rw [List.length_map]; omega) (comp_fil (p := greatP S) (f := fun d => d) (fun d hd => ?_) ?_)
    · obtain ⟨x, hx, e⟩ := tI_mem hd
      subst e
      refine ⟨_, rfl, fun Q' h' => ?_, fun _ Q2 h2 => ?_⟩
      · walk_at "rr12"
        refine rd_inOne (neg := true) ?_
        have e : greatP S (tI x) = !decide (x ∈ belowL S) := by unfold greatP; rw [oneT_tI]
        rw [e] at h'
        walk_at "rr12"
        exact h'
      · walk_at "rr12"
        exact h2
    · rw [great_map]
      walk_at "rr12"
      refine rd_sortT (.inl rfl) (Nat.le_trans (List.length_filter_le _ _) (by omega)) ?_
      walk_at "rr12"
      exact dret k

abbrev s_sets_told : Stmt := topS 31
abbrev N_sets_told : List Str := ["corners", "members", "chosen"]
theorem sc_sets_told : FnScope N_sets_told ["corners", "members"] (defScope s_sets_told) := ⟨rfl, rfl, rfl, by decide +kernel, rfl, by decide +kernel, by decide +kernel⟩
abbrev sp_sets_told (c_KeptSets c_Family : Addr) : SpD :=
  sp2 fun a b g P => ∃ (n : Nat) (S : List (List Int)), a = .int (n : Int) ∧ b = .tup (S.map tI) ∧ n ≤ 8 ∧ InS n S ∧ S.length ≤ 256 ∧ P (.lst ((closL n S).map tI)) g

local macro_rules | `(tactic| walk_at "rr13") => `(tactic| (repeat (first | (with_reducible first | refine rd_seq ?_ | refine rd_seqE ?_ | refine rd_next ?_ | refine rd_rtE ?_ | refine rd_nxE ?_ | refine rd_nx ?_ | refine rd_rt ?_ | refine rd_drop ?_ | refine rd_ret ?_ | refine rd_dif ?_ | refine rd_c ?_ | refine rd_op ?_ | refine rd_b ?_ | refine rd_bK ?_ | refine rd_tru ?_ | refine rd_tKb ?_ | refine rd_or ?_ | refine rd_not ?_ | refine rd_nil ?_ | refine rd_cons ?_ | refine rd_cb ?_ | refine rd_call ?_ | refine rd_sp1 ?_ | refine rd_sp2 ?_ | refine rd_sp3 ?_ | refine rd_cmp ?_ | refine rd_lc ?_ | refine rd_yes ?_ | refine rd_wseq ?_ | refine rd_wsT ?_ | refine rd_wsL ?_ | refine rd_wsS ?_ | refine rd_fld ?_ | refine rd_isiCI ?_ | refine rd_isiCT ?_ | refine rd_itet ?_ | refine rd_itef ?_ | refine rd_itnt ?_ | refine rd_itnf ?_) | ((with_reducible apply rd_flI); (· exact rfl)) | ((with_reducible apply rd_flR); (· (first | assumption | exact gup_same)); (· exact rfl)) | ((with_reducible apply rd_var); (· exact rfl)) | ((with_reducible apply rd_len); (· (first | assumption | exact seqD_ref (by assumption) | exact seqD_up | exact lstD_ref (by assumption) | exact lstD_up | rfl))))))
theorem ok_sets_told {P : Program} {w : World} {K : Fg} {mg : Str → Option Value} {base : Heap} {t_FAR_PRIME t_MAX_CORNERS t_MAX_FIELD t_MAX_PASSED : Tok} {c_KeptSets c_Family : Addr} {f f_closed_downward f_is_set_on : Addr} {fd d_closed_downward d_is_set_on : FuncData} (D : Dfn K mg "sets_told" s_sets_told ["corners", "members"] f fd) (T : Txt P K mg t_FAR_PRIME t_MAX_CORNERS t_MAX_FIELD t_MAX_PASSED c_KeptSets c_Family) (D_closed_downward : Dfn K mg "closed_downward" s_closed_downward ["sets"] f_closed_downward d_closed_downward) (G_closed_downward : FnOk P w K mg base CX0 2 f_closed_downward d_closed_downward ["sets"] (upSp K (sp_closed_downward c_KeptSets c_Family))) (D_is_set_on : Dfn K mg "is_set_on" s_is_set_on ["corners", "value"] f_is_set_on d_is_set_on) (G_is_set_on : FnOk P w K mg base CX0 3 f_is_set_on d_is_set_on ["corners", "value"] (upSp K (sp_is_set_on c_KeptSets c_Family))) :
    FnOk P w K mg base CX0 4 f fd ["corners", "members"] (upSp K (sp_sets_told c_KeptSets c_Family)) := by
  refine fun_okD D.fn sc_sets_told (fun ds g Q h => len2 h) (fun cdv A outer s H E hr => ⟨_, (pds_cons (pds_if (pt_truD (pd_callB (cr_isiC T.F_KeptSets.sc T.F_KeptSets.si kit_me) (ref_isiC T.F_KeptSets.ni) T.b_isinstance (by decide +kernel) (pda_cons (pdv 1) (pda_cons (pd_globR T.g_KeptSets) pda_nil)))) (pds_one (pds_ret (pd_fld T.F_KeptSets.sc T.s_KeptSets_own_sets.choose_spec (pdv 1)))) pds_nil) (pds_cons (pds_if (pwd_pt (pwd_or (pt_notD (pt_truD (pd_callB call_isiY ref_isi T.b_isinstance (by decide +kernel) (pda_cons (pdv 1) (pda_cons (pd_ty (n := "tuple") T.b_tuple (by decide +kernel)) pda_nil))))) (pwd_or1 (pt_cmpD op_gt (RefCmp.op ref_cmp) (pd_callB call_len_seq ref_len T.b_len (by decide +kernel) (pda_cons (pdv 1) pda_nil)) (pd_globI T.c_MAX_PASSED) (nomark _))))) (pds_one pds_never) pds_nil) (pds_cons (pds_if (pt_notD (pt_truD (pd_callB (cr_all rfl) ref_bs T.b_all (by decide +kernel) (pda_cons (pd_lc (own := [("chosen", 2)]) (tg := .nm 2) rfl sc_sets_told.nd (pid_seq (pdv 1)) (blkOk_by (own := [("chosen", 2)]) (N := N_sets_told) (sc := defScope s_sets_told) (by decide +kernel)) (fun _ _ _ _ _ => (pgd_nm (i := 2) sc_sets_told.nd)) (fun _ _ _ _ _ => ptsd_nil) (fun _ _ _ _ _ => (pd_call G_is_set_on (hr.mono (by decide)) D_is_set_on.at_ D_is_set_on.fn.kp D_is_set_on.bd pass0 (pda_cons (pdv 0) (pda_cons (pdv 2) pda_nil))))) pda_nil)))) (pds_one pds_never) pds_nil) (pds_one (pds_ret (pd_call G_closed_downward (hr.mono (by decide)) D_closed_downward.at_ D_closed_downward.fn.kp D_closed_downward.bd pass0 (pda_cons (pdv 1) pda_nil))))))), ?_⟩)
  intro ds g Q h
  obtain ⟨a0, a1, rfl, h⟩ := sp2_of h
  rw [show startD N_sets_told [a0, a1] = [some a0, some a1, none] from rfl]
  obtain ⟨n, S, e1, e2, hn, hS, hl, k⟩ := h
  subst e1 e2
  walk_at "rr13"
  refine rd_isiT ?_
  walk_at "rr13"
  rw [decide_eq_false (by rw [List.length_map]; omega)]
  walk_at "rr13"
  refine rd_zK (by rw [List.length_map]; omega) (comp_map (f := fun _ => .bl true) (fun d hd => ?_) ?_)
  · obtain ⟨x, hx, e⟩ := tI_mem hd
    subst e
    have hx8 := sub_crn hn (hS x hx)
    refine ⟨_, rfl, fun Q2 h2 => ?_⟩
    walk_at "rr13"
    refine ⟨n, rfl, .inl ⟨_, rfl, pl_tI x, by rw [List.length_map]; omega, ?_⟩⟩
    rw [isSt_of (hS x hx)]
    exact h2
  · walk_at "rr13"
    refine rd_bs rfl (blsD_fun (fun _ => true) _) ?_
    rw [all_tt]
    walk_at "rr13"
    exact ⟨n, S, rfl, hn, hS, by omega, dret k⟩

abbrev s_Family___init__ : Stmt := inClass (topS 30) 1
abbrev N_Family___init__ : List Str := ["self", "corners", "members", "chosen"]
theorem sc_Family___init__ : FnScope N_Family___init__ ["self", "corners", "members"] (defScope s_Family___init__) := ⟨rfl, rfl, rfl, by decide +kernel, rfl, by decide +kernel, by decide +kernel⟩
abbrev sp_Family___init__ (c_KeptSets c_Family : Addr) : SpD :=
  sp3 fun a b c g P => ∃ (p : Addr) (n : Nat) (S : List (List Int)), a = .ref p ∧ b = .int (n : Int) ∧ c = .tup (S.map tI) ∧ 1 ≤ n ∧ n ≤ 8 ∧ InS n S ∧ S.length ≤ 256 ∧ g p = some (.ins c_Family []) ∧ P .non (gup g p (.ins c_Family [some (.int (n : Int)), some (oneD (allL n S) (.bl true)), some (.tup ((greatL (allL n S)).map tI)), some (.lst ((allL n S).map tI))]))

local macro_rules | `(tactic| walk_at "rr14") => `(tactic| (repeat (first | (with_reducible first | refine rd_seq ?_ | refine rd_seqE ?_ | refine rd_next ?_ | refine rd_rtE ?_ | refine rd_nxE ?_ | refine rd_nx ?_ | refine rd_rt ?_ | refine rd_drop ?_ | refine rd_ret ?_ | refine rd_dif ?_ | refine rd_c ?_ | refine rd_op ?_ | refine rd_b ?_ | refine rd_bK ?_ | refine rd_tru ?_ | refine rd_tKb ?_ | refine rd_not ?_ | refine rd_nil ?_ | refine rd_cons ?_ | refine rd_cb ?_ | refine rd_call ?_ | refine rd_sp1 ?_ | refine rd_sp2 ?_ | refine rd_sp3 ?_ | refine rd_yes ?_ | refine rd_wseq ?_ | refine rd_wsT ?_ | refine rd_wsL ?_ | refine rd_wsS ?_ | refine rd_fld ?_ | refine rd_sto ?_ | refine rd_dcT ?_ | refine rd_itet ?_ | refine rd_itef ?_ | refine rd_itnt ?_ | refine rd_itnf ?_) | ((with_reducible apply rd_flI); (· exact rfl)) | ((with_reducible apply rd_flR); (· (first | assumption | exact gup_same)); (· exact rfl)) | ((with_reducible apply rd_stoK); (· (first | assumption | exact gup_same))) | ((with_reducible apply rd_var); (· exact rfl)))))
theorem ok_Family___init__ {P : Program} {w : World} {K : Fg} {mg : Str → Option Value} {base : Heap} {t_FAR_PRIME t_MAX_CORNERS t_MAX_FIELD t_MAX_PASSED : Tok} {c_KeptSets c_Family : Addr} {f f_greatest_of f_by_size f_sets_told f_is_within : Addr} {fd d_greatest_of d_by_size d_sets_told d_is_within : FuncData} (D : Mtd K c_Family "__init__" "Family.__init__" s_Family___init__ ["self", "corners", "members"] f fd) (T : Txt P K mg t_FAR_PRIME t_MAX_CORNERS t_MAX_FIELD t_MAX_PASSED c_KeptSets c_Family) (D_greatest_of : Dfn K mg "greatest_of" s_greatest_of ["sets"] f_greatest_of d_greatest_of) (G_greatest_of : FnOk P w K mg base CX0 2 f_greatest_of d_greatest_of ["sets"] (upSp K (sp_greatest_of c_KeptSets c_Family))) (D_by_size : Dfn K mg "by_size" s_by_size ["sets"] f_by_size d_by_size) (G_by_size : FnOk P w K mg base CX0 1 f_by_size d_by_size ["sets"] (upSp K (sp_by_size c_KeptSets c_Family))) (D_sets_told : Dfn K mg "sets_told" s_sets_told ["corners", "members"] f_sets_told d_sets_told) (G_sets_told : FnOk P w K mg base CX0 4 f_sets_told d_sets_told ["corners", "members"] (upSp K (sp_sets_told c_KeptSets c_Family))) (D_is_within : Dfn K mg "is_within" s_is_within ["value", "least", "greatest"] f_is_within d_is_within) (G_is_within : FnOk P w K mg base CX0 2 f_is_within d_is_within ["value", "least", "greatest"] (upSp K (sp_is_within c_KeptSets c_Family))) :
    FnOk P w K mg base CX0 5 f fd ["self", "corners", "members"] (upSp K (sp_Family___init__ c_KeptSets c_Family)) := by
  refine fun_okD D.fn sc_Family___init__ (fun ds g Q h => len3 h) (fun cdv A outer s H E hr => ⟨_, (pds_cons (pds_if (pt_notD (pt_truD (pd_call G_is_within (hr.mono (by decide)) D_is_within.at_ D_is_within.fn.kp D_is_within.bd pass0 (pda_cons (pdv 1) (pda_cons pd_int (pda_cons (pd_globI T.c_MAX_CORNERS) pda_nil)))))) (pds_one pds_never) pds_nil) (pds_cons (pds_sto T.F_Family.sc T.s_Family_own_sets.choose_spec (pdv 0) (pd_call G_by_size (hr.mono (by decide)) D_by_size.at_ D_by_size.fn.kp D_by_size.bd pass0 (pda_cons (pd_call G_sets_told (hr.mono (by decide)) D_sets_told.at_ D_sets_told.fn.kp D_sets_told.bd pass0 (pda_cons (pdv 1) (pda_cons (pdv 2) pda_nil))) pda_nil))) (pds_cons (pds_sto T.F_Family.sc T.s_Family_own_known.choose_spec (pdv 0) (pd_dcT (own := [("chosen", 3)]) (tg := .nm 3) hr.units rfl sc_Family___init__.nd (pid_seq (pd_fld T.F_Family.sc T.s_Family_own_sets.choose_spec (pdv 0))) (blkOk_by (own := [("chosen", 3)]) (N := N_Family___init__) (sc := defScope s_Family___init__) (by decide +kernel)) (fun _ _ _ _ _ => (pgd_nm (i := 3) sc_Family___init__.nd)) (fun _ _ _ _ _ => ptsd_nil) (fun _ _ _ _ _ => (pdv 3)) (fun _ _ _ _ _ => pd_bl))) (pds_cons (pds_sto T.F_Family.sc T.s_Family_own_members.choose_spec (pdv 0) (pd_call G_greatest_of (hr.mono (by decide)) D_greatest_of.at_ D_greatest_of.fn.kp D_greatest_of.bd pass0 (pda_cons (pd_fld T.F_Family.sc T.s_Family_own_sets.choose_spec (pdv 0)) pda_nil))) (pds_one (pds_sto T.F_Family.sc T.s_Family_own_corners.choose_spec (pdv 0) (pdv 1))))))), ?_⟩)
  intro ds g Q h
  obtain ⟨a0, a1, a2, rfl, h⟩ := sp3_of h
  rw [show startD N_Family___init__ [a0, a1, a2] = [some a0, some a1, some a2, none] from rfl]
  obtain ⟨p, n, S, e1, e2, e3, n1, n8, hS, hl, hg, k⟩ := h
  subst e1 e2 e3
  have hal := allL_len n8 S
  walk_at "rr14"
  refine ⟨rfl, 1, 8, rfl, rfl, ?_⟩
  rw [isWi_at (by omega) (by omega)]
  walk_at "rr14"
  refine ⟨n, S, rfl, rfl, n8, hS, hl, ?_⟩
  walk_at "rr14"
  refine ⟨closL n S, .inl rfl, by unfold closL; rw [List.length_mergeSort]; have := inL_len n8 S; omega, ?_⟩
  rw [size_clos]
  walk_at "rr14"
  refine rd_zK (by rw [List.length_map]; omega) (dc_rep (ks := []) (kf := keyF) (v := .bl true) (fun d hd => ?_) ?_)
  · obtain ⟨x, hx, e⟩ := tI_mem hd
    subst e
    refine ⟨_, tI x, rfl, by rw [keyF_tI]; exact keyT_tI x, fun Q2 h2 => ?_, fun Q2 h2 => ?_⟩
    · walk_at "rr14"
      exact h2
    · walk_at "rr14"
      exact h2
  · rw [fold_keyF, allL_fold]
    walk_at "rr14"
    refine ⟨allL n S, rfl, by omega, fun x hx => (sub_crn n8 (allL_sub hx)).1, ?_⟩
    walk_at "rr14"
    rw [gup_gup, gup_gup, gup_gup]
    exact dret k

abbrev s_Family_euler : Stmt := inClass (topS 30) 5
abbrev N_Family_euler : List Str := ["self", "chosen"]
theorem sc_Family_euler : FnScope N_Family_euler ["self"] (defScope s_Family_euler) := ⟨rfl, rfl, rfl, by decide +kernel, rfl, by decide +kernel, by decide +kernel⟩
abbrev sp_Family_euler (c_KeptSets c_Family : Addr) : SpD :=
  sp1 fun a g P => ∃ (n : Nat) (A : List (List Int)), a = famD c_Family n A ∧ A.length ≤ 300 ∧ P (.int (eulL A)) g

local macro_rules | `(tactic| walk_at "rr15") => `(tactic| (repeat (first | (with_reducible first | refine rd_seq ?_ | refine rd_seqE ?_ | refine rd_next ?_ | refine rd_rtE ?_ | refine rd_nxE ?_ | refine rd_nx ?_ | refine rd_rt ?_ | refine rd_drop ?_ | refine rd_ret ?_ | refine rd_c ?_ | refine rd_op ?_ | refine rd_un ?_ | refine rd_b ?_ | refine rd_bK ?_ | refine rd_ifE ?_ | refine rd_nil ?_ | refine rd_cons ?_ | refine rd_cb ?_ | refine rd_call ?_ | refine rd_sp1 ?_ | refine rd_sp2 ?_ | refine rd_sp3 ?_ | refine rd_lc ?_ | refine rd_yes ?_ | refine rd_wseq ?_ | refine rd_wsT ?_ | refine rd_wsL ?_ | refine rd_wsS ?_ | refine rd_ng ?_ | refine rd_fld ?_ | refine rd_itet ?_ | refine rd_itef ?_ | refine rd_itnt ?_ | refine rd_itnf ?_) | ((with_reducible apply rd_flI); (· exact rfl)) | ((with_reducible apply rd_flR); (· (first | assumption | exact gup_same)); (· exact rfl)) | ((with_reducible apply rd_var); (· exact rfl)) | ((with_reducible apply rd_len); (· (first | assumption | exact seqD_ref (by assumption) | exact seqD_up | exact lstD_ref (by assumption) | exact lstD_up | rfl))))))
theorem ok_Family_euler {P : Program} {w : World} {K : Fg} {mg : Str → Option Value} {base : Heap} {t_FAR_PRIME t_MAX_CORNERS t_MAX_FIELD t_MAX_PASSED : Tok} {c_KeptSets c_Family : Addr} {f : Addr} {fd : FuncData} (D : Prp K c_Family "euler" "Family.euler" s_Family_euler ["self"] f fd) (T : Txt P K mg t_FAR_PRIME t_MAX_CORNERS t_MAX_FIELD t_MAX_PASSED c_KeptSets c_Family) :
    FnOk P w K mg base CX0 1 f fd ["self"] (upSp K (sp_Family_euler c_KeptSets c_Family)) := by
  refine fun_okD D.fn sc_Family_euler (fun ds g Q h => len1 h) (fun cdv A outer s H E hr => ⟨_, (pds_one (pds_ret (pd_callB (cr_sumS rfl) ref_sumS T.b_sum (by decide +kernel) (pda_cons (pd_lc (own := [("chosen", 1)]) (tg := .nm 1) rfl sc_Family_euler.nd (pid_seq (pd_fld T.F_Family.sc T.s_Family_own_sets.choose_spec (pdv 0))) (blkOk_by (own := [("chosen", 1)]) (N := N_Family_euler) (sc := defScope s_Family_euler) (by decide +kernel)) (fun _ _ _ _ _ => (pgd_nm (i := 1) sc_Family_euler.nd)) (fun _ _ _ _ _ => ptsd_nil) (fun _ _ _ _ _ => (pd_ifExp (pt_cmpD (op_eqD hr.units) (RefCmp.op ref_eq) (pd_mod (pd_callB call_len_seq ref_len T.b_len (by decide +kernel) (pda_cons (pdv 1) pda_nil)) pd_int) pd_int (nomark _)) pd_int (pd_neg pd_int)))) pda_nil)))), ?_⟩)
  intro ds g Q h
  obtain ⟨a0, rfl, h⟩ := sp1_of h
  rw [show startD N_Family_euler [a0] = [some a0, none] from rfl]
  obtain ⟨n, A, e1, hl, k⟩ := h
  subst e1
  walk_at "rr15"
  refine rd_zK (by rw [List.length_map]; omega) (comp_map (f := sgF) (fun d hd => ?_) ?_)
  · obtain ⟨x, hx, e⟩ := tI_mem hd
    subst e
    refine ⟨_, rfl, fun Q2 h2 => ?_⟩
    rw [sgF_tI] at h2
    unfold sgI at h2
    walk_at "rr15"
    refine rd_rI (by decide) ?_
    walk_at "rr15"
    refine rd_eq (okD_int _) (okD_int _) ?_
    rw [eqD_int, List.length_map]
    refine rd_itei (c := (x.length : Int) % 2 = 1) (fun c => ?_) (fun c => ?_)
    · rw [if_pos c] at h2
      walk_at "rr15"
      exact h2
    · rw [if_neg c] at h2
      walk_at "rr15"
      exact h2
  · rw [sg_map]
    walk_at "rr15"
    refine rd_sumS (ns := A.map sgI) rfl ?_
    walk_at "rr15"
    exact dret k

abbrev s_Family_holes : Stmt := inClass (topS 30) 8
abbrev N_Family_holes : List Str := ["self", "prime"]
theorem sc_Family_holes : FnScope N_Family_holes ["self", "prime"] (defScope s_Family_holes) := ⟨rfl, rfl, rfl, by decide +kernel, rfl, by decide +kernel, by decide +kernel⟩
abbrev sp_Family_holes (c_KeptSets c_Family : Addr) : SpD :=
  sp2 fun a b g P => ∃ (n : Nat) (A : List (List Int)) (p : Int), a = famD c_Family n A ∧ b = .int p ∧ Fld p ∧ LA.Cpx A ∧ A.length ≤ 300 ∧ (∀ x ∈ A, x ∈ subsL 7) ∧ P (.tup ((LA.holesV (LA.modP (qOf p)) A).map DV.int)) g

local macro_rules | `(tactic| walk_at "rr16") => `(tactic| (repeat (first | (with_reducible first | refine rd_seq ?_ | refine rd_seqE ?_ | refine rd_next ?_ | refine rd_rtE ?_ | refine rd_nxE ?_ | refine rd_nx ?_ | refine rd_rt ?_ | refine rd_drop ?_ | refine rd_ret ?_ | refine rd_c ?_ | refine rd_op ?_ | refine rd_b ?_ | refine rd_bK ?_ | refine rd_nil ?_ | refine rd_cons ?_ | refine rd_cb ?_ | refine rd_call ?_ | refine rd_sp1 ?_ | refine rd_sp2 ?_ | refine rd_sp3 ?_ | refine rd_fld ?_ | refine rd_itet ?_ | refine rd_itef ?_ | refine rd_itnt ?_ | refine rd_itnf ?_) | ((with_reducible apply rd_flI); (· exact rfl)) | ((with_reducible apply rd_flR); (· (first | assumption | exact gup_same)); (· exact rfl)) | ((with_reducible apply rd_var); (· exact rfl)))))
theorem ok_Family_holes {P : Program} {w : World} {K : Fg} {mg : Str → Option Value} {base : Heap} {t_FAR_PRIME t_MAX_CORNERS t_MAX_FIELD t_MAX_PASSED : Tok} {c_KeptSets c_Family : Addr} {f f_holes_in f_require_field : Addr} {fd d_holes_in d_require_field : FuncData} (D : MtdD K c_Family "holes" "Family.holes" s_Family_holes ["self", "prime"] [0] f fd) (T : Txt P K mg t_FAR_PRIME t_MAX_CORNERS t_MAX_FIELD t_MAX_PASSED c_KeptSets c_Family) (D_holes_in : Dfn K mg "holes_in" s_holes_in ["sets", "prime"] f_holes_in d_holes_in) (G_holes_in : FnOk P w K mg base CX0 3 f_holes_in d_holes_in ["sets", "prime"] (upSp K (sp_holes_in c_KeptSets c_Family))) (D_require_field : Dfn K mg "require_field" s_require_field ["prime"] f_require_field d_require_field) (G_require_field : FnOk P w K mg base CX0 4 f_require_field d_require_field ["prime"] (upSp K (sp_require_field c_KeptSets c_Family))) :
    FnOk P w K mg base CX0 5 f fd ["self", "prime"] (upSp K (sp_Family_holes c_KeptSets c_Family)) := by
  refine fun_okDD D.fn sc_Family_holes (fun ds g Q h => len2 h) (fun cdv A outer s H E hr => ⟨_, (pds_cons (pds_expr (pd_call G_require_field (hr.mono (by decide)) D_require_field.at_ D_require_field.fn.kp D_require_field.bd pass0 (pda_cons (pdv 1) pda_nil))) (pds_one (pds_ret (pd_call G_holes_in (hr.mono (by decide)) D_holes_in.at_ D_holes_in.fn.kp D_holes_in.bd pass0 (pda_cons (pd_fld T.F_Family.sc T.s_Family_own_sets.choose_spec (pdv 0)) (pda_cons (pdv 1) pda_nil)))))), ?_⟩)
  intro ds g Q h
  obtain ⟨a0, a1, rfl, h⟩ := sp2_of h
  rw [show startD N_Family_holes [a0, a1] = [some a0, some a1] from rfl]
  obtain ⟨n, A, p, e1, e2, hf, hA, hl, h7, k⟩ := h
  subst e1 e2
  walk_at "rr16"
  refine ⟨p, rfl, hf, ?_⟩
  walk_at "rr16"
  refine ⟨A, p, rfl, rfl, hf, hA, hl, h7, ?_⟩
  exact dret k

abbrev s_Family___iter__ : Stmt := inClass (topS 30) 12
abbrev N_Family___iter__ : List Str := ["self"]
theorem sc_Family___iter__ : FnScope N_Family___iter__ ["self"] (defScope s_Family___iter__) := ⟨rfl, rfl, rfl, by decide +kernel, rfl, by decide +kernel, by decide +kernel⟩

theorem ok_Family___iter__ {P : Program} {w : World} {K : Fg} {mg : Str → Option Value} {base : Heap} {t_FAR_PRIME t_MAX_CORNERS t_MAX_FIELD t_MAX_PASSED : Tok} {c_KeptSets c_Family : Addr} {f : Addr} {fd : FuncData} (D : Mtd K c_Family "__iter__" "Family.__iter__" s_Family___iter__ ["self"] f fd) (T : Txt P K mg t_FAR_PRIME t_MAX_CORNERS t_MAX_FIELD t_MAX_PASSED c_KeptSets c_Family) :
    FnAt P w K mg base 2 f (spIl K c_Family 3) := by
  refine fun_at D.fn D.bd sc_Family___iter__ (fun n vs H Q E h => by obtain ⟨a, sl, l, zs, rfl, _⟩ := h; rfl) (fun cdv A outer s H vs Q hr h => ⟨_, (pss_one (ps_ret (pe_callB cr_iterL (by rfl) T.b_iter (by decide +kernel) (pa_cons (pe_insF (pv 0) T.F_Family.sc T.s_Family_own_sets.choose_spec) pa_nil)))), ?_⟩)
  obtain ⟨a, sl, l, zs, e, h2⟩ := id h
  subst e
  exact spIl_body h rfl rfl

abbrev s_qpot : Stmt := topS 33
abbrev N_qpot : List Str := ["_law_script", "_law_at", "_law_cell", "_law_great", "_law_mixed_here"]
theorem sc_qpot : FnScope N_qpot ["_law_script", "_law_at"] (defScope s_qpot) := ⟨rfl, rfl, rfl, by decide +kernel, rfl, by decide +kernel, by decide +kernel⟩
abbrev sp_qpot (c_KeptSets c_Family : Addr) : SpD :=
  sp2 fun a b g P => ∃ (ns : List Int) (i : Nat), a = .scr ns ∧ b = .int (i : Nat) ∧ i < 4 ∧ ∀ p L, g p = none → PotF 0 L → P (.ref p) (gup g p (.lst L))

local macro_rules | `(tactic| walk_at "rr17") => `(tactic| (repeat (first | (with_reducible first | refine rd_seq ?_ | refine rd_seqE ?_ | refine rd_next ?_ | refine rd_rtE ?_ | refine rd_nxE ?_ | refine rd_nx ?_ | refine rd_rt ?_ | refine rd_drop ?_ | refine rd_ret ?_ | refine rd_asg ?_ | refine rd_c ?_ | refine rd_op ?_ | refine rd_b ?_ | refine rd_bK ?_ | refine rd_ifE ?_ | refine rd_nil ?_ | refine rd_cons ?_ | refine rd_lst ?_ | refine rd_lstM ?_ | refine rd_cb ?_ | refine rd_call ?_ | refine rd_sp1 ?_ | refine rd_sp2 ?_ | refine rd_sp3 ?_ | refine rd_int ?_ | refine rd_intb ?_ | refine rd_abs ?_ | refine rd_ii ?_ | refine rd_add ?_ | refine rd_sub ?_ | refine rd_cmp ?_ | refine rd_itet ?_ | refine rd_itef ?_ | refine rd_itnt ?_ | refine rd_itnf ?_) | ((with_reducible apply rd_var); (· exact rfl)) | ((with_reducible apply rd_asgK); (· exact rfl)) | ((with_reducible apply rd_len); (· (first | assumption | exact seqD_ref (by assumption) | exact seqD_up | exact lstD_ref (by assumption) | exact lstD_up | rfl))) | ((with_reducible apply rd_ix); (· (first | assumption | exact seqD_ref (by assumption) | exact seqD_up | exact lstD_ref (by assumption) | exact lstD_up | rfl)); (· (first | exact atI_c0 _ _ | exact atI_c1 _ _ _ | exact atI_c2 _ _ _ _ | assumption | rfl))))))
theorem ok_qpot {P : Program} {w : World} {K : Fg} {mg : Str → Option Value} {base : Heap} {t_FAR_PRIME t_MAX_CORNERS t_MAX_FIELD t_MAX_PASSED : Tok} {c_KeptSets c_Family : Addr} {f : Addr} {fd : FuncData} (D : Dfn K mg "_law_pot" s_qpot ["_law_script", "_law_at"] f fd) (T : Txt P K mg t_FAR_PRIME t_MAX_CORNERS t_MAX_FIELD t_MAX_PASSED c_KeptSets c_Family) :
    FnOk P w K mg base CX0 1 f fd ["_law_script", "_law_at"] (upSp K (sp_qpot c_KeptSets c_Family)) := by
  refine fun_okD D.fn sc_qpot (fun ds g Q h => len2 h) (fun cdv A outer s H E hr => ⟨_, (pds_cons (pds_set (i := 2) sc_qpot.nd (pd_ifExp (pt_cmpD op_lt (RefCmp.op ref_cmp) (pdv 1) (pd_callB call_len_seq ref_len T.b_len (by decide +kernel) (pda_cons (pdv 0) pda_nil)) (nomark _)) (pd_ix (pdv 0) (pdv 1)) (pd_add (pd_mulI pd_int (pdv 1)) pd_int))) (pds_cons (pds_set (i := 3) sc_qpot.nd (pd_mod (pd_callTy call_int1 ref_int T.b_int (by decide +kernel) (pda_cons (pd_callB call_abs ref_abs T.b_abs (by decide +kernel) (pda_cons (pdv 2) pda_nil)) pda_nil)) (pd_pow (pd_pow pd_int pd_int) pd_int))) (pds_cons (pds_set (i := 4) sc_qpot.nd (pd_add (pd_add (pd_add (pd_mulI (pd_mod (pd_callTy call_int1 ref_int T.b_int (by decide +kernel) (pda_cons (pdv 3) pda_nil)) pd_int) pd_int) (pd_mulI pd_int (pdv 1))) (pd_mulI pd_int (pd_callTy call_int1 ref_int T.b_int (by decide +kernel) (pda_cons (pd_cmp op_lt (RefCmp.op ref_cmp) (pdv 2) pd_int (nomark _)) pda_nil)))) pd_int)) (pds_one (pds_ret (pd_lstM (pda_cons (pd_callB (call_max2 rfl) ref_II T.b_max (by decide +kernel) (pda_cons pd_int (pda_cons (pd_add (pd_sub (pdv 3) (pd_pow pd_int pd_int)) pd_int) pda_nil))) (pda_cons (pd_mod (pd_callTy call_int1 ref_int T.b_int (by decide +kernel) (pda_cons (pdv 4) pda_nil)) pd_int) (pda_cons pd_int pda_nil))))))))), ?_⟩)
  intro ds g Q h
  obtain ⟨a0, a1, rfl, h⟩ := sp2_of h
  rw [show startD N_qpot [a0, a1] = [some a0, some a1, none, none, none] from rfl]
  obtain ⟨ns, i, e1, e2, h1, k⟩ := h
  subst e1 e2
  walk_at "rr17"
  refine rd_iteb (fun c => ?_) (fun c => ?_)
  walk_at "rr17"
  have c' : i < ns.length := by simpa using c
  (with_reducible apply rd_ix)
  · rfl
  · exact atI_ints c'
  generalize ns[i] = cell
  rotate_left
  walk_at "rr17"
  refine rd_rI (mulW (by omega) (by omega) (by omega) (by omega)) ?_
  walk_at "rr17"
  generalize 83 * (i : Int) + 31 = cell
  all_goals walk_at "rr17"
  all_goals refine rd_rI (powW (by decide +kernel)) ?_
  all_goals walk_at "rr17"
  all_goals refine rd_rI (powW (by decide +kernel)) ?_
  all_goals walk_at "rr17"
  all_goals refine rd_rI (by decide +kernel) ?_
  all_goals generalize (if cell < 0 then -cell else cell) % (10 ^ Int.toNat 59) ^ Int.toNat 8 = gr
  all_goals walk_at "rr17"
  all_goals refine rd_rI (by decide) ?_
  all_goals have b1 := Int.emod_nonneg gr (b := 1152921504606846883) (by decide)
  all_goals have b2 := Int.emod_lt_of_pos gr (b := 1152921504606846883) (by decide)
  all_goals generalize gr % 1152921504606846883 = m1 at b1 b2 ⊢
  all_goals walk_at "rr17"
  all_goals refine rd_rI (mulW (by omega) (by omega) (by omega) (by omega)) ?_
  all_goals walk_at "rr17"
  all_goals refine rd_rI (mulW (by omega) (by omega) (by omega) (by omega)) ?_
  all_goals walk_at "rr17"
  all_goals have b4 : 0 ≤ (if decide (cell < 0) = true then (1 : Int) else 0) ∧ (if decide (cell < 0) = true then (1 : Int) else 0) ≤ 1 := by split <;> decide
  all_goals generalize (if decide (cell < 0) = true then (1 : Int) else 0) = m2 at b4 ⊢
  all_goals refine rd_rI (mulW (by omega) (by omega) (by omega) (by omega)) ?_
  all_goals walk_at "rr17"
  all_goals refine rd_rI (powW (by decide +kernel)) ?_
  all_goals walk_at "rr17"
  all_goals refine rd_rI (by decide) ?_
  all_goals walk_at "rr17"
  all_goals refine rd_zK (by show 3 ≤ 16777216; decide) ?_
  all_goals intro p hp
  all_goals walk_at "rr17"
  all_goals exact dret (k p _ hp ⟨_, _, _, rfl, Int.emod_nonneg _ (by decide), Int.emod_lt_of_pos _ (by decide), by decide, by decide⟩)

abbrev s_qdip : Stmt := topS 34
abbrev N_qdip : List Str := ["_law_pot_here", "_law_total", "_law_one", "_law_two", "_law_found"]
theorem sc_qdip : FnScope N_qdip ["_law_pot_here", "_law_total"] (defScope s_qdip) := ⟨rfl, rfl, rfl, by decide +kernel, rfl, by decide +kernel, by decide +kernel⟩
abbrev sp_qdip (c_KeptSets c_Family : Addr) : SpD :=
  sp2 fun a b g P => ∃ p t n L, a = .ref p ∧ b = .int t ∧ 0 < t ∧ t.natAbs < 2 ^ 110 ∧ g p = some (.lst L) ∧ PotF n L ∧ n ≤ 100000 ∧ ∀ r L', 0 ≤ r → r < t → PotF (n + 1) L' → P (.int r) (gup g p (.lst L'))

local macro_rules | `(tactic| walk_at "rr18") => `(tactic| (repeat (first | (with_reducible first | refine rd_seq ?_ | refine rd_seqE ?_ | refine rd_next ?_ | refine rd_rtE ?_ | refine rd_nxE ?_ | refine rd_nx ?_ | refine rd_rt ?_ | refine rd_drop ?_ | refine rd_ret ?_ | refine rd_dif ?_ | refine rd_asg ?_ | refine rd_c ?_ | refine rd_op ?_ | refine rd_b ?_ | refine rd_bK ?_ | refine rd_nil ?_ | refine rd_cons ?_ | refine rd_cb ?_ | refine rd_call ?_ | refine rd_sp1 ?_ | refine rd_sp2 ?_ | refine rd_sp3 ?_ | refine rd_int ?_ | refine rd_intb ?_ | refine rd_add ?_ | refine rd_cmp ?_ | refine rd_setI ?_ | refine rd_itet ?_ | refine rd_itef ?_ | refine rd_itnt ?_ | refine rd_itnf ?_) | ((with_reducible apply rd_var); (· exact rfl)) | ((with_reducible apply rd_asgK); (· exact rfl)) | ((with_reducible apply rd_ix); (· (first | assumption | exact seqD_ref (by assumption) | exact seqD_up | exact lstD_ref (by assumption) | exact lstD_up | rfl)); (· (first | exact atI_c0 _ _ | exact atI_c1 _ _ _ | exact atI_c2 _ _ _ _ | assumption | rfl))) | ((with_reducible apply rd_set30); (· (first | assumption | exact gup_same))) | ((with_reducible apply rd_set32); (· (first | assumption | exact gup_same))))))
theorem ok_qdip {P : Program} {w : World} {K : Fg} {mg : Str → Option Value} {base : Heap} {t_FAR_PRIME t_MAX_CORNERS t_MAX_FIELD t_MAX_PASSED : Tok} {c_KeptSets c_Family : Addr} {f : Addr} {fd : FuncData} (D : Dfn K mg "_law_dip" s_qdip ["_law_pot_here", "_law_total"] f fd) (T : Txt P K mg t_FAR_PRIME t_MAX_CORNERS t_MAX_FIELD t_MAX_PASSED c_KeptSets c_Family) :
    FnOk P w K mg base CX0 1 f fd ["_law_pot_here", "_law_total"] (upSp K (sp_qdip c_KeptSets c_Family)) := by
  refine fun_okD D.fn sc_qdip (fun ds g Q h => len2 h) (fun cdv A outer s H E hr => ⟨_, (pds_cons (pds_if (pt_cmpD op_gt (RefCmp.op ref_cmp) (pd_ix (pdv 0) pd_int) pd_int (nomark _)) (pds_cons (pds_set (i := 4) sc_qdip.nd (pd_mod (pd_callTy call_int1 ref_int T.b_int (by decide +kernel) (pda_cons (pd_ix (pdv 0) pd_int) pda_nil)) (pdv 1))) (pds_cons (pds_setI (pd_fdiv (pd_ix (pdv 0) pd_int) (pdv 1)) (pdv 0) pd_int) (pds_one (pds_ret (pdv 4))))) pds_nil) (pds_cons (pds_setI (pd_add (pd_ix (pdv 0) pd_int) pd_int) (pdv 0) pd_int) (pds_cons (pds_set (i := 2) sc_qdip.nd (pd_mod (pd_callTy call_int1 ref_int T.b_int (by decide +kernel) (pda_cons (pd_add (pd_ix (pdv 0) pd_int) (pd_mulI pd_int (pd_ix (pdv 0) pd_int))) pda_nil)) pd_int)) (pds_cons (pds_set (i := 3) sc_qdip.nd (pd_add (pd_mulI (pd_mod (pd_callTy call_int1 ref_int T.b_int (by decide +kernel) (pda_cons (pd_mulI (pdv 2) (pdv 2)) pda_nil)) pd_int) (pdv 2)) (pd_mulI pd_int (pd_ix (pdv 0) pd_int)))) (pds_one (pds_ret (pd_mod (pd_callTy call_int1 ref_int T.b_int (by decide +kernel) (pda_cons (pd_fdiv (pd_mod (pd_callTy call_int1 ref_int T.b_int (by decide +kernel) (pda_cons (pdv 3) pda_nil)) pd_int) pd_int) pda_nil)) (pdv 1)))))))), ?_⟩)
  intro ds g Q h
  obtain ⟨a0, a1, rfl, h⟩ := sp2_of h
  rw [show startD N_qdip [a0, a1] = [some a0, some a1, none, none, none] from rfl]
  obtain ⟨p, t, n, L, e1, e2, h1, h2, hg, ⟨u, v, kk, eL, v0, v1, k0, k1⟩, hn, k⟩ := h
  subst e1 e2 eL
  walk_at "rr18"
  refine rd_itei (c := 0 < u) (fun c => ?_) (fun c => ?_)
  · walk_at "rr18"
    refine rd_rI h1 ?_
    walk_at "rr18"
    refine rd_rI (wide_div h1 h2 (by decide) (by decide)) ?_
    walk_at "rr18"
    exact dret (k _ _ (Int.emod_nonneg _ (by omega)) (Int.emod_lt_of_pos _ h1) ⟨_, _, _, rfl, v0, v1, k0, by omega⟩)
  · walk_at "rr18"
    refine rd_rI (mulW (by omega) (by omega) (by omega) (by omega)) ?_
    walk_at "rr18"
    refine rd_rI (by decide) ?_
    have b1 := Int.emod_nonneg (v + 1000213 * (kk + 1)) (b := 2305843009213693951) (by decide)
    have b2 := Int.emod_lt_of_pos (v + 1000213 * (kk + 1)) (b := 2305843009213693951) (by decide)
    generalize (v + 1000213 * (kk + 1)) % 2305843009213693951 = o1 at b1 b2 ⊢
    walk_at "rr18"
    refine rd_rI (mulW (by omega) (by omega) (by omega) (by omega)) ?_
    walk_at "rr18"
    refine rd_rI (by decide) ?_
    have b3 := Int.emod_nonneg (o1 * o1) (b := 2305843009213693907) (by decide)
    have b4 := Int.emod_lt_of_pos (o1 * o1) (b := 2305843009213693907) (by decide)
    generalize (o1 * o1) % 2305843009213693907 = o2 at b3 b4 ⊢
    walk_at "rr18"
    refine rd_rI (mulW (by omega) (by omega) (by omega) (by omega)) ?_
    walk_at "rr18"
    refine rd_rI (mulW (by omega) (by omega) (by omega) (by omega)) ?_
    walk_at "rr18"
    refine rd_rI (by decide) ?_
    walk_at "rr18"
    refine rd_rI (divW (by decide) (by decide)) ?_
    walk_at "rr18"
    refine rd_rI h1 ?_
    walk_at "rr18"
    exact dret (k _ _ (Int.emod_nonneg _ (by omega)) (Int.emod_lt_of_pos _ h1) ⟨_, _, _, rfl, v0, v1, by omega, by omega⟩)

abbrev s_qpick : Stmt := topS 35
abbrev N_qpick : List Str := ["_law_pot_here", "_law_items"]
theorem sc_qpick : FnScope N_qpick ["_law_pot_here", "_law_items"] (defScope s_qpick) := ⟨rfl, rfl, rfl, by decide +kernel, rfl, by decide +kernel, by decide +kernel⟩
abbrev sp_qpick (c_KeptSets c_Family : Addr) : SpD :=
  sp2 fun a b g P => ∃ p ds n L, a = .ref p ∧ b = .lst ds ∧ ds ≠ [] ∧ ds.length < 100000 ∧ g p = some (.lst L) ∧ PotF n L ∧ n ≤ 100000 ∧ ∀ d ∈ ds, ∀ L', PotF (n + 1) L' → P d (gup g p (.lst L'))

local macro_rules | `(tactic| walk_at "rr19") => `(tactic| (repeat (first | (with_reducible first | refine rd_seq ?_ | refine rd_seqE ?_ | refine rd_next ?_ | refine rd_rtE ?_ | refine rd_nxE ?_ | refine rd_nx ?_ | refine rd_rt ?_ | refine rd_drop ?_ | refine rd_ret ?_ | refine rd_c ?_ | refine rd_op ?_ | refine rd_b ?_ | refine rd_bK ?_ | refine rd_nil ?_ | refine rd_cons ?_ | refine rd_cb ?_ | refine rd_call ?_ | refine rd_sp1 ?_ | refine rd_sp2 ?_ | refine rd_sp3 ?_ | refine rd_itet ?_ | refine rd_itef ?_ | refine rd_itnt ?_ | refine rd_itnf ?_) | ((with_reducible apply rd_var); (· exact rfl)) | ((with_reducible apply rd_len); (· (first | assumption | exact seqD_ref (by assumption) | exact seqD_up | exact lstD_ref (by assumption) | exact lstD_up | rfl))) | ((with_reducible apply rd_ix); (· (first | assumption | exact seqD_ref (by assumption) | exact seqD_up | exact lstD_ref (by assumption) | exact lstD_up | rfl)); (· (first | exact atI_c0 _ _ | exact atI_c1 _ _ _ | exact atI_c2 _ _ _ _ | assumption | rfl))))))
theorem ok_qpick {P : Program} {w : World} {K : Fg} {mg : Str → Option Value} {base : Heap} {t_FAR_PRIME t_MAX_CORNERS t_MAX_FIELD t_MAX_PASSED : Tok} {c_KeptSets c_Family : Addr} {f f_qdip : Addr} {fd d_qdip : FuncData} (D : Dfn K mg "_law_pick" s_qpick ["_law_pot_here", "_law_items"] f fd) (T : Txt P K mg t_FAR_PRIME t_MAX_CORNERS t_MAX_FIELD t_MAX_PASSED c_KeptSets c_Family) (D_qdip : Dfn K mg "_law_dip" s_qdip ["_law_pot_here", "_law_total"] f_qdip d_qdip) (G_qdip : FnOk P w K mg base CX0 1 f_qdip d_qdip ["_law_pot_here", "_law_total"] (upSp K (sp_qdip c_KeptSets c_Family))) :
    FnOk P w K mg base CX0 2 f fd ["_law_pot_here", "_law_items"] (upSp K (sp_qpick c_KeptSets c_Family)) := by
  refine fun_okD D.fn sc_qpick (fun ds g Q h => len2 h) (fun cdv A outer s H E hr => ⟨_, (pds_one (pds_ret (pd_ix (pdv 1) (pd_call G_qdip (hr.mono (by decide)) D_qdip.at_ D_qdip.fn.kp D_qdip.bd pass0 (pda_cons (pdv 0) (pda_cons (pd_callB call_len_seq ref_len T.b_len (by decide +kernel) (pda_cons (pdv 1) pda_nil)) pda_nil)))))), ?_⟩)
  intro ds g Q h
  obtain ⟨a0, a1, rfl, h⟩ := sp2_of h
  rw [show startD N_qpick [a0, a1] = [some a0, some a1] from rfl]
  obtain ⟨p, ds, n, L, e1, e2, h1, h2, hg, hp, hn, k⟩ := h
  subst e1 e2
  have hl : 1 ≤ ds.length := List.length_pos_iff.mpr h1
  walk_at "rr19"
  refine ⟨p, _, n, L, rfl, rfl, by omega, Nat.lt_trans (show (ds.length : Int).natAbs < 100000 by omega) (by decide), hg, hp, hn, fun r L' r0 r1 hp' => ?_⟩
  obtain ⟨j, rfl⟩ := Int.eq_ofNat_of_zero_le r0
  have hj : j < ds.length := by omega
  (with_reducible apply rd_ix)
  · rfl
  · exact atI_nat (List.getElem?_eq_getElem hj)
  walk_at "rr19"
  exact dret (k _ (List.getElem_mem hj) _ hp')

abbrev s_qsubsets : Stmt := topS 36
abbrev N_qsubsets : List Str := ["_law_size", "_law_found", "_law_corner", "_law_one"]
theorem sc_qsubsets : FnScope N_qsubsets ["_law_size"] (defScope s_qsubsets) := ⟨rfl, rfl, rfl, by decide +kernel, rfl, by decide +kernel, by decide +kernel⟩
abbrev sp_qsubsets (c_KeptSets c_Family : Addr) : SpD :=
  sp1 fun a g P => ∃ n : Nat, a = .int (n : Int) ∧ n ≤ 8 ∧ P (.lst ((subsL n).map tI)) g

local macro_rules | `(tactic| walk_at "rr20") => `(tactic| (repeat (first | (with_reducible first | refine rd_seq ?_ | refine rd_seqE ?_ | refine rd_next ?_ | refine rd_rtE ?_ | refine rd_nxE ?_ | refine rd_nx ?_ | refine rd_rt ?_ | refine rd_ct ?_ | refine rd_bk ?_ | refine rd_drop ?_ | refine rd_ret ?_ | refine rd_asg ?_ | refine rd_for ?_ | refine rd_c ?_ | refine rd_op ?_ | refine rd_b ?_ | refine rd_bK ?_ | refine rd_nil ?_ | refine rd_cons ?_ | refine rd_tup ?_ | refine rd_lst ?_ | refine rd_cb ?_ | refine rd_call ?_ | refine rd_sp1 ?_ | refine rd_sp2 ?_ | refine rd_sp3 ?_ | refine rd_add ?_ | refine rd_lc ?_ | refine rd_yes ?_ | refine rd_wseq ?_ | refine rd_wsT ?_ | refine rd_wsL ?_ | refine rd_wsS ?_ | refine rd_rng1 ?_ | refine rd_itet ?_ | refine rd_itef ?_ | refine rd_itnt ?_ | refine rd_itnf ?_) | ((with_reducible apply rd_var); (· exact rfl)) | ((with_reducible apply rd_asgK); (· exact rfl)))))
theorem ok_qsubsets {P : Program} {w : World} {K : Fg} {mg : Str → Option Value} {base : Heap} {t_FAR_PRIME t_MAX_CORNERS t_MAX_FIELD t_MAX_PASSED : Tok} {c_KeptSets c_Family : Addr} {f : Addr} {fd : FuncData} (D : Dfn K mg "_law_subsets" s_qsubsets ["_law_size"] f fd) (T : Txt P K mg t_FAR_PRIME t_MAX_CORNERS t_MAX_FIELD t_MAX_PASSED c_KeptSets c_Family) :
    FnOk P w K mg base CX0 1 f fd ["_law_size"] (upSp K (sp_qsubsets c_KeptSets c_Family)) := by
  refine fun_okD D.fn sc_qsubsets (fun ds g Q h => len1 h) (fun cdv A outer s H E hr => ⟨_, (pds_cons (pds_set (i := 1) sc_qsubsets.nd (pd_lst (pda_cons (pd_tup pda_nil) pda_nil))) (pds_cons (pds_for (tg := .nm 2) PassesOwn.never rfl (pid_range1 T.b_range (pda_cons (pdv 0) pda_nil)) (pgd_nm (i := 2) sc_qsubsets.nd) (pds_one (pds_set (i := 1) sc_qsubsets.nd (pd_add (pdv 1) (pd_lc (own := [("_law_one", 3)]) (tg := .nm 3) rfl sc_qsubsets.nd (pid_seq (pdv 1)) (blkOk_by (own := [("_law_one", 3)]) (N := N_qsubsets) (sc := defScope s_qsubsets) (by decide +kernel)) (fun _ _ _ _ _ => (pgd_nm (i := 3) sc_qsubsets.nd)) (fun _ _ _ _ _ => ptsd_nil) (fun _ _ _ _ _ => (pd_add (pdv 3) (pd_tup (pda_cons (pdv 2) pda_nil))))))))) (pds_one (pds_ret (pdv 1))))), ?_⟩)
  intro ds g Q h
  obtain ⟨a0, rfl, h⟩ := sp1_of h
  rw [show startD N_qsubsets [a0] = [some a0, none, none, none] from rfl]
  obtain ⟨n, e1, hn, k⟩ := h
  subst e1
  walk_at "rr20"
  refine rd_zK (by show 0 ≤ 16777216; decide) ?_
  walk_at "rr20"
  refine rd_zK (by show 1 ≤ 16777216; decide) ?_
  walk_at "rr20"
  refine rd_rng1K ⟨by omega, by omega⟩ ?_
  refine rd_loopX (I := fun i δ g' => g' = g ∧ ∃ v2 v3 : Option DV, δ = [some (.int (n : Int)), some (.lst ((subsL i).map tI)), v2, v3]) ⟨rfl, none, none, rfl⟩ ?_ ?_
  · intro i d hd δ g' f hf hI
    obtain ⟨eg, v2, v3, e⟩ := hI
    subst eg e
    obtain ⟨hi, e⟩ := rangeD_at hd
    subst e
    have hl := subsL_len i
    have hp : 2 ^ i ≤ 2 ^ 8 := Nat.pow_le_pow_right (by decide) (by omega)
    refine ⟨_, rfl, ?_⟩
    walk_at "rr20"
    refine rd_zK (by rw [List.length_map]; omega) (comp_map (f := endF i) (fun d hd => ?_) ?_)
    · obtain ⟨x, hx, e⟩ := tI_mem hd
      subst e
      have hx8 := subs_each i x hx
      refine ⟨_, rfl, fun Q2 h2 => ?_⟩
      walk_at "rr20"
      refine rd_zK (by show 1 ≤ 16777216; decide) ?_
      refine rd_addT (by rw [List.length_map]; show x.length + 1 ≤ 16777216; omega) ?_
      unfold endF at h2
      rw [oneT_tI, tI, List.map_append] at h2
      exact h2
    · rw [subs_map]
      refine rd_addL (by rw [List.length_map, List.length_map, List.length_map]; omega) ?_
      rw [← List.map_append]
      walk_at "rr20"
      exact hf _ _ ⟨rfl, _, _, rfl⟩
  · intro δ g' hI
    obtain ⟨eg, v2, v3, e⟩ := hI
    subst eg e
    rw [rangeD_len]
    walk_at "rr20"
    exact dret k

abbrev s_qinside : Stmt := topS 37
abbrev N_qinside : List Str := ["_law_one", "_law_other", "_law_corner"]
theorem sc_qinside : FnScope N_qinside ["_law_one", "_law_other"] (defScope s_qinside) := ⟨rfl, rfl, rfl, by decide +kernel, rfl, by decide +kernel, by decide +kernel⟩
abbrev sp_qinside (c_KeptSets c_Family : Addr) : SpD :=
  sp2 fun a b g P => ∃ x y : List Int, a = tI x ∧ b = tI y ∧ x.length ≤ 1000 ∧ P (.bl (insB x y)) g

local macro_rules | `(tactic| walk_at "rr21") => `(tactic| (repeat (first | (with_reducible first | refine rd_seq ?_ | refine rd_seqE ?_ | refine rd_next ?_ | refine rd_rtE ?_ | refine rd_nxE ?_ | refine rd_nx ?_ | refine rd_rt ?_ | refine rd_drop ?_ | refine rd_ret ?_ | refine rd_c ?_ | refine rd_op ?_ | refine rd_b ?_ | refine rd_bK ?_ | refine rd_nil ?_ | refine rd_cons ?_ | refine rd_lst ?_ | refine rd_cb ?_ | refine rd_call ?_ | refine rd_sp1 ?_ | refine rd_sp2 ?_ | refine rd_sp3 ?_ | refine rd_lc ?_ | refine rd_wseq ?_ | refine rd_wsT ?_ | refine rd_wsL ?_ | refine rd_wsS ?_ | refine rd_itet ?_ | refine rd_itef ?_ | refine rd_itnt ?_ | refine rd_itnf ?_) | ((with_reducible apply rd_var); (· exact rfl)))))
theorem ok_qinside {P : Program} {w : World} {K : Fg} {mg : Str → Option Value} {base : Heap} {t_FAR_PRIME t_MAX_CORNERS t_MAX_FIELD t_MAX_PASSED : Tok} {c_KeptSets c_Family : Addr} {f : Addr} {fd : FuncData} (D : Dfn K mg "_law_inside" s_qinside ["_law_one", "_law_other"] f fd) (T : Txt P K mg t_FAR_PRIME t_MAX_CORNERS t_MAX_FIELD t_MAX_PASSED c_KeptSets c_Family) :
    FnOk P w K mg base CX0 1 f fd ["_law_one", "_law_other"] (upSp K (sp_qinside c_KeptSets c_Family)) := by
  refine fun_okD D.fn sc_qinside (fun ds g Q h => len2 h) (fun cdv A outer s H E hr => ⟨_, (pds_one (pds_ret (pd_cmp (op_eqD hr.units) (RefCmp.op ref_eq) (pd_lc (own := [("_law_corner", 2)]) (tg := .nm 2) rfl sc_qinside.nd (pid_seq (pdv 0)) (blkOk_by (own := [("_law_corner", 2)]) (N := N_qinside) (sc := defScope s_qinside) (by decide +kernel)) (fun _ _ _ _ _ => (pgd_nm (i := 2) sc_qinside.nd)) (fun _ _ _ _ _ => (ptsd_one (pt_cmpD (op_notInTp (units65 hr)) (RefCmp.op ref_inTp) (pdv 2) (pdv 1) (by rfl)))) (fun _ _ _ _ _ => (pdv 2))) (pd_lst pda_nil) (nomark _)))), ?_⟩)
  intro ds g Q h
  obtain ⟨a0, a1, rfl, h⟩ := sp2_of h
  rw [show startD N_qinside [a0, a1] = [some a0, some a1, none] from rfl]
  obtain ⟨x, y, e1, e2, hl, k⟩ := h
  subst e1 e2
  walk_at "rr21"
  refine rd_zK (by rw [List.length_map]; omega) (comp_fil (p := notInF y) (f := fun d => d) (fun d hd => ?_) ?_)
  · obtain ⟨i, hi, e⟩ := List.mem_map.mp hd
    subst e
    refine ⟨_, rfl, fun Q' h' => ?_, fun _ Q2 h2 => ?_⟩
    · walk_at "rr21"
      refine rd_inTp (neg := true) (okD_int _) (okD_tI _) ?_
      rw [if_pos rfl, any_int]
      walk_at "rr21"
      exact h'
    · walk_at "rr21"
      exact h2
  · rw [lacks_map]
    walk_at "rr21"
    refine rd_zK (by show 0 ≤ 16777216; decide) ?_
    refine rd_eq (okD_lI' _) (okD_lI' []) ?_
    rw [eqD_nilL, lacks_nil]
    walk_at "rr21"
    exact dret k

abbrev s_qsets : Stmt := topS 38
abbrev N_qsets : List Str := ["_law_pot_here", "_law_size", "_law_sort", "_law_turn", "_law_every", "_law_found"]
theorem sc_qsets : FnScope N_qsets ["_law_pot_here", "_law_size"] (defScope s_qsets) := ⟨rfl, rfl, rfl, by decide +kernel, rfl, by decide +kernel, by decide +kernel⟩
abbrev sp_qsets (c_KeptSets c_Family : Addr) : SpD :=
  sp2 fun a b g P => ∃ (p : Addr) (n : Nat) (L : List DV) (m : Nat), a = .ref p ∧ b = .int (m : Int) ∧ m ≤ 8 ∧ g p = some (.lst L) ∧ PotF n L ∧ n ≤ 80000 ∧ ∀ (S : List (List Int)) L', (∀ x ∈ S, x ∈ subsL m) → S.length ≤ 7 → PotF (n + 10) L' → P (.lst (S.map tI)) (gup g p (.lst L'))

local macro_rules | `(tactic| walk_at "rr22") => `(tactic| (repeat (first | (with_reducible first | refine rd_seq ?_ | refine rd_seqE ?_ | refine rd_next ?_ | refine rd_rtE ?_ | refine rd_nxE ?_ | refine rd_nx ?_ | refine rd_rt ?_ | refine rd_ct ?_ | refine rd_bk ?_ | refine rd_drop ?_ | refine rd_ret ?_ | refine rd_dif ?_ | refine rd_asg ?_ | refine rd_par ?_ | refine rd_for ?_ | refine rd_c ?_ | refine rd_op ?_ | refine rd_b ?_ | refine rd_bK ?_ | refine rd_nil ?_ | refine rd_cons ?_ | refine rd_tup ?_ | refine rd_lst ?_ | refine rd_lstM ?_ | refine rd_cb ?_ | refine rd_call ?_ | refine rd_sp1 ?_ | refine rd_sp2 ?_ | refine rd_sp3 ?_ | refine rd_add ?_ | refine rd_mt ?_ | refine rd_rng1 ?_ | refine rd_itet ?_ | refine rd_itef ?_ | refine rd_itnt ?_ | refine rd_itnf ?_) | ((with_reducible apply rd_var); (· exact rfl)) | ((with_reducible apply rd_asgK); (· exact rfl)) | ((with_reducible apply rd_parK); (· exact rfl)) | ((with_reducible apply rd_some); (· (first | assumption | exact seqD_ref (by assumption) | exact seqD_up | exact lstD_ref (by assumption) | exact lstD_up | rfl))))))
theorem ok_qsets {P : Program} {w : World} {K : Fg} {mg : Str → Option Value} {base : Heap} {t_FAR_PRIME t_MAX_CORNERS t_MAX_FIELD t_MAX_PASSED : Tok} {c_KeptSets c_Family : Addr} {f f_qdip f_qpick f_qsubsets : Addr} {fd d_qdip d_qpick d_qsubsets : FuncData} (D : Dfn K mg "_law_sets" s_qsets ["_law_pot_here", "_law_size"] f fd) (T : Txt P K mg t_FAR_PRIME t_MAX_CORNERS t_MAX_FIELD t_MAX_PASSED c_KeptSets c_Family) (D_qdip : Dfn K mg "_law_dip" s_qdip ["_law_pot_here", "_law_total"] f_qdip d_qdip) (G_qdip : FnOk P w K mg base CX0 1 f_qdip d_qdip ["_law_pot_here", "_law_total"] (upSp K (sp_qdip c_KeptSets c_Family))) (D_qpick : Dfn K mg "_law_pick" s_qpick ["_law_pot_here", "_law_items"] f_qpick d_qpick) (G_qpick : FnOk P w K mg base CX0 2 f_qpick d_qpick ["_law_pot_here", "_law_items"] (upSp K (sp_qpick c_KeptSets c_Family))) (D_qsubsets : Dfn K mg "_law_subsets" s_qsubsets ["_law_size"] f_qsubsets d_qsubsets) (G_qsubsets : FnOk P w K mg base CX0 1 f_qsubsets d_qsubsets ["_law_size"] (upSp K (sp_qsubsets c_KeptSets c_Family))) :
    FnOk P w K mg base CX0 3 f fd ["_law_pot_here", "_law_size"] (upSp K (sp_qsets c_KeptSets c_Family)) := by
  refine fun_okD D.fn sc_qsets (fun ds g Q h => len2 h) (fun cdv A outer s H E hr => ⟨_, (pds_cons (pds_set (i := 2) sc_qsets.nd (pd_call G_qdip (hr.mono (by decide)) D_qdip.at_ D_qdip.fn.kp D_qdip.bd pass0 (pda_cons (pdv 0) (pda_cons pd_int pda_nil)))) (pds_cons (pds_if (pt_cmpD (op_eqD hr.units) (RefCmp.op ref_eq) (pdv 2) pd_int (nomark _)) (pds_one (pds_ret (pd_lst pda_nil))) pds_nil) (pds_cons (pds_if (pt_cmpD (op_eqD hr.units) (RefCmp.op ref_eq) (pdv 2) pd_int (nomark _)) (pds_one (pds_ret (pd_lst (pda_cons (pd_tup pda_nil) pda_nil)))) pds_nil) (pds_cons (pds_par (i := 4) (j := 5) rfl sc_qsets.nd (pda_cons (pd_call G_qsubsets (hr.mono (by decide)) D_qsubsets.at_ D_qsubsets.fn.kp D_qsubsets.bd pass0 (pda_cons (pdv 1) pda_nil)) (pda_cons (pd_lstM pda_nil) pda_nil))) (pds_cons (pds_for (tg := .nm 3) PassesOwn.never rfl (pid_range1 T.b_range (pda_cons (pd_add pd_int (pd_call G_qdip (hr.mono (by decide)) D_qdip.at_ D_qdip.fn.kp D_qdip.bd pass0 (pda_cons (pdv 0) (pda_cons pd_int pda_nil)))) pda_nil)) (pgd_nm (i := 3) sc_qsets.nd) (pds_one (pds_expr (pd_append (pdv 5) (pda_cons (pd_call G_qpick (hr.mono (by decide)) D_qpick.at_ D_qpick.fn.kp D_qpick.bd pass0 (pda_cons (pdv 0) (pda_cons (pdv 4) pda_nil))) pda_nil))))) (pds_fz 5 (pds_one (pds_ret (pdv 5))))))))), ?_⟩)
  intro ds g Q h
  obtain ⟨a0, a1, rfl, h⟩ := sp2_of h
  rw [show startD N_qsets [a0, a1] = [some a0, some a1, none, none, none, none] from rfl]
  obtain ⟨p, n, L, m, e1, e2, hm, hg, hp, hn, k⟩ := h
  subst e1 e2
  have h0 : ([] : List Int) ∈ subsL m := subs_nil m
  have hlm := subsL_len m
  have hpm : 2 ^ m ≤ 2 ^ 8 := Nat.pow_le_pow_right (by decide) hm
  have hpos : 0 < 2 ^ m := Nat.pos_of_ne_zero (by simp)
  walk_at "rr22"
  refine ⟨p, 12, n, L, rfl, rfl, by decide, by decide, hg, hp, by omega, fun r L1 r0 r1 hp1 => ?_⟩
  walk_at "rr22"
  refine rd_eq (okD_int _) (okD_int _) ?_
  rw [eqD_int]
  refine rd_itei (c := r = 0) (fun c => ?_) (fun c => ?_)
  · walk_at "rr22"
    refine rd_zK (by show 0 ≤ 16777216; decide) ?_
    exact dret (k [] L1 (fun x hx => nomatch hx) (by decide) (hp1.more (by omega)))
  walk_at "rr22"
  refine rd_eq (okD_int _) (okD_int _) ?_
  rw [eqD_int]
  refine rd_itei (c := r = 1) (fun c => ?_) (fun c => ?_)
  · walk_at "rr22"
    refine rd_zK (by show 0 ≤ 16777216; decide) ?_
    walk_at "rr22"
    refine rd_zK (by show 1 ≤ 16777216; decide) ?_
    exact dret (k [[]] L1 (fun x hx => by rw [List.mem_singleton.mp hx]; exact h0) (by decide) (hp1.more (by omega)))
  walk_at "rr22"
  refine ⟨m, rfl, hm, ?_⟩
  walk_at "rr22"
  refine rd_zK (by show 0 ≤ 16777216; decide) ?_
  intro q hq
  have hqp : q ≠ p := fun z => by rw [z, gup_same] at hq; cases hq
  have hpq : p ≠ q := fun z => hqp z.symm
  rw [gup_ne hqp] at hq
  walk_at "rr22"
  refine ⟨p, 7, _, L1, rfl, rfl, by decide, by decide, by rw [gup_ne hpq]; exact gup_same, hp1, by omega, fun r2 L2 s0 s1 hp2 => ?_⟩
  walk_at "rr22"
  refine rd_rng1K (j := 1 + r2) ⟨by omega, by omega⟩ ?_
  rw [gup_swap hqp]
  refine rd_loopX (I := fun j δ g' => ∃ (S : List (List Int)) (L' : List DV), (∀ x ∈ S, x ∈ subsL m) ∧ S.length = j ∧ PotF (n + 2 + j) L' ∧ g' = gup (gup g p (.lst L')) q (.lst (S.map tI)) ∧ ∃ v3, δ = [some (.ref p), some (.int (m : Int)), some (.int r), v3, some (.lst ((subsL m).map tI)), some (.ref q)]) ⟨[], L2, (by intro x hx; cases hx), rfl, hp2.more (by omega), rfl, none, rfl⟩ ?_ ?_
  · intro i x hx δ g' f hf hI
    obtain ⟨S, L3, hS, hl, hp3, eg, v3, e⟩ := hI
    subst e eg
    have hi : i < 7 := by
      have := (List.getElem?_eq_some_iff.mp hx).1
      rw [rangeD_len] at this
      omega
    refine ⟨_, rfl, ?_⟩
    walk_at "rr22"
    refine ⟨p, _, _, L3, rfl, rfl, fun z => by have := congrArg List.length z; rw [List.length_map, hlm, List.length_nil] at this; omega, by rw [List.length_map]; omega, by rw [gup_ne hpq]; exact gup_same, hp3, by omega, fun y hy L4 hp4 => ?_⟩
    obtain ⟨z, hz, e⟩ := tI_mem hy
    subst e
    rw [gup_swap hqp]
    walk_at "rr22"
    refine rd_append gup_same (by rw [List.length_map]; omega) ?_
    rw [gup_gup, show S.map tI ++ [tI z] = (S ++ [z]).map tI by rw [List.map_append]; rfl]
    walk_at "rr22"
    exact hf _ _ ⟨S ++ [z], L4, fun x hx => (List.mem_append.mp hx).elim (hS x) fun w => by rw [List.mem_singleton.mp w]; exact hz, by rw [List.length_append, hl]; rfl, hp4.more (by omega), rfl, _, rfl⟩
  · intro δ g' hI
    obtain ⟨S, L3, hS, hl, hp3, eg, v3, e⟩ := hI
    subst e eg
    rw [rangeD_len] at hl hp3
    walk_at "rr22"
    refine rd_fz rfl gup_same ?_
    rw [gdel_gup (by rw [gup_ne hqp]; exact hq)]
    walk_at "rr22"
    exact dret (k S L3 hS (by omega) (hp3.more (by omega)))

abbrev s_qall : Stmt := topS 39
abbrev N_qall : List Str := ["_law_size", "_law_sets_here", "_law_found", "_law_one", "_law_many", "_law_other"]
theorem sc_qall : FnScope N_qall ["_law_size", "_law_sets_here"] (defScope s_qall) := ⟨rfl, rfl, rfl, by decide +kernel, rfl, by decide +kernel, by decide +kernel⟩
abbrev sp_qall (c_KeptSets c_Family : Addr) : SpD :=
  sp2 fun a b g P => ∃ (n : Nat) (S : List (List Int)), a = .int (n : Int) ∧ b = .lst (S.map tI) ∧ n ≤ 8 ∧ S.length ≤ 300 ∧ P (.lst ((allL n S).map tI)) g

local macro_rules | `(tactic| walk_at "rr23") => `(tactic| (repeat (first | (with_reducible first | refine rd_seq ?_ | refine rd_seqE ?_ | refine rd_next ?_ | refine rd_rtE ?_ | refine rd_nxE ?_ | refine rd_nx ?_ | refine rd_rt ?_ | refine rd_drop ?_ | refine rd_ret ?_ | refine rd_asg ?_ | refine rd_c ?_ | refine rd_op ?_ | refine rd_b ?_ | refine rd_bK ?_ | refine rd_tru ?_ | refine rd_tKb ?_ | refine rd_nil ?_ | refine rd_cons ?_ | refine rd_tup ?_ | refine rd_lst ?_ | refine rd_cb ?_ | refine rd_call ?_ | refine rd_sp1 ?_ | refine rd_sp2 ?_ | refine rd_sp3 ?_ | refine rd_lc ?_ | refine rd_yes ?_ | refine rd_wseq ?_ | refine rd_wsT ?_ | refine rd_wsL ?_ | refine rd_wsS ?_ | refine rd_itet ?_ | refine rd_itef ?_ | refine rd_itnt ?_ | refine rd_itnf ?_) | ((with_reducible apply rd_var); (· exact rfl)) | ((with_reducible apply rd_asgK); (· exact rfl)) | ((with_reducible apply rd_len); (· (first | assumption | exact seqD_ref (by assumption) | exact seqD_up | exact lstD_ref (by assumption) | exact lstD_up | rfl))))))
theorem ok_qall {P : Program} {w : World} {K : Fg} {mg : Str → Option Value} {base : Heap} {t_FAR_PRIME t_MAX_CORNERS t_MAX_FIELD t_MAX_PASSED : Tok} {c_KeptSets c_Family : Addr} {f f_qinside f_qsubsets : Addr} {fd d_qinside d_qsubsets : FuncData} (D : Dfn K mg "_law_all" s_qall ["_law_size", "_law_sets_here"] f fd) (T : Txt P K mg t_FAR_PRIME t_MAX_CORNERS t_MAX_FIELD t_MAX_PASSED c_KeptSets c_Family) (D_qinside : Dfn K mg "_law_inside" s_qinside ["_law_one", "_law_other"] f_qinside d_qinside) (G_qinside : FnOk P w K mg base CX0 1 f_qinside d_qinside ["_law_one", "_law_other"] (upSp K (sp_qinside c_KeptSets c_Family))) (D_qsubsets : Dfn K mg "_law_subsets" s_qsubsets ["_law_size"] f_qsubsets d_qsubsets) (G_qsubsets : FnOk P w K mg base CX0 1 f_qsubsets d_qsubsets ["_law_size"] (upSp K (sp_qsubsets c_KeptSets c_Family))) :
    FnOk P w K mg base CX0 2 f fd ["_law_size", "_law_sets_here"] (upSp K (sp_qall c_KeptSets c_Family)) := by
  refine fun_okD D.fn sc_qall (fun ds g Q h => len2 h) (fun cdv A outer s H E hr => ⟨_, (pds_cons (pds_setLc (i := 2) (own := [("_law_one", 3)]) (tg := .nm 3) rfl sc_qall.nd (sw_true rfl rfl rfl (by decide +kernel)) (pid_seq (pd_call G_qsubsets (hr.mono (by decide)) D_qsubsets.at_ D_qsubsets.fn.kp D_qsubsets.bd pass0 (pda_cons (pdv 0) pda_nil))) (blkOk_by (own := [("_law_one", 3)]) (N := N_qall) (sc := defScope s_qall) (by decide +kernel)) (fun _ _ _ _ _ => (pgd_nm (i := 3) sc_qall.nd)) (fun _ _ _ _ _ => (ptsd_one (pt_cmpD (op_neD hr.units) (RefCmp.op ref_ne) (pd_lc (own := [("_law_other", 5)]) (tg := .nm 5) rfl sc_qall.nd (pid_seq (pdv 1)) (blkOk_by (own := [("_law_other", 5)]) (N := N_qall) (by kernel_rfl)) (fun _ _ _ _ _ => (pgd_nm (i := 5) sc_qall.nd)) (fun _ _ _ _ _ => (ptsd_one (pt_truD (pd_call G_qinside (hr.mono (by decide)) D_qinside.at_ D_qinside.fn.kp D_qinside.bd pass0 (pda_cons (pdv 3) (pda_cons (pdv 5) pda_nil)))))) (fun _ _ _ _ _ => (pdv 5))) (pd_lst pda_nil) (nomark _)))) (fun _ _ _ _ _ => (pdv 3))) (pds_one (pds_ret (pd_lc (own := [("_law_many", 4), ("_law_one", 3)]) (tg := .tp [4, 3]) rfl sc_qall.nd (pid_seq (pd_callB (cr_sortedD hr.units) ref_sorted T.b_sorted (by decide +kernel) (pda_cons (pd_lc (own := [("_law_one", 3)]) (tg := .nm 3) rfl sc_qall.nd (pid_seq (pdv 2)) (blkOk_by (own := [("_law_one", 3)]) (N := N_qall) (sc := defScope s_qall) (by decide +kernel)) (fun _ _ _ _ _ => (pgd_nm (i := 3) sc_qall.nd)) (fun _ _ _ _ _ => ptsd_nil) (fun _ _ _ _ _ => (pd_tup (pda_cons (pd_callB call_len_seq ref_len T.b_len (by decide +kernel) (pda_cons (pdv 3) pda_nil)) (pda_cons (pdv 3) pda_nil))))) pda_nil))) (blkOk_by (own := [("_law_many", 4), ("_law_one", 3)]) (N := N_qall) (sc := defScope s_qall) (by decide +kernel)) (fun _ _ _ _ _ => (pgd_tp (is := [4, 3]) rfl (pgd_cons (i := 4) (pgd_nm (i := 4) sc_qall.nd) (pgd_cons (i := 3) (pgd_nm (i := 3) sc_qall.nd) pgd_nil)))) (fun _ _ _ _ _ => ptsd_nil) (fun _ _ _ _ _ => (pdv 3)))))), ?_⟩)
  intro ds g Q h
  obtain ⟨a0, a1, rfl, h⟩ := sp2_of h
  rw [show startD N_qall [a0, a1] = [some a0, some a1, none, none, none, none] from rfl]
  obtain ⟨n, S, e1, e2, hn, hl, k⟩ := h
  subst e1 e2
  have hil := inL_len hn S
  have hsl : (subsL n).length ≤ 256 := by
    rw [subsL_len]
    exact Nat.pow_le_pow_right (by decide) hn
  walk_at "rr23"
  refine ⟨n, rfl, hn, ?_⟩
  walk_at "rr23"
  refine rd_zK (by rw [List.length_map]; omega) (comp_fil (p := allF S) (f := fun d => d) (fun d hd => ?_) ?_)
  · obtain ⟨x, hx, e⟩ := tI_mem hd
    subst e
    have hx8 := sub_crn hn hx
    refine ⟨_, rfl, fun Q' h' => ?_, fun _ Q2 h2 => ?_⟩
    · rw [allF_tI] at h'
      walk_at "rr23"
      refine rd_zK (by rw [List.length_map]; omega) (comp_fil (p := insF x) (f := fun d => d) (fun d hd => ?_) ?_)
      · obtain ⟨y, hy, e⟩ := tI_mem hd
        subst e
        refine ⟨_, rfl, fun Q' h' => ?_, fun _ Q2 h2 => ?_⟩
        · rw [insF_tI] at h'
          walk_at "rr23"
          refine ⟨x, y, rfl, rfl, by omega, ?_⟩
          walk_at "rr23"
          exact h'
        · walk_at "rr23"
          exact h2
      · walk_at "rr23"
        refine rd_zK (by show 0 ≤ 16777216; decide) ?_
        refine rd_ne (okD_insF S x) (okD_lIs' []) ?_
        rw [eqD_nilL, insF_nil, Bool.not_not]
        walk_at "rr23"
        exact h'
    · walk_at "rr23"
      exact h2
  · rw [all_map S n]
    walk_at "rr23"
    refine rd_zK (by rw [List.length_map]; omega) (comp_map (f := prF) (fun d hd => ?_) ?_)
    · obtain ⟨x, hx, e⟩ := tI_mem hd
      subst e
      refine ⟨_, rfl, fun Q2 h2 => ?_⟩
      rw [prF_tI] at h2
      walk_at "rr23"
      refine rd_zK (by show 2 ≤ 16777216; decide) ?_
      rw [List.length_map]
      exact h2
    · rw [prF_map]
      walk_at "rr23"
      refine rd_sorted rfl (sort_prs _) ?_
      rw [sort_pr]
      walk_at "rr23"
      refine rd_zK (by rw [List.length_map, (sizeL_perm _).length_eq]; omega) (comp_map (f := sndF) (fun d hd => ?_) ?_)
      · obtain ⟨x, hx, e⟩ := List.mem_map.mp hd
        subst e
        refine ⟨_, rfl, fun Q2 h2 => ?_⟩
        walk_at "rr23"
        exact h2
      · rw [sndF_map]
        walk_at "rr23"
        exact dret k

abbrev s_qshort : Stmt := topS 41
abbrev N_qshort : List Str := ["_law_line", "_law_found", "_law_entry", "_law_one"]
theorem sc_qshort : FnScope N_qshort ["_law_line"] (defScope s_qshort) := ⟨rfl, rfl, rfl, by decide +kernel, rfl, by decide +kernel, by decide +kernel⟩
abbrev sp_qshort (c_KeptSets c_Family : Addr) : SpD :=
  sp1 fun a g P => ∃ l : List Int, a = .lst (l.map DV.int) ∧ l.length ≤ 300 ∧ (∀ x ∈ l, x.natAbs ≤ 2 ^ 2100) ∧ P (.lst ((shortL l).map DV.int)) g

local macro_rules | `(tactic| walk_at "rr24") => `(tactic| (repeat (first | (with_reducible first | refine rd_seq ?_ | refine rd_seqE ?_ | refine rd_next ?_ | refine rd_rtE ?_ | refine rd_nxE ?_ | refine rd_nx ?_ | refine rd_rt ?_ | refine rd_ct ?_ | refine rd_bk ?_ | refine rd_drop ?_ | refine rd_ret ?_ | refine rd_asg ?_ | refine rd_for ?_ | refine rd_c ?_ | refine rd_op ?_ | refine rd_b ?_ | refine rd_bK ?_ | refine rd_ifE ?_ | refine rd_nil ?_ | refine rd_cons ?_ | refine rd_tup ?_ | refine rd_cb ?_ | refine rd_call ?_ | refine rd_sp1 ?_ | refine rd_sp2 ?_ | refine rd_sp3 ?_ | refine rd_abs ?_ | refine rd_cmp ?_ | refine rd_lc ?_ | refine rd_yes ?_ | refine rd_wseq ?_ | refine rd_wsT ?_ | refine rd_wsL ?_ | refine rd_wsS ?_ | refine rd_itet ?_ | refine rd_itef ?_ | refine rd_itnt ?_ | refine rd_itnf ?_) | ((with_reducible apply rd_var); (· exact rfl)) | ((with_reducible apply rd_asgK); (· exact rfl)))))
theorem ok_qshort {P : Program} {w : World} {K : Fg} {mg : Str → Option Value} {base : Heap} {t_FAR_PRIME t_MAX_CORNERS t_MAX_FIELD t_MAX_PASSED : Tok} {c_KeptSets c_Family : Addr} {f : Addr} {fd : FuncData} (D : Dfn K mg "_law_short" s_qshort ["_law_line"] f fd) (T : Txt P K mg t_FAR_PRIME t_MAX_CORNERS t_MAX_FIELD t_MAX_PASSED c_KeptSets c_Family) :
    FnOk P w K mg base CX0 1 f fd ["_law_line"] (upSp K (sp_qshort c_KeptSets c_Family)) := by
  refine fun_okD D.fn sc_qshort (fun ds g Q h => len1 h) (fun cdv A outer s H E hr => ⟨_, (pds_cons (pds_set (i := 1) sc_qshort.nd pd_int) (pds_cons (pds_for (tg := .nm 2) PassesOwn.never rfl (pid_seq (pdv 0)) (pgd_nm (i := 2) sc_qshort.nd) (pds_cons (pds_set (i := 3) sc_qshort.nd (pd_callB call_abs ref_abs T.b_abs (by decide +kernel) (pda_cons (pdv 2) pda_nil))) (pds_one (pds_while PassesOwn.never (pt_cmpD op_gt (RefCmp.op ref_cmp) (pdv 3) pd_int (nomark _)) (pds_one (pds_setT (tg := .tp [1, 3]) (pgd_tp (is := [1, 3]) rfl (pgd_cons (i := 1) (pgd_nm (i := 1) sc_qshort.nd) (pgd_cons (i := 3) (pgd_nm (i := 3) sc_qshort.nd) pgd_nil))) (pd_tup (pda_cons (pdv 3) (pda_cons (pd_mod (pdv 1) (pdv 3)) pda_nil))))))))) (pds_one (pds_ret (pd_ifExp (pt_cmpD op_gt (RefCmp.op ref_cmp) (pdv 1) pd_int (nomark _)) (pd_lc (own := [("_law_entry", 2)]) (tg := .nm 2) rfl sc_qshort.nd (pid_seq (pdv 0)) (blkOk_by (own := [("_law_entry", 2)]) (N := N_qshort) (sc := defScope s_qshort) (by decide +kernel)) (fun _ _ _ _ _ => (pgd_nm (i := 2) sc_qshort.nd)) (fun _ _ _ _ _ => ptsd_nil) (fun _ _ _ _ _ => (pd_fdiv (pdv 2) (pdv 1)))) (pdv 0)))))), ?_⟩)
  intro ds g Q h
  obtain ⟨a0, rfl, h⟩ := sp1_of h
  rw [show startD N_qshort [a0] = [some a0, none, none, none] from rfl]
  obtain ⟨l, e1, hl, hb, k⟩ := h
  subst e1
  have hgl := gcdL_le hb
  walk_at "rr24"
  refine rd_loopX (I := fun j δ g' => ∃ v2 v3, δ = [some (.lst (l.map DV.int)), some (.int ((gcdL (l.take j) : Nat) : Int)), v2, v3] ∧ g' = g) ⟨none, none, rfl, rfl⟩ ?_ ?_
  · intro j x hx δ g' f2 hf2 hI
    obtain ⟨v2, v3, e, eg⟩ := hI
    subst e eg
    rw [List.getElem?_map] at hx
    obtain ⟨y, hy, e⟩ := Option.map_eq_some_iff.mp hx
    subst e
    refine ⟨_, rfl, ?_⟩
    walk_at "rr24"
    rw [abs_nat]
    walk_at "rr24"
    refine rd_while (I := fun kk δ g2 => ∃ (f o : Nat), δ = [some (.lst (l.map DV.int)), some (.int (f : Int)), some (.int y), some (.int (o : Int))] ∧ Nat.gcd f o = gcdL (l.take (j + 1)) ∧ o < kk ∧ g2 = g') _ ⟨_, _, rfl, (gcdL_snoc hy).symm, Nat.lt_succ_self _, rfl⟩ (fun δ g2 ⟨_, _, _, _, h, _⟩ => by omega) (fun kk δ g2 f3 hf3 hI => ?_)
    obtain ⟨f, o, e, hgc, hm, eg⟩ := hI
    subst e eg
    walk_at "rr24"
    refine rd_iteb (fun c => ?_) (fun c => ?_)
    · have h0 : 0 < o := by have := of_decide_eq_true c; omega
      walk_at "rr24"
      refine rd_rI (by omega) ?_
      walk_at "rr24"
      refine rd_zK (by show 2 ≤ 16777216; decide) ?_
      rw [← Int.natCast_emod]
      walk_at "rr24"
      refine hf3 _ _ ⟨_, _, rfl, ?_, by have := Nat.mod_lt f h0; omega, rfl⟩
      rw [← hgc, Nat.gcd_comm f o, Nat.gcd_rec o f, Nat.gcd_comm]
    · have h0 : o = 0 := by have := of_decide_eq_false c; omega
      subst h0
      rw [Nat.gcd_zero_right] at hgc
      subst hgc
      walk_at "rr24"
      exact hf2 _ _ ⟨_, _, rfl, rfl⟩
  · intro δ g' hI
    obtain ⟨v2, v3, e, eg⟩ := hI
    subst e eg
    rw [List.length_map, List.take_length]
    walk_at "rr24"
    by_cases c : 1 < gcdL l
    · rw [decide_eq_true (show (1 : Int) < ((gcdL l : Nat) : Int) by omega)]
      unfold shortL at k
      rw [if_pos c] at k
      walk_at "rr24"
      refine rd_zK (by rw [List.length_map]; omega) (comp_map (f := dvF ((gcdL l : Nat) : Int)) (fun d hd => ?_) ?_)
      · obtain ⟨i, hi, e⟩ := int_me4 hd
        subst e
        refine ⟨_, rfl, fun Q2 h2 => ?_⟩
        walk_at "rr24"
        refine rd_rI (wide_div (b := 2101) (by omega) (by rw [Int.natAbs_natCast]; exact Nat.lt_of_le_of_lt hgl (Nat.pow_lt_pow_right (by decide) (by decide))) (by decide) (by decide)) ?_
        exact h2
      rw [dv_map]
      exact dret k
    · rw [decide_eq_false (show ¬ (1 : Int) < ((gcdL l : Nat) : Int) by omega)]
      unfold shortL at k
      rw [if_neg c] at k
      walk_at "rr24"
      exact dret k

abbrev s_qrank : Stmt := topS 40
abbrev N_qrank : List Str := ["_law_rows", "_law_prime", "_law_left", "_law_found", "_law_place", "_law_spots", "_law_rest", "_law_row", "_law_at", "_law_head", "_law_line", "_law_entry", "_law_more"]
theorem sc_qrank : FnScope N_qrank ["_law_rows", "_law_prime"] (defScope s_qrank) := ⟨rfl, rfl, rfl, by decide +kernel, rfl, by decide +kernel, by decide +kernel⟩
abbrev sp_qrank (c_KeptSets c_Family : Addr) : SpD :=
  sp2 fun a b g P => ∃ (R : List (List Int)) (w p : Nat), a = .lst (R.map lI) ∧ b = .int (p : Int) ∧ OkP p ∧ p ≤ 97 ∧ (∀ v ∈ R, v.length = w) ∧ w ≤ 300 ∧ R.length ≤ 300 ∧ (∀ v ∈ R, ∀ x ∈ v, x.natAbs ≤ 1) ∧ (p = 0 → LA.rkOf (LA.modP p) (R.map LA.fn) ≤ 10) ∧ P (.int ((LA.rkOf (LA.modP p) (R.map LA.fn) : Nat) : Int)) g

local macro_rules | `(tactic| walk_at "rr25") => `(tactic| (repeat (first | (with_reducible first | refine rd_seq ?_ | refine rd_seqE ?_ | refine rd_next ?_ | refine rd_rtE ?_ | refine rd_nxE ?_ | refine rd_nx ?_ | refine rd_rt ?_ | refine rd_ct ?_ | refine rd_bk ?_ | refine rd_drop ?_ | refine rd_ret ?_ | refine rd_dif ?_ | refine rd_asg ?_ | refine rd_for ?_ | refine rd_c ?_ | refine rd_op ?_ | refine rd_b ?_ | refine rd_bK ?_ | refine rd_and ?_ | refine rd_ifE ?_ | refine rd_nil ?_ | refine rd_cons ?_ | refine rd_tup ?_ | refine rd_lst ?_ | refine rd_lstM ?_ | refine rd_cb ?_ | refine rd_call ?_ | refine rd_sp1 ?_ | refine rd_sp2 ?_ | refine rd_sp3 ?_ | refine rd_add ?_ | refine rd_sub ?_ | refine rd_cmp ?_ | refine rd_mt ?_ | refine rd_mt0 ?_ | refine rd_lc ?_ | refine rd_lcM ?_ | refine rd_yes ?_ | refine rd_wseq ?_ | refine rd_wsT ?_ | refine rd_wsL ?_ | refine rd_wsS ?_ | refine rd_wzip ?_ | refine rd_zipT ?_ | refine rd_rng1 ?_ | refine rd_itet ?_ | refine rd_itef ?_ | refine rd_itnt ?_ | refine rd_itnf ?_) | ((with_reducible apply rd_var); (· exact rfl)) | ((with_reducible apply rd_asgK); (· exact rfl)) | ((with_reducible apply rd_len); (· (first | assumption | exact seqD_ref (by assumption) | exact seqD_up | exact lstD_ref (by assumption) | exact lstD_up | rfl))) | ((with_reducible apply rd_list); (· (first | assumption | exact seqD_ref (by assumption) | exact seqD_up | exact lstD_ref (by assumption) | exact lstD_up | rfl))) | ((with_reducible apply rd_ix); (· (first | assumption | exact seqD_ref (by assumption) | exact seqD_up | exact lstD_ref (by assumption) | exact lstD_up | rfl)); (· (first | exact atI_c0 _ _ | exact atI_c1 _ _ _ | exact atI_c2 _ _ _ _ | assumption | rfl))) | ((with_reducible apply rd_some); (· (first | assumption | exact seqD_ref (by assumption) | exact seqD_up | exact lstD_ref (by assumption) | exact lstD_up | rfl))))))
theorem ok_qrank {P : Program} {w : World} {K : Fg} {mg : Str → Option Value} {base : Heap} {t_FAR_PRIME t_MAX_CORNERS t_MAX_FIELD t_MAX_PASSED : Tok} {c_KeptSets c_Family : Addr} {f f_qshort : Addr} {fd d_qshort : FuncData} (D : Dfn K mg "_law_rank" s_qrank ["_law_rows", "_law_prime"] f fd) (T : Txt P K mg t_FAR_PRIME t_MAX_CORNERS t_MAX_FIELD t_MAX_PASSED c_KeptSets c_Family) (D_qshort : Dfn K mg "_law_short" s_qshort ["_law_line"] f_qshort d_qshort) (G_qshort : FnOk P w K mg base CX0 1 f_qshort d_qshort ["_law_line"] (upSp K (sp_qshort c_KeptSets c_Family))) :
    FnOk P w K mg base CX0 2 f fd ["_law_rows", "_law_prime"] (upSp K (sp_qrank c_KeptSets c_Family)) := by
  refine fun_okD D.fn sc_qrank (fun ds g Q h => len2 h) (fun cdv A outer s H E hr => ⟨_, (pds_cons (pds_setT (tg := .tp [2, 3, 4]) (pgd_tp (is := [2, 3, 4]) rfl (pgd_cons (i := 2) (pgd_nm (i := 2) sc_qrank.nd) (pgd_cons (i := 3) (pgd_nm (i := 3) sc_qrank.nd) (pgd_cons (i := 4) (pgd_nm (i := 4) sc_qrank.nd) pgd_nil)))) (pd_tup (pda_cons (pd_lcM (own := [("_law_row", 7)]) (tg := .nm 7) rfl sc_qrank.nd (pid_seq (pdv 0)) (blkOk_by (own := [("_law_row", 7)]) (N := N_qrank) (sc := defScope s_qrank) (by decide +kernel)) (fun _ _ _ _ _ => (pgd_nm (i := 7) sc_qrank.nd)) (fun _ _ _ _ _ => ptsd_nil) (fun _ _ _ _ _ => (pd_callTy call_list_of ref_list T.b_list (by decide +kernel) (pda_cons (pdv 7) pda_nil)))) (pda_cons pd_int (pda_cons pd_int pda_nil))))) (pds_cons (pds_while PassesOwn.never (pwd_pt (pwd_and (pt_cmpD (op_neD hr.units) (RefCmp.op ref_neR) (pdv 2) (pd_lst pda_nil) (nomark _)) (pwd_and1 (pt_cmpD op_lt (RefCmp.op ref_cmp) (pdv 4) (pd_callB call_len_seq ref_len T.b_len (by decide +kernel) (pda_cons (pd_ix (pdv 2) pd_int) pda_nil)) (nomark _))))) (pds_cons (pds_setLc (i := 5) (own := [("_law_at", 8)]) (tg := .nm 8) rfl sc_qrank.nd (sw_true rfl rfl rfl (by decide +kernel)) (pid_range1 T.b_range (pda_cons (pd_callB call_len_seq ref_len T.b_len (by decide +kernel) (pda_cons (pdv 2) pda_nil)) pda_nil)) (blkOk_by (own := [("_law_at", 8)]) (N := N_qrank) (sc := defScope s_qrank) (by decide +kernel)) (fun _ _ _ _ _ => (pgd_nm (i := 8) sc_qrank.nd)) (fun _ _ _ _ _ => (ptsd_one (pt_cmpD (op_neD hr.units) (RefCmp.op ref_ne) (pd_ifExp (pt_cmpD op_gt (RefCmp.op ref_cmp) (pdv 1) pd_int (nomark _)) (pd_mod (pd_ix (pd_ix (pdv 2) (pdv 8)) (pdv 4)) (pdv 1)) (pd_ix (pd_ix (pdv 2) (pdv 8)) (pdv 4))) pd_int (nomark _)))) (fun _ _ _ _ _ => (pdv 8))) (pds_one (pds_if (pt_cmpD (op_eqD hr.units) (RefCmp.op ref_eq) (pdv 5) (pd_lst pda_nil) (nomark _)) (pds_one (pds_set (i := 4) sc_qrank.nd (pd_add (pdv 4) pd_int))) (pds_cons (pds_setT (tg := .tp [9, 3]) (pgd_tp (is := [9, 3]) rfl (pgd_cons (i := 9) (pgd_nm (i := 9) sc_qrank.nd) (pgd_cons (i := 3) (pgd_nm (i := 3) sc_qrank.nd) pgd_nil))) (pd_tup (pda_cons (pd_popAt (pdv 2) (pda_cons (pd_ix (pdv 5) pd_int) pda_nil)) (pda_cons (pd_add (pdv 3) pd_int) pda_nil)))) (pds_cons (pds_set (i := 6) sc_qrank.nd (pd_lstM pda_nil)) (pds_fz 2 (pds_cons (pds_for (tg := .nm 7) PassesOwn.never rfl (pid_seq (pdv 2)) (pgd_nm (i := 7) sc_qrank.nd) (pds_cons (pds_setLc (i := 10) (own := [("_law_entry", 11), ("_law_more", 12)]) (tg := .tp [11, 12]) rfl sc_qrank.nd (sw_true rfl rfl rfl (by decide +kernel)) (pid_zip T.b_zip (pda_cons (pdv 7) (pda_cons (pdv 9) pda_nil))) (blkOk_by (own := [("_law_entry", 11), ("_law_more", 12)]) (N := N_qrank) (sc := defScope s_qrank) (by decide +kernel)) (fun _ _ _ _ _ => (pgd_tp (is := [11, 12]) rfl (pgd_cons (i := 11) (pgd_nm (i := 11) sc_qrank.nd) (pgd_cons (i := 12) (pgd_nm (i := 12) sc_qrank.nd) pgd_nil)))) (fun _ _ _ _ _ => ptsd_nil) (fun _ _ _ _ _ => (pd_sub (pd_mulI (pd_ix (pdv 9) (pdv 4)) (pdv 11)) (pd_mulI (pd_ix (pdv 7) (pdv 4)) (pdv 12))))) (pds_one (pds_expr (pd_append (pdv 6) (pda_cons (pd_ifExp (pt_cmpD op_gt (RefCmp.op ref_cmp) (pdv 1) pd_int (nomark _)) (pd_lc (own := [("_law_entry", 11)]) (tg := .nm 11) rfl sc_qrank.nd (pid_seq (pdv 10)) (blkOk_by (own := [("_law_entry", 11)]) (N := N_qrank) (sc := defScope s_qrank) (by decide +kernel)) (fun _ _ _ _ _ => (pgd_nm (i := 11) sc_qrank.nd)) (fun _ _ _ _ _ => ptsd_nil) (fun _ _ _ _ _ => (pd_mod (pdv 11) (pdv 1)))) (pd_call G_qshort (hr.mono (by decide)) D_qshort.at_ D_qshort.fn.kp D_qshort.bd pass0 (pda_cons (pdv 10) pda_nil))) pda_nil)))))) (pds_one (pds_setT (tg := .tp [2, 4]) (pgd_tp (is := [2, 4]) rfl (pgd_cons (i := 2) (pgd_nm (i := 2) sc_qrank.nd) (pgd_cons (i := 4) (pgd_nm (i := 4) sc_qrank.nd) pgd_nil))) (pd_tup (pda_cons (pdv 6) (pda_cons (pd_add (pdv 4) pd_int) pda_nil))))))))))))) (pds_one (pds_ret (pdv 3))))), ?_⟩)
  intro ds g Q h
  obtain ⟨a0, a1, rfl, h⟩ := sp2_of h
  rw [show startD N_qrank [a0, a1] = [some a0, some a1, none, none, none, none, none, none, none, none, none, none, none] from rfl]
  obtain ⟨R, w, p, e1, e2, hp, h97, hw, w3, hl, hb, hk, k⟩ := h
  subst e1 e2
  walk_at "rr25"
  refine rd_zK (by rw [List.length_map]; omega) (comp_map (f := fun d => d) (fun d hd => ?_) ?_)
  · obtain ⟨v, hv, e⟩ := List.mem_map.mp hd
    subst e
    refine ⟨_, rfl, fun Q2 h2 => ?_⟩
    walk_at "rr25"
    exact h2
  rw [List.map_id']
  intro a ha
  walk_at "rr25"
  refine rd_zK (by show 3 ≤ 16777216; decide) ?_
  walk_at "rr25"
  refine rd_while (I := fun kk δ g' => ∃ (b : Addr) (L : List (List Int)) (found place : Nat) (v5 v6 v7 v8 v9 v10 v11 v12 : Option DV), δ = [some (.lst (R.map lI)), some (.int (p : Int)), some (.ref b), some (.int (found : Int)), some (.int (place : Int)), v5, v6, v7, v8, v9, v10, v11, v12] ∧ LR p w R L found place ∧ place ≤ w ∧ w + 1 < place + kk ∧ L.length ≤ 300 ∧ g' b = some (.lst (L.map lI)) ∧ g b = none ∧ ∀ x, g' x = g x ∨ g x = none) (w + 2) ⟨a, R, 0, 0, _, _, _, _, _, _, _, _, rfl, ⟨hw, fun v _ c hc => absurd hc (Nat.not_lt_zero c), fun kk hkk => by rw [Nat.zero_add]; exact hkk, fun v hv x hx => ?_⟩, Nat.zero_le _, by omega, hl, gup_same, ha, fun x => ?_⟩ (fun δ g' ⟨_, _, _, _, _, _, _, _, _, _, _, _, _, _, h1, h2, _⟩ => by omega) (fun kk δ g' f hf hI => ?_)
  · have := hb v hv x hx
    by_cases h0 : p = 0
    · rw [if_pos h0]; exact this
    · rw [if_neg h0]; omega
  · by_cases z : x = a
    · subst z; exact .inr ha
    · exact .inl (gup_ne z)
  obtain ⟨b, L, found, place, v5, v6, v7, v8, v9, v10, v11, v12, e, hLR, hpw, hkk, hLl, gb, gbn, hs⟩ := hI
  subst e
  cases L with
  | nil =>
    walk_at "rr25"
    refine rd_zK (by show 0 ≤ 16777216; decide) ?_
    refine rd_neR gb (okD_lII []) (okD_lII []) ?_
    rw [eqD_nilII]
    walk_at "rr25"
    rw [if_neg (by decide)]
    walk_at "rr25"
    refine ⟨g, fun x => (hs x).elim (fun z => .inl z.symm) .inr, ?_⟩
    rw [(hLR.fin hp (.inl rfl)).of hp.prm] at k
    exact k
  | cons v0 L0 =>
    have hv0 := hLR.len v0 List.mem_cons_self
    walk_at "rr25"
    refine rd_zK (by show 0 ≤ 16777216; decide) ?_
    refine rd_neR gb (okD_lII (v0 :: L0)) (okD_lII []) ?_
    rw [eqD_nilII]
    walk_at "rr25"
    rw [if_pos (by rfl)]
    walk_at "rr25"
    rw [List.length_map, hv0]
    by_cases c : place < w
    · rw [decide_eq_true (show (place : Int) < (w : Int) by omega)]
      generalize hLe : v0 :: L0 = L at hLR gb hLl ⊢
      have hfd := hLR.le hp (LA.rkOf_is hp.prm (R.map LA.fn))
      walk_at "rr25"
      rw [List.length_map]
      refine rd_rng1K ⟨by omega, by omega⟩ ?_
      rw [Int.toNat_natCast]
      refine rd_zK (by rw [rangeD_len]; omega) (comp_fil (p := spF p L place) (f := fun d => d) (fun d hd => ?_) ?_)
      · obtain ⟨ii, e, hi0, hi1⟩ := rangeD_mem hd
        subst e
        obtain ⟨i, rfl⟩ := Int.eq_ofNat_of_zero_le hi0
        have hil : i < L.length := by omega
        have hxi : L[i]? = some L[i] := List.getElem?_eq_getElem hil
        have hxl := hLR.len _ (List.getElem_mem hil)
        refine ⟨_, rfl, fun Q' h' => ?_, fun _ Q2 h2 => ?_⟩
        · have h' : Q' (nzB p (L.getD ((i : Nat) : Int).toNat []) place) g' := h'
          rw [Int.toNat_natCast, List.getD_eq_getElem?_getD, hxi] at h'
          have h' : Q' (nzB p L[i] place) g' := h'
          unfold nzB at h'
          walk_at "rr25"
          by_cases hpp : (0 : Int) < (p : Int)
          · rw [decide_eq_true hpp]
            rw [if_pos hpp] at h'
            walk_at "rr25"
            (with_reducible apply rd_ix)
            · exact seqS4 gb
            · exact atI_nat (row_at hxi)
            walk_at "rr25"
            (with_reducible apply rd_ix)
            · rfl
            · exact atI_nat (ent_at (by omega))
            walk_at "rr25"
            refine rd_rI (by omega) ?_
            walk_at "rr25"
            refine rd_ne (okD_int _) (okD_int _) ?_
            rw [eqD_int]
            exact h'
          · rw [decide_eq_false hpp]
            rw [if_neg hpp] at h'
            walk_at "rr25"
            (with_reducible apply rd_ix)
            · exact seqS4 gb
            · exact atI_nat (row_at hxi)
            walk_at "rr25"
            (with_reducible apply rd_ix)
            · rfl
            · exact atI_nat (ent_at (by omega))
            walk_at "rr25"
            refine rd_ne (okD_int _) (okD_int _) ?_
            rw [eqD_int]
            exact h'
        · walk_at "rr25"
          exact h2
      rw [sp_map]
      walk_at "rr25"
      refine rd_zK (by show 0 ≤ 16777216; decide) ?_
      refine rd_eq (okD_lI' _) (okD_lI' []) ?_
      rw [eqD_nilI4]
      cases hsp : spL p L place with
      | nil =>
        walk_at "rr25"
        rw [if_pos (by rfl)]
        walk_at "rr25"
        exact hf _ _ ⟨b, L, found, place + 1, _, _, _, _, _, _, _, _, rfl, hLR.next (sp_none hsp), by omega, by omega, hLl, gb, gbn, hs⟩
      | cons a0 r0 =>
        obtain ⟨i, x, rfl, hx, hnx⟩ := sp_some hsp
        walk_at "rr25"
        rw [if_neg (by show ¬ (false = true); decide)]
        walk_at "rr25"
        refine rd_popAt gb (row_at hx) (by rw [List.length_map]; omega) ?_
        walk_at "rr25"
        refine rd_zK (by show 2 ≤ 16777216; decide) ?_
        walk_at "rr25"
        refine rd_zK (by show 0 ≤ 16777216; decide) ?_
        intro c hc
        have hcb : c ≠ b := fun z => by rw [z, gup_same] at hc; cases hc
        rw [gup_ne hcb] at hc
        have hcn : g c = none := (hs c).elim (fun z => z ▸ hc) id
        have hxL := List.mem_of_getElem? hx
        have hEB := ent_bd hLR (fun z => Nat.le_trans hfd (hk z)) h97
        have hxB := hEB x hxL
        have hxw := hLR.len x hxL
        have hiL := (List.getElem?_eq_some_iff.mp hx).1
        have hsub : ∀ v ∈ L.eraseIdx i, v ∈ L := fun v hv => (List.eraseIdx_sublist L i).mem hv
        have hel : (L.eraseIdx i).length ≤ 300 := by rw [List.length_eraseIdx_of_lt hiL]; omega
        walk_at "rr25"
        refine rd_fz rfl (by rw [gup_ne hcb.symm]; exact gup_same) ?_
        rw [erase_map4]
        walk_at "rr25"
        refine rd_loopX (I := fun j δ g2 => ∃ (v7 v8 v10 v11 v12 : Option DV), δ = [some (.lst (R.map lI)), some (.int (p : Int)), some (.lst ((L.eraseIdx i).map lI)), some (.int ((found : Int) + 1)), some (.int (place : Int)), some (.lst (((i : Int) :: r0).map DV.int)), some (.ref c), v7, v8, some (lI x), v10, v11, v12] ∧ g2 c = some (.lst ((((L.eraseIdx i).take j).map (rowL p place x)).map lI)) ∧ ∀ y, y ≠ c → y ≠ b → g2 y = g' y) ⟨_, _, _, _, _, rfl, ?_, fun y h1 h2 => ?_⟩ ?_ ?_
        · rw [gdel_ne hcb, gup_same]
          rfl
        · rw [gdel_ne h2, gup_ne h1, gup_ne h2]
        · intro j d hd δ g2 f2 hf2 hI
          obtain ⟨v7, v8, v10, v11, v12, e, gc, go⟩ := hI
          subst e
          rw [List.getElem?_map] at hd
          obtain ⟨v, hv, e⟩ := Option.map_eq_some_iff.mp hd
          subst e
          have hvL := hsub v (List.mem_of_getElem? hv)
          have hvB := hEB v hvL
          have hvw := hLR.len v hvL
          have hll := line_len (j := place) (show v.length = x.length by omega)
          refine ⟨_, rfl, ?_⟩
          walk_at "rr25"
          refine rd_zipL4 ?_
          rw [zip_ints4]
          refine rd_zK (by rw [List.length_map, List.length_zip]; omega) (comp_map (f := lnF (LA.fn x place) (LA.fn v place)) (fun d hd => ?_) ?_)
          · obtain ⟨q, hq, e⟩ := List.mem_map.mp hd
            subst e
            have hq1 := hvB _ (List.of_mem_zip hq).1
            have hq2 := hxB _ (List.of_mem_zip hq).2
            refine ⟨_, rfl, fun Q2 h2 => ?_⟩
            walk_at "rr25"
            (with_reducible apply rd_ix)
            · rfl
            · exact atI_nat (ent_at (by omega))
            walk_at "rr25"
            refine rd_rI (wide_mul (ent_lt hxB _) (lt_of_e hq1) (by decide) (by decide) (by decide)) ?_
            walk_at "rr25"
            (with_reducible apply rd_ix)
            · rfl
            · exact atI_nat (ent_at (by omega))
            walk_at "rr25"
            refine rd_rI (wide_mul (ent_lt hvB _) (lt_of_e hq2) (by decide) (by decide) (by decide)) ?_
            walk_at "rr25"
            exact h2
          rw [ln_map]
          walk_at "rr25"
          by_cases hpp : (0 : Int) < (p : Int)
          · rw [decide_eq_true hpp]
            walk_at "rr25"
            refine rd_zK (by rw [List.length_map]; omega) (comp_map (f := mdF (p : Int)) (fun d hd => ?_) ?_)
            · obtain ⟨q, hq, e⟩ := int_me4 hd
              subst e
              refine ⟨_, rfl, fun Q2 h2 => ?_⟩
              walk_at "rr25"
              refine rd_rI (by omega) ?_
              exact h2
            rw [md_map]
            have hrow : (lineL place x v).map (fun e => e % (p : Int)) = rowL p place x v := by unfold rowL; rw [if_neg (by omega)]
            rw [hrow]
            walk_at "rr25"
            refine rd_append gc (by rw [List.length_map, List.length_map, List.length_take]; omega) ?_
            walk_at "rr25"
            refine hf2 _ _ ⟨_, _, _, _, _, rfl, ?_, fun y h1 h2 => by rw [gup_ne h1]; exact go y h1 h2⟩
            rw [gup_same, rows_snoc _ hv]
          · rw [decide_eq_false hpp]
            walk_at "rr25"
            refine ⟨lineL place x v, rfl, by omega, fun y hy => Nat.le_trans (line_abs hxB hvB y hy) big_le, ?_⟩
            have hrow : shortL (lineL place x v) = rowL p place x v := by unfold rowL; rw [if_pos (by omega)]
            rw [hrow]
            walk_at "rr25"
            refine rd_append gc (by rw [List.length_map, List.length_map, List.length_take]; omega) ?_
            walk_at "rr25"
            refine hf2 _ _ ⟨_, _, _, _, _, rfl, ?_, fun y h1 h2 => by rw [gup_ne h1]; exact go y h1 h2⟩
            rw [gup_same, rows_snoc _ hv]
        · intro δ g2 hI
          obtain ⟨v7, v8, v10, v11, v12, e, gc, go⟩ := hI
          subst e
          rw [List.length_map, List.take_length] at gc
          walk_at "rr25"
          refine rd_zK (by show 2 ≤ 16777216; decide) ?_
          walk_at "rr25"
          refine hf _ _ ⟨c, _, found + 1, place + 1, _, _, _, _, _, _, _, _, rfl, hLR.piv hp hx hnx, by omega, by omega, by rw [List.length_map]; exact hel, gc, hcn, fun y => ?_⟩
          by_cases h1 : y = c
          · subst h1; exact .inr hcn
          · by_cases h2 : y = b
            · subst h2; exact .inr gbn
            · rw [go y h1 h2]
              exact hs y
    · rw [decide_eq_false (show ¬ (place : Int) < (w : Int) by omega)]
      walk_at "rr25"
      refine ⟨g, fun x => (hs x).elim (fun z => .inl z.symm) .inr, ?_⟩
      rw [(hLR.fin hp (.inr (by omega))).of hp.prm] at k
      exact k

abbrev s_qboundary : Stmt := topS 42
abbrev N_qboundary : List Str := ["_law_members", "_law_size", "_law_lower", "_law_rows", "_law_one", "_law_row", "_law_at", "_law_other"]
theorem sc_qboundary : FnScope N_qboundary ["_law_members", "_law_size"] (defScope s_qboundary) := ⟨rfl, rfl, rfl, by decide +kernel, rfl, by decide +kernel, by decide +kernel⟩
abbrev sp_qboundary (c_KeptSets c_Family : Addr) : SpD :=
  sp2 fun a b g P => ∃ (A : List (List Int)) (s : Nat), a = .lst (A.map tI) ∧ b = .int (s : Int) ∧ LA.Cpx A ∧ A.length ≤ 300 ∧ (∀ x ∈ A, x ∈ subsL 7) ∧ 1 ≤ s ∧ s ≤ 8 ∧ P (.lst ((LA.dense A s).map lI)) g

local macro_rules | `(tactic| walk_at "rr26") => `(tactic| (repeat (first | (with_reducible first | refine rd_seq ?_ | refine rd_seqE ?_ | refine rd_next ?_ | refine rd_rtE ?_ | refine rd_nxE ?_ | refine rd_nx ?_ | refine rd_rt ?_ | refine rd_ct ?_ | refine rd_bk ?_ | refine rd_drop ?_ | refine rd_ret ?_ | refine rd_asg ?_ | refine rd_for ?_ | refine rd_c ?_ | refine rd_op ?_ | refine rd_un ?_ | refine rd_b ?_ | refine rd_bK ?_ | refine rd_ifE ?_ | refine rd_nil ?_ | refine rd_cons ?_ | refine rd_lst ?_ | refine rd_lstM ?_ | refine rd_cb ?_ | refine rd_call ?_ | refine rd_sp1 ?_ | refine rd_sp2 ?_ | refine rd_sp3 ?_ | refine rd_add ?_ | refine rd_sub ?_ | refine rd_setI ?_ | refine rd_mt ?_ | refine rd_lc ?_ | refine rd_wseq ?_ | refine rd_wsT ?_ | refine rd_wsL ?_ | refine rd_wsS ?_ | refine rd_rng1 ?_ | refine rd_sl ?_ | refine rd_slT ?_ | refine rd_slL ?_ | refine rd_slS ?_ | refine rd_nopart ?_ | refine rd_part ?_ | refine rd_ptK ?_ | refine rd_ng ?_ | refine rd_repL ?_ | refine rd_repLM ?_ | refine rd_index ?_ | refine rd_itet ?_ | refine rd_itef ?_ | refine rd_itnt ?_ | refine rd_itnf ?_) | ((with_reducible apply rd_var); (· exact rfl)) | ((with_reducible apply rd_asgK); (· exact rfl)) | ((with_reducible apply rd_len); (· (first | assumption | exact seqD_ref (by assumption) | exact seqD_up | exact lstD_ref (by assumption) | exact lstD_up | rfl))) | ((with_reducible apply rd_set30); (· (first | assumption | exact gup_same))) | ((with_reducible apply rd_set32); (· (first | assumption | exact gup_same))) | ((with_reducible apply rd_some); (· (first | assumption | exact seqD_ref (by assumption) | exact seqD_up | exact lstD_ref (by assumption) | exact lstD_up | rfl))))))
theorem ok_qboundary {P : Program} {w : World} {K : Fg} {mg : Str → Option Value} {base : Heap} {t_FAR_PRIME t_MAX_CORNERS t_MAX_FIELD t_MAX_PASSED : Tok} {c_KeptSets c_Family : Addr} {f : Addr} {fd : FuncData} (D : Dfn K mg "_law_boundary" s_qboundary ["_law_members", "_law_size"] f fd) (T : Txt P K mg t_FAR_PRIME t_MAX_CORNERS t_MAX_FIELD t_MAX_PASSED c_KeptSets c_Family) :
    FnOk P w K mg base CX0 1 f fd ["_law_members", "_law_size"] (upSp K (sp_qboundary c_KeptSets c_Family)) := by
  refine fun_okD D.fn sc_qboundary (fun ds g Q h => len2 h) (fun cdv A outer s H E hr => ⟨_, (pds_cons (pds_setLc (i := 2) (own := [("_law_one", 4)]) (tg := .nm 4) rfl sc_qboundary.nd (sw_true rfl rfl rfl (by decide +kernel)) (pid_seq (pdv 0)) (blkOk_by (own := [("_law_one", 4)]) (N := N_qboundary) (sc := defScope s_qboundary) (by decide +kernel)) (fun _ _ _ _ _ => (pgd_nm (i := 4) sc_qboundary.nd)) (fun _ _ _ _ _ => (ptsd_one (pt_cmpD (op_eqD hr.units) (RefCmp.op ref_eq) (pd_callB call_len_seq ref_len T.b_len (by decide +kernel) (pda_cons (pdv 4) pda_nil)) (pd_sub (pdv 1) pd_int) (nomark _)))) (fun _ _ _ _ _ => (pdv 4))) (pds_cons (pds_set (i := 3) sc_qboundary.nd (pd_lstM pda_nil)) (pds_cons (pds_for (tg := .nm 4) PassesOwn.never rfl (pid_seq (pd_lc (own := [("_law_other", 7)]) (tg := .nm 7) rfl sc_qboundary.nd (pid_seq (pdv 0)) (blkOk_by (own := [("_law_other", 7)]) (N := N_qboundary) (sc := defScope s_qboundary) (by decide +kernel)) (fun _ _ _ _ _ => (pgd_nm (i := 7) sc_qboundary.nd)) (fun _ _ _ _ _ => (ptsd_one (pt_cmpD (op_eqD hr.units) (RefCmp.op ref_eq) (pd_callB call_len_seq ref_len T.b_len (by decide +kernel) (pda_cons (pdv 7) pda_nil)) (pdv 1) (nomark _)))) (fun _ _ _ _ _ => (pdv 7)))) (pgd_nm (i := 4) sc_qboundary.nd) (pds_cons (pds_set (i := 5) sc_qboundary.nd (pd_repLM (pda_cons pd_int pda_nil) (pd_callB call_len_seq ref_len T.b_len (by decide +kernel) (pda_cons (pdv 2) pda_nil)))) (pds_cons (pds_for (tg := .nm 6) PassesOwn.never rfl (pid_range1 T.b_range (pda_cons (pdv 1) pda_nil)) (pgd_nm (i := 6) sc_qboundary.nd) (pds_one (pds_setI (pd_ifExp (pt_cmpD (op_eqD hr.units) (RefCmp.op ref_eq) (pd_mod (pdv 6) pd_int) pd_int (nomark _)) pd_int (pd_neg pd_int)) (pdv 5) (pd_index (by have h := units70 hr; exact h) (pdv 2) (pda_cons (pd_add (pd_slice (pdv 4) pod_none (pod_some (pdv 6))) (pd_slice (pdv 4) (pod_some (pd_add (pdv 6) pd_int)) pod_none)) pda_nil))))) (pds_fz 5 (pds_one (pds_expr (pd_append (pdv 3) (pda_cons (pdv 5) pda_nil)))))))) (pds_fz 3 (pds_one (pds_ret (pdv 3))))))), ?_⟩)
  intro ds g Q h
  obtain ⟨a0, a1, rfl, h⟩ := sp2_of h
  rw [show startD N_qboundary [a0, a1] = [some a0, some a1, none, none, none, none, none, none] from rfl]
  obtain ⟨A, s, e1, e2, hA, hl, h7, hs, hs8, k⟩ := h
  subst e1 e2
  walk_at "rr26"
  refine rd_zK (by rw [List.length_map]; omega) (comp_fil (p := szF (s - 1)) (f := fun d => d) (fun d hd => ?_) ?_)
  · obtain ⟨x, hx, e⟩ := tI_mem hd
    subst e
    refine ⟨_, rfl, fun Q' h' => ?_, fun _ Q2 h2 => ?_⟩
    · walk_at "rr26"
      refine rd_eq (okD_int _) (okD_int _) ?_
      rw [eqD_int, List.length_map, show ((s : Int) - 1) = ((s - 1 : Nat) : Int) by omega]
      unfold szF at h'
      rw [oneT_tI] at h'
      exact h'
    · walk_at "rr26"
      exact h2
  rw [sz_map]
  walk_at "rr26"
  refine rd_zK (by show 0 ≤ 16777216; decide) ?_
  intro a ha
  walk_at "rr26"
  refine rd_zK (by rw [List.length_map]; omega) (comp_fil (p := szF s) (f := fun d => d) (fun d hd => ?_) ?_)
  · obtain ⟨x, hx, e⟩ := tI_mem hd
    subst e
    refine ⟨_, rfl, fun Q' h' => ?_, fun _ Q2 h2 => ?_⟩
    · walk_at "rr26"
      refine rd_eq (okD_int _) (okD_int _) ?_
      rw [eqD_int, List.length_map]
      unfold szF at h'
      rw [oneT_tI] at h'
      exact h'
    · walk_at "rr26"
      exact h2
  rw [sz_map]
  walk_at "rr26"
  refine rd_loopX (I := fun j δ g' => ∃ v4 v5 v6 v7, δ = [some (.lst (A.map tI)), some (.int (s : Int)), some (.lst ((LA.ofSz A (s - 1)).map tI)), some (.ref a), v4, v5, v6, v7] ∧ g' a = some (.lst (((LA.dense A s).take j).map lI)) ∧ ∀ x, x ≠ a → g' x = g x ∨ g x = none) ⟨_, _, _, _, rfl, gup_same, fun x hx => .inl (gup_ne hx)⟩ ?_ ?_
  · intro j x hx δ g' f2 hf2 hI
    obtain ⟨v4, v5, v6, v7, e, ga, go⟩ := hI
    subst e
    rw [List.getElem?_map] at hx
    obtain ⟨t, ht, e⟩ := Option.map_eq_some_iff.mp hx
    subst e
    refine ⟨_, rfl, ?_⟩
    have htm := LA.mem_ofSz.mp (List.mem_of_getElem? ht)
    walk_at "rr26"
    refine ⟨by decide, ?_⟩
    walk_at "rr26"
    have hlow : (LA.ofSz A (s - 1)).length ≤ 300 := Nat.le_trans (List.length_filter_le _ _) hl
    have hnd : (LA.ofSz A (s - 1)).Nodup := hA.nd.filter _
    have htn := (hA.asc t htm.1).nodup
    have hts := htm.2
    refine rd_rlM ⟨by omega, by rw [List.length_map]; omega⟩ (fun q hq => ?_)
    rw [List.length_map, Int.toNat_natCast, rep4 t]
    have hqa : q ≠ a := fun z => by rw [z, ga] at hq; cases hq
    walk_at "rr26"
    refine rd_rng1K ⟨by omega, by omega⟩ ?_
    rw [Int.toNat_natCast]
    refine rd_loopX (I := fun i δ g2 => ∃ v6 v7, δ = [some (.lst (A.map tI)), some (.int (s : Int)), some (.lst ((LA.ofSz A (s - 1)).map tI)), some (.ref a), some (tI t), some (.ref q), v6, v7] ∧ g2 q = some (.lst (((LA.ofSz A (s - 1)).map (pbd t i)).map DV.int)) ∧ ∀ x, x ≠ q → g2 x = g' x) ⟨_, _, rfl, gup_same, fun x hx => gup_ne hx⟩ ?_ ?_
    · intro i x hx δ g2 f3 hf3 hI
      obtain ⟨v6, v7, e, gq, go2⟩ := hI
      subst e
      obtain ⟨hil, e⟩ := rangeD_at hx
      subst e
      have hit : i < t.length := by omega
      have hface : t.eraseIdx i ∈ LA.ofSz A (s - 1) := LA.mem_ofSz.mpr ⟨hA.dn t htm.1 i hit, by rw [List.length_eraseIdx_of_lt hit, hts]⟩
      obtain ⟨jj, hj1, hj2⟩ := find_face hface
      refine ⟨_, rfl, ?_⟩
      walk_at "rr26"
      refine rd_rI (by decide) ?_
      walk_at "rr26"
      refine rd_eq (okD_int _) (okD_int _) ?_
      rw [eqD_int]
      by_cases c : ((i : Nat) : Int) % 2 = 0
      · rw [decide_eq_true c]
        have hsg : (1 : Int) = LA.sg i := by unfold LA.sg; rw [if_pos (by omega)]
        walk_at "rr26"
        refine ⟨⟨_, rfl⟩, ?_⟩
        walk_at "rr26"
        rw [cut_to (by rw [List.length_map]; omega), show ((i : Int) + 1) = ((i + 1 : Nat) : Int) from rfl, cut_fr (by rw [List.length_map]; omega), ← List.map_take, ← List.map_drop]
        refine rd_addT (by rw [List.length_map, List.length_map, List.length_take, List.length_drop]; have := subs_each 7 t (h7 t htm.1); omega) ?_
        rw [← List.map_append, ← List.eraseIdx_eq_take_drop_succ]
        walk_at "rr26"
        refine ⟨_, _, tI (t.eraseIdx i), jj, rfl, rfl, okD_lIs' _, okD_tI _, (by rw [List.getElem?_map, hj1]; rfl), (by rw [eqD_tI]; exact decide_eq_true rfl), hj2, ?_⟩
        refine rd_setK gq (ixN_n (by rw [List.length_map, List.length_map]; exact (List.getElem?_eq_some_iff.mp hj1).1)) ?_
        rw [set_bd hnd htn hit hj1 hsg]
        walk_at "rr26"
        exact hf3 _ _ ⟨_, _, rfl, gup_same, fun x hx => by rw [gup_ne hx, go2 x hx]⟩
      · rw [decide_eq_false c]
        have hsg : (-1 : Int) = LA.sg i := by unfold LA.sg; rw [if_neg (by omega)]
        walk_at "rr26"
        refine ⟨⟨_, rfl⟩, ?_⟩
        walk_at "rr26"
        rw [cut_to (by rw [List.length_map]; omega), show ((i : Int) + 1) = ((i + 1 : Nat) : Int) from rfl, cut_fr (by rw [List.length_map]; omega), ← List.map_take, ← List.map_drop]
        refine rd_addT (by rw [List.length_map, List.length_map, List.length_take, List.length_drop]; have := subs_each 7 t (h7 t htm.1); omega) ?_
        rw [← List.map_append, ← List.eraseIdx_eq_take_drop_succ]
        walk_at "rr26"
        refine ⟨_, _, tI (t.eraseIdx i), jj, rfl, rfl, okD_lIs' _, okD_tI _, (by rw [List.getElem?_map, hj1]; rfl), (by rw [eqD_tI]; exact decide_eq_true rfl), hj2, ?_⟩
        refine rd_setK gq (ixN_n (by rw [List.length_map, List.length_map]; exact (List.getElem?_eq_some_iff.mp hj1).1)) ?_
        rw [set_bd hnd htn hit hj1 hsg]
        walk_at "rr26"
        exact hf3 _ _ ⟨_, _, rfl, gup_same, fun x hx => by rw [gup_ne hx, go2 x hx]⟩
    · intro δ g2 hI
      obtain ⟨v6, v7, e, gq, go2⟩ := hI
      subst e
      have hpb : pbd t s = LA.bd t := by rw [← hts]; rfl
      rw [rangeD_len, hpb] at gq
      refine rd_fz rfl gq ?_
      walk_at "rr26"
      have gqa : gdel g2 q a = some (.lst (((LA.dense A s).take j).map lI)) := by rw [gdel_ne hqa.symm, go2 a hqa.symm]; exact ga
      have hdl : (LA.dense A s).length ≤ A.length := (by unfold LA.dense; rw [List.length_map]; exact List.length_filter_le _ _)
      refine ⟨lstS4 gqa, ?_⟩
      walk_at "rr26"
      refine rd_append gqa (by rw [List.length_map, List.length_take]; omega) ?_
      walk_at "rr26"
      refine hf2 _ _ ⟨_, _, _, _, rfl, ?_, fun x hx => ?_⟩
      · rw [gup_same, dense_snoc ht, List.map_append]
        rfl
      · rw [gup_ne hx]
        by_cases h1 : x = q
        · subst h1
          refine (go x hx).elim (fun z => .inr ?_) .inr
          rw [← z]
          exact hq
        · rw [gdel_ne h1, go2 x h1]
          exact go x hx
  · intro δ g' hI
    obtain ⟨v4, v5, v6, v7, e, ga, go⟩ := hI
    subst e
    rw [List.length_map, show (LA.ofSz A s).length = (LA.dense A s).length from (List.length_map _).symm, List.take_length] at ga
    refine rd_fz rfl ga ?_
    walk_at "rr26"
    refine ⟨g, fun x => ?_, k⟩
    by_cases h1 : x = a
    · subst h1; exact .inr ha
    · rw [gdel_ne h1]
      exact (go x h1).elim (fun z => .inl z.symm) .inr

abbrev s_qholes : Stmt := topS 43
abbrev N_qholes : List Str := ["_law_members", "_law_prime", "_law_top", "_law_ranks", "_law_one", "_law_size"]
theorem sc_qholes : FnScope N_qholes ["_law_members", "_law_prime"] (defScope s_qholes) := ⟨rfl, rfl, rfl, by decide +kernel, rfl, by decide +kernel, by decide +kernel⟩
abbrev sp_qholes (c_KeptSets c_Family : Addr) : SpD :=
  sp2 fun a b g P => ∃ (n : Nat) (S : List (List Int)) (p : Int), a = .lst ((allL n S).map tI) ∧ b = .int p ∧ Fld p ∧ 1 ≤ n ∧ n ≤ 6 ∧ P (.tup ((LA.holesV (LA.modP p.toNat) (allL n S)).map DV.int)) g

local macro_rules | `(tactic| walk_at "rr27") => `(tactic| (repeat (first | (with_reducible first | refine rd_seq ?_ | refine rd_seqE ?_ | refine rd_next ?_ | refine rd_rtE ?_ | refine rd_nxE ?_ | refine rd_nx ?_ | refine rd_rt ?_ | refine rd_drop ?_ | refine rd_ret ?_ | refine rd_dif ?_ | refine rd_asg ?_ | refine rd_c ?_ | refine rd_op ?_ | refine rd_b ?_ | refine rd_bK ?_ | refine rd_nil ?_ | refine rd_cons ?_ | refine rd_tup ?_ | refine rd_lst ?_ | refine rd_cb ?_ | refine rd_call ?_ | refine rd_sp1 ?_ | refine rd_sp2 ?_ | refine rd_sp3 ?_ | refine rd_add ?_ | refine rd_sub ?_ | refine rd_lc ?_ | refine rd_yes ?_ | refine rd_wseq ?_ | refine rd_wsT ?_ | refine rd_wsL ?_ | refine rd_wsS ?_ | refine rd_rng1 ?_ | refine rd_rng2 ?_ | refine rd_itet ?_ | refine rd_itef ?_ | refine rd_itnt ?_ | refine rd_itnf ?_) | ((with_reducible apply rd_var); (· exact rfl)) | ((with_reducible apply rd_asgK); (· exact rfl)) | ((with_reducible apply rd_len); (· (first | assumption | exact seqD_ref (by assumption) | exact seqD_up | exact lstD_ref (by assumption) | exact lstD_up | rfl))) | ((with_reducible apply rd_tuple); (· (first | assumption | exact seqD_ref (by assumption) | exact seqD_up | exact lstD_ref (by assumption) | exact lstD_up | rfl))) | ((with_reducible apply rd_ix); (· (first | assumption | exact seqD_ref (by assumption) | exact seqD_up | exact lstD_ref (by assumption) | exact lstD_up | rfl)); (· (first | exact atI_c0 _ _ | exact atI_c1 _ _ _ | exact atI_c2 _ _ _ _ | assumption | rfl))))))
theorem ok_qholes {P : Program} {w : World} {K : Fg} {mg : Str → Option Value} {base : Heap} {t_FAR_PRIME t_MAX_CORNERS t_MAX_FIELD t_MAX_PASSED : Tok} {c_KeptSets c_Family : Addr} {f f_qrank f_qboundary : Addr} {fd d_qrank d_qboundary : FuncData} (D : Dfn K mg "_law_holes" s_qholes ["_law_members", "_law_prime"] f fd) (T : Txt P K mg t_FAR_PRIME t_MAX_CORNERS t_MAX_FIELD t_MAX_PASSED c_KeptSets c_Family) (D_qrank : Dfn K mg "_law_rank" s_qrank ["_law_rows", "_law_prime"] f_qrank d_qrank) (G_qrank : FnOk P w K mg base CX0 2 f_qrank d_qrank ["_law_rows", "_law_prime"] (upSp K (sp_qrank c_KeptSets c_Family))) (D_qboundary : Dfn K mg "_law_boundary" s_qboundary ["_law_members", "_law_size"] f_qboundary d_qboundary) (G_qboundary : FnOk P w K mg base CX0 1 f_qboundary d_qboundary ["_law_members", "_law_size"] (upSp K (sp_qboundary c_KeptSets c_Family))) :
    FnOk P w K mg base CX0 3 f fd ["_law_members", "_law_prime"] (upSp K (sp_qholes c_KeptSets c_Family)) := by
  refine fun_okD D.fn sc_qholes (fun ds g Q h => len2 h) (fun cdv A outer s H E hr => ⟨_, (pds_cons (pds_if (pt_cmpD (op_eqD hr.units) (RefCmp.op ref_eq) (pdv 0) (pd_lst pda_nil) (nomark _)) (pds_one (pds_ret (pd_tup pda_nil))) pds_nil) (pds_cons (pds_set (i := 2) sc_qholes.nd (pd_callB (cr_maxS rfl) ref_maxS T.b_max (by decide +kernel) (pda_cons (pd_lc (own := [("_law_one", 4)]) (tg := .nm 4) rfl sc_qholes.nd (pid_seq (pdv 0)) (blkOk_by (own := [("_law_one", 4)]) (N := N_qholes) (sc := defScope s_qholes) (by decide +kernel)) (fun _ _ _ _ _ => (pgd_nm (i := 4) sc_qholes.nd)) (fun _ _ _ _ _ => ptsd_nil) (fun _ _ _ _ _ => (pd_callB call_len_seq ref_len T.b_len (by decide +kernel) (pda_cons (pdv 4) pda_nil)))) pda_nil))) (pds_cons (pds_set (i := 3) sc_qholes.nd (pd_add (pd_add (pd_lst (pda_cons pd_int pda_nil)) (pd_lc (own := [("_law_size", 5)]) (tg := .nm 5) rfl sc_qholes.nd (pid_range2 T.b_range (pda_cons pd_int (pda_cons (pd_add (pdv 2) pd_int) pda_nil))) (blkOk_by (own := [("_law_size", 5)]) (N := N_qholes) (sc := defScope s_qholes) (by decide +kernel)) (fun _ _ _ _ _ => (pgd_nm (i := 5) sc_qholes.nd)) (fun _ _ _ _ _ => ptsd_nil) (fun _ _ _ _ _ => (pd_call G_qrank (hr.mono (by decide)) D_qrank.at_ D_qrank.fn.kp D_qrank.bd pass0 (pda_cons (pd_call G_qboundary (hr.mono (by decide)) D_qboundary.at_ D_qboundary.fn.kp D_qboundary.bd pass0 (pda_cons (pdv 0) (pda_cons (pdv 5) pda_nil))) (pda_cons (pdv 1) pda_nil)))))) (pd_lst (pda_cons pd_int pda_nil)))) (pds_one (pds_ret (pd_callTy call_tuple_of ref_tuple T.b_tuple (by decide +kernel) (pda_cons (pd_lc (own := [("_law_size", 5)]) (tg := .nm 5) rfl sc_qholes.nd (pid_range1 T.b_range (pda_cons (pd_add (pdv 2) pd_int) pda_nil)) (blkOk_by (own := [("_law_size", 5)]) (N := N_qholes) (sc := defScope s_qholes) (by decide +kernel)) (fun _ _ _ _ _ => (pgd_nm (i := 5) sc_qholes.nd)) (fun _ _ _ _ _ => ptsd_nil) (fun _ _ _ _ _ => (pd_sub (pd_sub (pd_callB call_len_seq ref_len T.b_len (by decide +kernel) (pda_cons (pd_lc (own := [("_law_one", 4)]) (tg := .nm 4) rfl sc_qholes.nd (pid_seq (pdv 0)) (blkOk_by (own := [("_law_one", 4)]) (N := N_qholes) (by kernel_rfl)) (fun _ _ _ _ _ => (pgd_nm (i := 4) sc_qholes.nd)) (fun _ _ _ _ _ => (ptsd_one (pt_cmpD (op_eqD hr.units) (RefCmp.op ref_eq) (pd_callB call_len_seq ref_len T.b_len (by decide +kernel) (pda_cons (pdv 4) pda_nil)) (pdv 5) (nomark _)))) (fun _ _ _ _ _ => (pdv 4))) pda_nil)) (pd_ix (pdv 3) (pdv 5))) (pd_ix (pdv 3) (pd_add (pdv 5) pd_int))))) pda_nil))))))), ?_⟩)
  intro ds g Q h
  obtain ⟨a0, a1, rfl, h⟩ := sp2_of h
  rw [show startD N_qholes [a0, a1] = [some a0, some a1, none, none, none, none] from rfl]
  obtain ⟨n, S, p, e1, e2, hf, n1, n6, k⟩ := h
  subst e1 e2
  obtain ⟨hok, h97⟩ := okP_f hf
  have hpm := hok.prm
  have hA := all_cpx n S
  have h6 : ∀ x ∈ allL n S, x.length ≤ 6 := fun x hx => Nat.le_trans (subs_each n x (allL_sub hx)) n6
  have h7 := fun x hx => sub7 (show n ≤ 7 by omega) (allL_sub (n := n) (S := S) (x := x) hx)
  have hl := allL_len (show n ≤ 8 by omega) S
  have ht7 := top_le7 h7
  walk_at "rr27"
  refine rd_zK (by show 0 ≤ 16777216; decide) ?_
  refine rd_eq (okD_lIs' _) (okD_lIs' []) ?_
  rw [eqD_nilL, List.isEmpty_map]
  by_cases c0 : allL n S = []
  · rw [c0, holes_nil] at k
    rw [c0]
    rw [show ([] : List (List Int)).isEmpty = true from rfl]
    walk_at "rr27"
    refine rd_zK (by show 0 ≤ 16777216; decide) ?_
    exact dret k
  · rw [show (allL n S).isEmpty = false from by cases e : allL n S with
      | nil => exact absurd e c0
      | cons _ _ => rfl]
    have hten : p.toNat = 0 → ∀ s, LA.rk (LA.modP p.toNat) (allL n S) s ≤ 10 := fun z s => by rw [z, mod_zero]; exact rk_ten n1 n6 S s
    have hpn : DV.int p = DV.int ((p.toNat : Nat) : Int) := by rw [Int.toNat_of_nonneg (fld_in hf).1]
    generalize allL n S = A at hA h6 h7 hl ht7 c0 k hten ⊢
    rw [holes_ne c0] at k
    walk_at "rr27"
    refine rd_zK (by rw [List.length_map]; omega) (comp_map (f := lenF) (fun d hd => ?_) ?_)
    · obtain ⟨x, hx, e⟩ := tI_mem hd
      subst e
      refine ⟨_, rfl, fun Q2 h2 => ?_⟩
      rw [lenF_tI] at h2
      walk_at "rr27"
      rw [List.length_map]
      exact h2
    rw [len_map]
    walk_at "rr27"
    refine rd_maxS (ns := A.map fun x => (x.length : Int)) rfl (by rw [List.length_map]; exact List.length_pos_iff.mpr c0) fun z hz0 hzm => ?_
    rw [top_z hz0 hzm]
    walk_at "rr27"
    refine rd_zK (by show 1 ≤ 16777216; decide) ?_
    walk_at "rr27"
    refine rd_rng2K (by unfold rngOk; omega) ?_
    rw [show (((LA.topOf A : Nat) : Int) + 1 - 1).toNat = LA.topOf A by omega]
    refine rd_zK (by rw [rangeD_len]; omega) (comp_map (f := nF fun i => (LA.rk (LA.modP p.toNat) A i : Int)) (fun d hd => ?_) ?_)
    · obtain ⟨i, e, hi0, hi1⟩ := rangeD_mem hd
      subst e
      obtain ⟨m, rfl⟩ := Int.eq_ofNat_of_zero_le (show 0 ≤ i by omega)
      refine ⟨_, rfl, fun Q2 h2 => ?_⟩
      have l1 : (LA.ofSz A (m - 1)).length ≤ 300 := Nat.le_trans (List.length_filter_le _ _) (by omega)
      have l2 : (LA.dense A m).length ≤ 300 := by unfold LA.dense; rw [List.length_map]; exact Nat.le_trans (List.length_filter_le _ _) (by omega)
      walk_at "rr27"
      refine ⟨A, m, rfl, rfl, hA, by omega, h7, by omega, by omega, ?_⟩
      walk_at "rr27"
      refine ⟨LA.dense A m, (LA.ofSz A (m - 1)).length, p.toNat, rfl, hpn, hok, h97, fun v hv => ?_, l1, l2, fun v hv x hx => ?_, fun z => ?_, ?_⟩
      · obtain ⟨t, _, rfl⟩ := List.mem_map.mp hv
        rw [List.length_map]
      · obtain ⟨t, ht, rfl⟩ := List.mem_map.mp hv
        obtain ⟨c, _, rfl⟩ := List.mem_map.mp hx
        exact bd_one (hA.asc t (LA.mem_ofSz.mp ht).1).nodup c
      · rw [dense_rkOf hpm hA]
        exact hten z m
      · rw [dense_rkOf hpm hA]
        exact h2
    rw [nF_map1]
    walk_at "rr27"
    refine rd_addL (by rw [List.length_map, List.length_map, List.length_range]; show 1 + _ ≤ _; omega) ?_
    walk_at "rr27"
    refine rd_zK (by show 1 ≤ 16777216; decide) ?_
    walk_at "rr27"
    refine rd_addL (by rw [List.length_append, List.length_map, List.length_map, List.length_range]; show 1 + _ + 1 ≤ _; omega) ?_
    have hrow : ([DV.int 0] ++ List.map DV.int (List.map (fun i => ((LA.rk (LA.modP p.toNat) A (i + 1) : Nat) : Int)) (List.range (LA.topOf A))) ++ [DV.int 0]) = (rkL (LA.modP p.toNat) A (LA.topOf A)).map DV.int := by
      rw [← rk_row hpm A, List.map_cons, List.map_append]
      rfl
    rw [hrow]
    walk_at "rr27"
    refine rd_rng1K ⟨by omega, by omega⟩ ?_
    rw [show (((LA.topOf A : Nat) : Int) + 1).toNat = LA.topOf A + 1 by omega]
    refine rd_zK (by rw [rangeD_len]; omega) (comp_map (f := nF fun i => (LA.many A i : Int) - (LA.rk (LA.modP p.toNat) A i : Int) - (LA.rk (LA.modP p.toNat) A (i + 1) : Int)) (fun d hd => ?_) ?_)
    · obtain ⟨i, e, hi0, hi1⟩ := rangeD_mem hd
      subst e
      obtain ⟨m, rfl⟩ := Int.eq_ofNat_of_zero_le hi0
      refine ⟨_, rfl, fun Q2 h2 => ?_⟩
      walk_at "rr27"
      refine rd_zK (by rw [List.length_map]; omega) (comp_fil (p := szF m) (f := fun d => d) (fun d hd => ?_) ?_)
      · obtain ⟨x, hx, e⟩ := tI_mem hd
        subst e
        refine ⟨_, rfl, fun Q' h' => ?_, fun _ Q2 h2 => ?_⟩
        · walk_at "rr27"
          refine rd_eq (okD_int _) (okD_int _) ?_
          rw [eqD_int, List.length_map]
          unfold szF at h'
          rw [oneT_tI] at h'
          exact h'
        · walk_at "rr27"
          exact h2
      rw [sz_map]
      walk_at "rr27"
      rw [List.length_map]
      (with_reducible apply rd_ix)
      · rfl
      · exact atI_nat (rkL_at (by omega))
      walk_at "rr27"
      (with_reducible apply rd_ix)
      · rfl
      · exact atI_nat (j := m + 1) (rkL_at (by omega))
      walk_at "rr27"
      exact h2
    rw [nF_map]
    walk_at "rr27"
    exact dret k

abbrev s_qmixed : Stmt := topS 44
abbrev N_qmixed : List Str := ["_law_pot_here", "_law_size", "_law_left", "_law_found"]
theorem sc_qmixed : FnScope N_qmixed ["_law_pot_here", "_law_size"] (defScope s_qmixed) := ⟨rfl, rfl, rfl, by decide +kernel, rfl, by decide +kernel, by decide +kernel⟩
abbrev sp_qmixed (c_KeptSets c_Family : Addr) : SpD :=
  sp2 fun a b g P => ∃ (p : Addr) (m : Nat) (L : List DV) (n : Nat), a = .ref p ∧ b = .int (n : Int) ∧ 1 ≤ n ∧ n ≤ 8 ∧ g p = some (.lst L) ∧ PotF m L ∧ m ≤ 90000 ∧ ∀ (N : List Int) (L' : List DV), Nms n N → PotF (m + 10) L' → P (.lst (N.map DV.int)) (gup g p (.lst L'))

local macro_rules | `(tactic| walk_at "rr28") => `(tactic| (repeat (first | (with_reducible first | refine rd_seq ?_ | refine rd_seqE ?_ | refine rd_next ?_ | refine rd_rtE ?_ | refine rd_nxE ?_ | refine rd_nx ?_ | refine rd_rt ?_ | refine rd_ct ?_ | refine rd_bk ?_ | refine rd_drop ?_ | refine rd_ret ?_ | refine rd_par ?_ | refine rd_c ?_ | refine rd_op ?_ | refine rd_b ?_ | refine rd_bK ?_ | refine rd_nil ?_ | refine rd_cons ?_ | refine rd_lst ?_ | refine rd_lstM ?_ | refine rd_cb ?_ | refine rd_call ?_ | refine rd_sp1 ?_ | refine rd_sp2 ?_ | refine rd_sp3 ?_ | refine rd_mt ?_ | refine rd_mt0 ?_ | refine rd_lstRg ?_ | refine rd_itet ?_ | refine rd_itef ?_ | refine rd_itnt ?_ | refine rd_itnf ?_) | ((with_reducible apply rd_var); (· exact rfl)) | ((with_reducible apply rd_parK); (· exact rfl)) | ((with_reducible apply rd_len); (· (first | assumption | exact seqD_ref (by assumption) | exact seqD_up | exact lstD_ref (by assumption) | exact lstD_up | rfl))) | ((with_reducible apply rd_some); (· (first | assumption | exact seqD_ref (by assumption) | exact seqD_up | exact lstD_ref (by assumption) | exact lstD_up | rfl))))))
theorem ok_qmixed {P : Program} {w : World} {K : Fg} {mg : Str → Option Value} {base : Heap} {t_FAR_PRIME t_MAX_CORNERS t_MAX_FIELD t_MAX_PASSED : Tok} {c_KeptSets c_Family : Addr} {f f_qdip : Addr} {fd d_qdip : FuncData} (D : Dfn K mg "_law_mixed" s_qmixed ["_law_pot_here", "_law_size"] f fd) (T : Txt P K mg t_FAR_PRIME t_MAX_CORNERS t_MAX_FIELD t_MAX_PASSED c_KeptSets c_Family) (D_qdip : Dfn K mg "_law_dip" s_qdip ["_law_pot_here", "_law_total"] f_qdip d_qdip) (G_qdip : FnOk P w K mg base CX0 1 f_qdip d_qdip ["_law_pot_here", "_law_total"] (upSp K (sp_qdip c_KeptSets c_Family))) :
    FnOk P w K mg base CX0 2 f fd ["_law_pot_here", "_law_size"] (upSp K (sp_qmixed c_KeptSets c_Family)) := by
  refine fun_okD D.fn sc_qmixed (fun ds g Q h => len2 h) (fun cdv A outer s H E hr => ⟨_, (pds_cons (pds_par (i := 2) (j := 3) rfl sc_qmixed.nd (pda_cons (pd_lstRgM T.b_list T.b_range (pdv 1)) (pda_cons (pd_lstM pda_nil) pda_nil))) (pds_cons (pds_while PassesOwn.never (pt_cmpD (op_neD hr.units) (RefCmp.op ref_neR) (pdv 2) (pd_lst pda_nil) (nomark _)) (pds_one (pds_expr (pd_append (pdv 3) (pda_cons (pd_popAt (pdv 2) (pda_cons (pd_call G_qdip (hr.mono (by decide)) D_qdip.at_ D_qdip.fn.kp D_qdip.bd pass0 (pda_cons (pdv 0) (pda_cons (pd_callB call_len_seq ref_len T.b_len (by decide +kernel) (pda_cons (pdv 2) pda_nil)) pda_nil))) pda_nil)) pda_nil))))) (pds_fz 3 (pds_one (pds_ret (pdv 3)))))), ?_⟩)
  intro ds g Q h
  obtain ⟨a0, a1, rfl, h⟩ := sp2_of h
  rw [show startD N_qmixed [a0, a1] = [some a0, some a1, none, none] from rfl]
  obtain ⟨p, m, L, n, e1, e2, n1, n8, hg, hp, hm, k⟩ := h
  subst e1 e2
  refine rd_lstRgM ?_
  walk_at "rr28"
  refine rd_rgMK (by omega) ?_
  intro a ha
  walk_at "rr28"
  refine rd_zK (by show 0 ≤ 16777216; decide) ?_
  intro b hb
  have hap : a ≠ p := fun z => by rw [z, hg] at ha; cases ha
  have hba : b ≠ a := fun z => by rw [z, gup_same] at hb; cases hb
  rw [gup_ne hba] at hb
  have hbp : b ≠ p := fun z => by rw [z, hg] at hb; cases hb
  walk_at "rr28"
  refine rd_while (I := fun kk δ g' => ∃ (X Y : List Int) (L' : List DV), δ = [some (.ref p), some (.int (n : Int)), some (.ref a), some (.ref b)] ∧ (Y ++ X).Perm ((List.range n).map fun i : Nat => (i : Int)) ∧ X.length < kk ∧ PotF (m + Y.length) L' ∧ g' p = some (.lst L') ∧ g' a = some (.lst (X.map DV.int)) ∧ g' b = some (.lst (Y.map DV.int)) ∧ ∀ x, x ≠ p → x ≠ a → x ≠ b → g' x = g x) _ ⟨(List.range n).map fun i : Nat => (i : Int), [], L, rfl, List.Perm.refl _, Nat.lt_succ_self _, hp, by rw [gup_ne hbp.symm, gup_ne hap.symm]; exact hg, by rw [gup_ne hba.symm, gup_same, rangeD_ints], gup_same, fun x h1 h2 h3 => by rw [gup_ne h3, gup_ne h2]⟩ (fun δ g' ⟨_, _, _, _, _, h, _⟩ => by omega) (fun kk δ g' f hf hI => ?_)
  obtain ⟨X, Y, L', e, hpm, hkk, hp', gp, ga, gb, go⟩ := hI
  subst e
  have hxy : Y.length + X.length = n := by
    have := hpm.length_eq
    rwa [List.length_append, List.length_map, List.length_range] at this
  walk_at "rr28"
  refine rd_zK (by show 0 ≤ 16777216; decide) ?_
  refine rd_neR ga (okD_lI' X) (okD_lI' []) ?_
  rw [eqD_nilI4]
  walk_at "rr28"
  refine rd_iteb (fun c => ?_) (fun c => ?_)
  · have hX : X ≠ [] := by intro z; subst z; cases c
    have hX0 := List.length_pos_iff.mpr hX
    walk_at "rr28"
    refine ⟨p, _, m + Y.length, L', rfl, rfl, by rw [List.length_map]; omega, by rw [List.length_map]; exact Nat.lt_trans (show ((X.length : Nat) : Int).natAbs < 100000 by omega) (by decide), gp, hp', by omega, fun r L1 r0 r1 hp1 => ?_⟩
    obtain ⟨i, rfl⟩ := Int.eq_ofNat_of_zero_le r0
    rw [List.length_map] at r1
    have hi : i < X.length := by omega
    walk_at "rr28"
    refine rd_popAt (y := .int X[i]) (by rw [gup_ne hap]; exact ga) (by rw [List.getElem?_map, List.getElem?_eq_getElem hi]; rfl) (by rw [List.length_map]; omega) ?_
    walk_at "rr28"
    refine rd_append (by rw [gup_ne hba, gup_ne hbp]; exact gb) (by rw [List.length_map]; omega) ?_
    walk_at "rr28"
    refine hf _ _ ⟨X.eraseIdx i, Y ++ [X[i]], L1, rfl, ?_, by rw [List.length_eraseIdx_of_lt hi]; omega, hp1.more (by rw [List.length_append]; exact Nat.le_refl _), ?_, ?_, ?_, fun x h1 h2 h3 => ?_⟩
    · rw [List.append_assoc]
      exact (List.Perm.append_left Y (erase_perm4 hi)).trans hpm
    · rw [gup_ne hbp.symm, gup_ne hap.symm, gup_same]
    · rw [gup_ne hba.symm, gup_same, erase_map4]
    · rw [gup_same, List.map_append]
      rfl
    · rw [gup_ne h3, gup_ne h2, gup_ne h1, go x h1 h2 h3]
  · have hX : X = [] := by
      cases X with
      | nil => rfl
      | cons _ _ => cases c
    subst hX
    rw [List.append_nil] at hpm
    walk_at "rr28"
    refine rd_fz rfl gb ?_
    walk_at "rr28"
    refine ⟨gup g p (.lst L'), fun x => ?_, k Y L' ⟨by rw [hpm.length_eq, List.length_map, List.length_range], hpm.nodup_iff.mpr (LA.map_nodup List.nodup_range fun i _ j _ e => by omega), fun x hx => by
      obtain ⟨i, hi, rfl⟩ := List.mem_map.mp (hpm.mem_iff.mp hx)
      have := List.mem_range.mp hi
      omega⟩ (hp'.more (by have := hpm.length_eq; rw [List.length_map, List.length_range] at this; omega))⟩
    by_cases h1 : x = p
    · subst h1
      left
      rw [gup_same, gdel_ne hbp.symm, gp]
    · by_cases h3 : x = b
      · subst h3
        right
        rw [gup_ne h1]
        exact hb
      · by_cases h2 : x = a
        · subst h2
          right
          rw [gup_ne h1]
          exact ha
        · left
          rw [gup_ne h1, gdel_ne h3, go x h1 h2 h3]

abbrev s_qrenamed : Stmt := topS 45
abbrev N_qrenamed : List Str := ["_law_names", "_law_sets_here", "_law_one", "_law_corner"]
theorem sc_qrenamed : FnScope N_qrenamed ["_law_names", "_law_sets_here"] (defScope s_qrenamed) := ⟨rfl, rfl, rfl, by decide +kernel, rfl, by decide +kernel, by decide +kernel⟩
abbrev sp_qrenamed (c_KeptSets c_Family : Addr) : SpD :=
  sp2 fun a b g P => ∃ (n : Nat) (N : List Int) (S : List (List Int)) (c : Bool), a = .lst (N.map DV.int) ∧ b = (if c then .tup (S.map tI) else .lst (S.map tI)) ∧ Nms n N ∧ n ≤ 8 ∧ InS n S ∧ S.length ≤ 256 ∧ P (.tup ((S.map (LA.srt (nmF N))).map tI)) g

local macro_rules | `(tactic| walk_at "rr29") => `(tactic| (repeat (first | (with_reducible first | refine rd_seq ?_ | refine rd_seqE ?_ | refine rd_next ?_ | refine rd_rtE ?_ | refine rd_nxE ?_ | refine rd_nx ?_ | refine rd_rt ?_ | refine rd_drop ?_ | refine rd_ret ?_ | refine rd_c ?_ | refine rd_op ?_ | refine rd_b ?_ | refine rd_bK ?_ | refine rd_nil ?_ | refine rd_cons ?_ | refine rd_cb ?_ | refine rd_call ?_ | refine rd_sp1 ?_ | refine rd_sp2 ?_ | refine rd_sp3 ?_ | refine rd_lc ?_ | refine rd_yes ?_ | refine rd_wseq ?_ | refine rd_wsT ?_ | refine rd_wsL ?_ | refine rd_wsS ?_ | refine rd_itet ?_ | refine rd_itef ?_ | refine rd_itnt ?_ | refine rd_itnf ?_) | ((with_reducible apply rd_var); (· exact rfl)) | ((with_reducible apply rd_tuple); (· (first | assumption | exact seqD_ref (by assumption) | exact seqD_up | exact lstD_ref (by assumption) | exact lstD_up | rfl))) | ((with_reducible apply rd_ix); (· (first | assumption | exact seqD_ref (by assumption) | exact seqD_up | exact lstD_ref (by assumption) | exact lstD_up | rfl)); (· (first | exact atI_c0 _ _ | exact atI_c1 _ _ _ | exact atI_c2 _ _ _ _ | assumption | rfl))))))
theorem ok_qrenamed {P : Program} {w : World} {K : Fg} {mg : Str → Option Value} {base : Heap} {t_FAR_PRIME t_MAX_CORNERS t_MAX_FIELD t_MAX_PASSED : Tok} {c_KeptSets c_Family : Addr} {f : Addr} {fd : FuncData} (D : Dfn K mg "_law_renamed" s_qrenamed ["_law_names", "_law_sets_here"] f fd) (T : Txt P K mg t_FAR_PRIME t_MAX_CORNERS t_MAX_FIELD t_MAX_PASSED c_KeptSets c_Family) :
    FnOk P w K mg base CX0 1 f fd ["_law_names", "_law_sets_here"] (upSp K (sp_qrenamed c_KeptSets c_Family)) := by
  refine fun_okD D.fn sc_qrenamed (fun ds g Q h => len2 h) (fun cdv A outer s H E hr => ⟨_, (pds_one (pds_ret (pd_callTy call_tuple_of ref_tuple T.b_tuple (by decide +kernel) (pda_cons (pd_lc (own := [("_law_one", 2)]) (tg := .nm 2) rfl sc_qrenamed.nd (pid_seq (pdv 1)) (blkOk_by (own := [("_law_one", 2)]) (N := N_qrenamed) (sc := defScope s_qrenamed) (by decide +kernel)) (fun _ _ _ _ _ => (pgd_nm (i := 2) sc_qrenamed.nd)) (fun _ _ _ _ _ => ptsd_nil) (fun _ _ _ _ _ => (pd_callTy call_tuple_of ref_tuple T.b_tuple (by decide +kernel) (pda_cons (pd_callB (cr_sortedD hr.units) ref_sorted T.b_sorted (by decide +kernel) (pda_cons (pd_lc (own := [("_law_corner", 3)]) (tg := .nm 3) rfl sc_qrenamed.nd (pid_seq (pdv 2)) (blkOk_by (own := [("_law_corner", 3)]) (N := N_qrenamed) (by kernel_rfl)) (fun _ _ _ _ _ => (pgd_nm (i := 3) sc_qrenamed.nd)) (fun _ _ _ _ _ => ptsd_nil) (fun _ _ _ _ _ => (pd_ix (pdv 0) (pdv 3)))) pda_nil)) pda_nil)))) pda_nil)))), ?_⟩)
  intro ds g Q h
  obtain ⟨a0, a1, rfl, h⟩ := sp2_of h
  rw [show startD N_qrenamed [a0, a1] = [some a0, some a1, none, none] from rfl]
  obtain ⟨n, N, S, c, e1, e2, hN, n8, hS, hl, k⟩ := h
  cases c
  · have e3 := e2.trans (if_neg Bool.false_ne_true)
    subst e1 e3
    walk_at "rr29"
    refine rd_zK (by rw [List.length_map]; omega) (comp_map (f := fun d => tI (LA.srt (nmF N) (oneT d))) (fun d hd => ?_) ?_)
    · obtain ⟨x, hx, e⟩ := tI_mem hd
      subst e
      have hxg := sub_good (hS x hx)
      have hxl := subs_each _ x (hS x hx)
      refine ⟨_, rfl, fun Q2 h2 => ?_⟩
      rw [oneT_tI] at h2
      walk_at "rr29"
      refine rd_zK (by rw [List.length_map]; omega) (comp_map (f := nmD N) (fun d hd => ?_) ?_)
      · obtain ⟨i, hi, e⟩ := int_me4 hd
        subst e
        have hir := hxg.2 i hi
        obtain ⟨m, rfl⟩ := Int.eq_ofNat_of_zero_le hir.1
        refine ⟨_, rfl, fun Q2 h2 => ?_⟩
        walk_at "rr29"
        (with_reducible apply rd_ix)
        · rfl
        · exact atI_nat (nm_at (by rw [hN.len]; omega))
        walk_at "rr29"
        exact h2
      rw [nmD_map]
      walk_at "rr29"
      refine rd_sorted rfl (sort_is _) ?_
      rw [sortI_map]
      walk_at "rr29"
      exact h2
    rw [ren_map]
    walk_at "rr29"
    exact dret k

  · have e3 := e2.trans (if_pos rfl)
    subst e1 e3
    walk_at "rr29"
    refine rd_zK (by rw [List.length_map]; omega) (comp_map (f := fun d => tI (LA.srt (nmF N) (oneT d))) (fun d hd => ?_) ?_)
    · obtain ⟨x, hx, e⟩ := tI_mem hd
      subst e
      have hxg := sub_good (hS x hx)
      have hxl := subs_each _ x (hS x hx)
      refine ⟨_, rfl, fun Q2 h2 => ?_⟩
      rw [oneT_tI] at h2
      walk_at "rr29"
      refine rd_zK (by rw [List.length_map]; omega) (comp_map (f := nmD N) (fun d hd => ?_) ?_)
      · obtain ⟨i, hi, e⟩ := int_me4 hd
        subst e
        have hir := hxg.2 i hi
        obtain ⟨m, rfl⟩ := Int.eq_ofNat_of_zero_le hir.1
        refine ⟨_, rfl, fun Q2 h2 => ?_⟩
        walk_at "rr29"
        (with_reducible apply rd_ix)
        · rfl
        · exact atI_nat (nm_at (by rw [hN.len]; omega))
        walk_at "rr29"
        exact h2
      rw [nmD_map]
      walk_at "rr29"
      refine rd_sorted rfl (sort_is _) ?_
      rw [sortI_map]
      walk_at "rr29"
      exact h2
    rw [ren_map]
    walk_at "rr29"
    exact dret k

abbrev s_qright : Stmt := topS 46
abbrev N_qright : List Str := ["_law_pot_here", "_law_size", "_law_sets_here", "_law_prime", "_law_field", "_law_signed", "_law_over", "_law_members", "_law_family", "_law_at", "_law_number", "_law_one", "_law_other"]
theorem sc_qright : FnScope N_qright ["_law_pot_here"] (defScope s_qright) := ⟨rfl, rfl, rfl, by decide +kernel, rfl, by decide +kernel, by decide +kernel⟩
abbrev sp_qright (c_KeptSets c_Family : Addr) : SpD :=
  sp1 fun a g P => ∃ (p : Addr) (n : Nat) (L : List DV), a = .ref p ∧ g p = some (.lst L) ∧ PotF n L ∧ n ≤ 50000 ∧ ∀ (L' : List DV), PotF (n + 60) L' → P (.bl true) (gup g p (.lst L'))

local macro_rules | `(tactic| walk_at "rr30") => `(tactic| (repeat (first | (with_reducible first | refine rd_seq ?_ | refine rd_seqE ?_ | refine rd_next ?_ | refine rd_rtE ?_ | refine rd_nxE ?_ | refine rd_nx ?_ | refine rd_rt ?_ | refine rd_ct ?_ | refine rd_bk ?_ | refine rd_drop ?_ | refine rd_ret ?_ | refine rd_dif ?_ | refine rd_asg ?_ | refine rd_par ?_ | refine rd_for ?_ | refine rd_c ?_ | refine rd_op ?_ | refine rd_b ?_ | refine rd_bK ?_ | refine rd_or ?_ | refine rd_andV ?_ | refine rd_tvKb ?_ | refine rd_ifE ?_ | refine rd_nil ?_ | refine rd_cons ?_ | refine rd_tup ?_ | refine rd_lst ?_ | refine rd_cb ?_ | refine rd_call ?_ | refine rd_sp1 ?_ | refine rd_sp2 ?_ | refine rd_sp3 ?_ | refine rd_add ?_ | refine rd_sub ?_ | refine rd_cmp ?_ | refine rd_lc ?_ | refine rd_yes ?_ | refine rd_wseq ?_ | refine rd_wsT ?_ | refine rd_wsL ?_ | refine rd_wsS ?_ | refine rd_wzip ?_ | refine rd_zipT ?_ | refine rd_prp ?_ | refine rd_prI ?_ | refine rd_mth ?_ | refine rd_mtI ?_ | refine rd_wenT ?_ | refine rd_enK ?_ | refine rd_mk ?_ | refine rd_spDf ?_ | refine rd_itet ?_ | refine rd_itef ?_ | refine rd_itnt ?_ | refine rd_itnf ?_) | ((with_reducible apply rd_var); (· exact rfl)) | ((with_reducible apply rd_asgK); (· exact rfl)) | ((with_reducible apply rd_parK); (· exact rfl)) | ((with_reducible apply rd_tuple); (· (first | assumption | exact seqD_ref (by assumption) | exact seqD_up | exact lstD_ref (by assumption) | exact lstD_up | rfl))))))
theorem ok_qright {P : Program} {w : World} {K : Fg} {mg : Str → Option Value} {base : Heap} {t_FAR_PRIME t_MAX_CORNERS t_MAX_FIELD t_MAX_PASSED : Tok} {c_KeptSets c_Family : Addr} {f f_qrenamed f_qmixed f_qholes f_qpick f_qall f_qsets f_qdip f_Family_holes f_Family___init__ f_Family_euler : Addr} {fd d_qrenamed d_qmixed d_qholes d_qpick d_qall d_qsets d_qdip d_Family_holes d_Family___init__ d_Family_euler : FuncData} (D : Dfn K mg "_law_right" s_qright ["_law_pot_here"] f fd) (T : Txt P K mg t_FAR_PRIME t_MAX_CORNERS t_MAX_FIELD t_MAX_PASSED c_KeptSets c_Family) (D_qrenamed : Dfn K mg "_law_renamed" s_qrenamed ["_law_names", "_law_sets_here"] f_qrenamed d_qrenamed) (G_qrenamed : FnOk P w K mg base CX0 1 f_qrenamed d_qrenamed ["_law_names", "_law_sets_here"] (upSp K (sp_qrenamed c_KeptSets c_Family))) (D_qmixed : Dfn K mg "_law_mixed" s_qmixed ["_law_pot_here", "_law_size"] f_qmixed d_qmixed) (G_qmixed : FnOk P w K mg base CX0 2 f_qmixed d_qmixed ["_law_pot_here", "_law_size"] (upSp K (sp_qmixed c_KeptSets c_Family))) (D_qholes : Dfn K mg "_law_holes" s_qholes ["_law_members", "_law_prime"] f_qholes d_qholes) (G_qholes : FnOk P w K mg base CX0 3 f_qholes d_qholes ["_law_members", "_law_prime"] (upSp K (sp_qholes c_KeptSets c_Family))) (D_qpick : Dfn K mg "_law_pick" s_qpick ["_law_pot_here", "_law_items"] f_qpick d_qpick) (G_qpick : FnOk P w K mg base CX0 2 f_qpick d_qpick ["_law_pot_here", "_law_items"] (upSp K (sp_qpick c_KeptSets c_Family))) (D_qall : Dfn K mg "_law_all" s_qall ["_law_size", "_law_sets_here"] f_qall d_qall) (G_qall : FnOk P w K mg base CX0 2 f_qall d_qall ["_law_size", "_law_sets_here"] (upSp K (sp_qall c_KeptSets c_Family))) (D_qsets : Dfn K mg "_law_sets" s_qsets ["_law_pot_here", "_law_size"] f_qsets d_qsets) (G_qsets : FnOk P w K mg base CX0 3 f_qsets d_qsets ["_law_pot_here", "_law_size"] (upSp K (sp_qsets c_KeptSets c_Family))) (D_qdip : Dfn K mg "_law_dip" s_qdip ["_law_pot_here", "_law_total"] f_qdip d_qdip) (G_qdip : FnOk P w K mg base CX0 1 f_qdip d_qdip ["_law_pot_here", "_law_total"] (upSp K (sp_qdip c_KeptSets c_Family))) (D_Family_holes : MtdD K c_Family "holes" "Family.holes" s_Family_holes ["self", "prime"] [0] f_Family_holes d_Family_holes) (G_Family_holes : FnOk P w K mg base CX0 5 f_Family_holes d_Family_holes ["self", "prime"] (upSp K (sp_Family_holes c_KeptSets c_Family))) (D_Family___init__ : Mtd K c_Family "__init__" "Family.__init__" s_Family___init__ ["self", "corners", "members"] f_Family___init__ d_Family___init__) (G_Family___init__ : FnOk P w K mg base CX0 5 f_Family___init__ d_Family___init__ ["self", "corners", "members"] (upSp K (sp_Family___init__ c_KeptSets c_Family))) (D_Family_euler : Prp K c_Family "euler" "Family.euler" s_Family_euler ["self"] f_Family_euler d_Family_euler) (G_Family_euler : FnOk P w K mg base CX0 1 f_Family_euler d_Family_euler ["self"] (upSp K (sp_Family_euler c_KeptSets c_Family))) :
    FnOk P w K mg base CX0 7 f fd ["_law_pot_here"] (upSp K (sp_qright c_KeptSets c_Family)) := by
  refine fun_okD D.fn sc_qright (fun ds g Q h => len1 h) (fun cdv A outer s H E hr => ⟨_, (pds_cons (pds_set (i := 1) sc_qright.nd (pd_add pd_int (pd_call G_qdip (hr.mono (by decide)) D_qdip.at_ D_qdip.fn.kp D_qdip.bd pass0 (pda_cons (pdv 0) (pda_cons pd_int pda_nil))))) (pds_cons (pds_set (i := 2) sc_qright.nd (pd_call G_qsets (hr.mono (by decide)) D_qsets.at_ D_qsets.fn.kp D_qsets.bd pass0 (pda_cons (pdv 0) (pda_cons (pdv 1) pda_nil)))) (pds_cons (pds_par (i := 7) (j := 8) rfl sc_qright.nd (pda_cons (pd_call G_qall (hr.mono (by decide)) D_qall.at_ D_qall.fn.kp D_qall.bd pass0 (pda_cons (pdv 1) (pda_cons (pdv 2) pda_nil))) (pda_cons (pd_mk (mtd_mk D_Family___init__ T.F_Family) (FnOk_r0 G_Family___init__ D_Family___init__.bd) (hr.mono (by decide)) T.g_Family (pda_cons (pdv 1) (pda_cons (pd_callTy call_tuple_of ref_tuple T.b_tuple (by decide +kernel) (pda_cons (pdv 2) pda_nil)) pda_nil))) pda_nil))) (pds_cons (pds_set (i := 3) sc_qright.nd (pd_call G_qpick (hr.mono (by decide)) D_qpick.at_ D_qpick.fn.kp D_qpick.bd pass0 (pda_cons (pdv 0) (pda_cons (pd_lst (pda_cons pd_int (pda_cons pd_int (pda_cons pd_int (pda_cons pd_int (pda_cons pd_int pda_nil)))))) pda_nil)))) (pds_cons (pds_for (tg := .nm 4) PassesOwn.never rfl (pid_seq (pd_tup (pda_cons pd_int (pda_cons (pdv 3) pda_nil)))) (pgd_nm (i := 4) sc_qright.nd) (pds_one (pds_if (pt_cmpD (op_neD hr.units) (RefCmp.op ref_ne) (pd_mth T.F_Family.sc D_Family_holes.meth (FnOk_r0 G_Family_holes D_Family_holes.bd) (hr.mono (by decide)) (pdv 8) (pda_cons (pdv 4) pda_nil)) (pd_call G_qholes (hr.mono (by decide)) D_qholes.at_ D_qholes.fn.kp D_qholes.bd pass0 (pda_cons (pdv 7) (pda_cons (pdv 4) pda_nil))) (nomark _)) (pds_one (pds_ret pd_bl)) pds_nil))) (pds_cons (pds_set (i := 5) sc_qright.nd (pd_callB (cr_sumS rfl) ref_sumS T.b_sum (by decide +kernel) (pda_cons (pd_lc (own := [("_law_at", 9), ("_law_number", 10)]) (tg := .tp [9, 10]) rfl sc_qright.nd (pid_enT T.b_enumerate (pda_cons (pd_mth T.F_Family.sc D_Family_holes.meth (FnOk_r0 G_Family_holes D_Family_holes.bd) (hr.mono (by decide)) (pdv 8) (pda_cons (pdv 3) pda_nil)) pda_nil)) (blkOk_by (own := [("_law_at", 9), ("_law_number", 10)]) (N := N_qright) (sc := defScope s_qright) (by decide +kernel)) (fun _ _ _ _ _ => (pgd_tp (is := [9, 10]) rfl (pgd_cons (i := 9) (pgd_nm (i := 9) sc_qright.nd) (pgd_cons (i := 10) (pgd_nm (i := 10) sc_qright.nd) pgd_nil)))) (fun _ _ _ _ _ => ptsd_nil) (fun _ _ _ _ _ => (pd_ifExp (pt_cmpD (op_eqD hr.units) (RefCmp.op ref_eq) (pd_mod (pdv 9) pd_int) pd_int (nomark _)) (pdv 10) (pd_sub pd_int (pdv 10))))) pda_nil))) (pds_cons (pds_if (pwd_pt (pwd_or (pt_cmpD (op_neD hr.units) (RefCmp.op ref_ne) (pdv 5) (pd_prp T.F_Family.sc D_Family_euler.pr.choose_spec (FnOk_r0 G_Family_euler D_Family_euler.bd) (hr.mono (by decide)) (pdv 8)) (nomark _)) (pwd_or1 (pt_cmpD (op_neD hr.units) (RefCmp.op ref_ne) (pd_lc (own := [("_law_one", 11), ("_law_other", 12)]) (tg := .tp [11, 12]) rfl sc_qright.nd (pid_zip T.b_zip (pda_cons (pd_mth0 T.F_Family.sc D_Family_holes.meth (FnOk_r1 G_Family_holes D_Family_holes.bd1) (hr.mono (by decide)) (pdv 8)) (pda_cons (pd_mth T.F_Family.sc D_Family_holes.meth (FnOk_r0 G_Family_holes D_Family_holes.bd) (hr.mono (by decide)) (pdv 8) (pda_cons (pdv 3) pda_nil)) pda_nil))) (blkOk_by (own := [("_law_one", 11), ("_law_other", 12)]) (N := N_qright) (sc := defScope s_qright) (by decide +kernel)) (fun _ _ _ _ _ => (pgd_tp (is := [11, 12]) rfl (pgd_cons (i := 11) (pgd_nm (i := 11) sc_qright.nd) (pgd_cons (i := 12) (pgd_nm (i := 12) sc_qright.nd) pgd_nil)))) (fun _ _ _ _ _ => (ptsd_one (pt_cmpD op_gt (RefCmp.op ref_cmp) (pdv 11) (pdv 12) (nomark _)))) (fun _ _ _ _ _ => pd_int)) (pd_lst pda_nil) (nomark _))))) (pds_one (pds_ret pd_bl)) pds_nil) (pds_cons (pds_if (pt_cmpD (op_neD hr.units) (RefCmp.op ref_ne) (pd_mth T.F_Family.sc D_Family_holes.meth (FnOk_r0 G_Family_holes D_Family_holes.bd) (hr.mono (by decide)) (pd_mk (mtd_mk D_Family___init__ T.F_Family) (FnOk_r0 G_Family___init__ D_Family___init__.bd) (hr.mono (by decide)) T.g_Family (pda_cons (pdv 1) (pda_cons (pd_call G_qrenamed (hr.mono (by decide)) D_qrenamed.at_ D_qrenamed.fn.kp D_qrenamed.bd pass0 (pda_cons (pd_call G_qmixed (hr.mono (by decide)) D_qmixed.at_ D_qmixed.fn.kp D_qmixed.bd pass0 (pda_cons (pdv 0) (pda_cons (pdv 1) pda_nil))) (pda_cons (pdv 2) pda_nil))) pda_nil))) (pda_cons (pdv 3) pda_nil)) (pd_mth T.F_Family.sc D_Family_holes.meth (FnOk_r0 G_Family_holes D_Family_holes.bd) (hr.mono (by decide)) (pdv 8) (pda_cons (pdv 3) pda_nil)) (nomark _)) (pds_one (pds_ret pd_bl)) pds_nil) (pds_cons (pds_set (i := 6) sc_qright.nd (pd_mk (mtd_mk D_Family___init__ T.F_Family) (FnOk_r0 G_Family___init__ D_Family___init__.bd) (hr.mono (by decide)) T.g_Family (pda_cons (pd_add (pdv 1) pd_int) (pda_cons (pd_callTy call_tuple_of ref_tuple T.b_tuple (by decide +kernel) (pda_cons (pd_lc (own := [("_law_one", 11)]) (tg := .nm 11) rfl sc_qright.nd (pid_seq (pdv 2)) (blkOk_by (own := [("_law_one", 11)]) (N := N_qright) (sc := defScope s_qright) (by decide +kernel)) (fun _ _ _ _ _ => (pgd_nm (i := 11) sc_qright.nd)) (fun _ _ _ _ _ => ptsd_nil) (fun _ _ _ _ _ => (pd_add (pdv 11) (pd_tup (pda_cons (pdv 1) pda_nil))))) pda_nil)) pda_nil)))) (pds_one (pds_ret (pd_and (pd_cmp (op_eqD hr.units) (RefCmp.op ref_eq) (pd_callB (cr_sumS rfl) ref_sumS T.b_sum (by decide +kernel) (pda_cons (pd_mth T.F_Family.sc D_Family_holes.meth (FnOk_r0 G_Family_holes D_Family_holes.bd) (hr.mono (by decide)) (pdv 6) (pda_cons (pdv 3) pda_nil)) pda_nil)) pd_int (nomark _)) (pd_one (pd_cmp (op_eqD hr.units) (RefCmp.op ref_eq) (pd_callB (cr_sumS rfl) ref_sumS T.b_sum (by decide +kernel) (pda_cons (pd_mth0 T.F_Family.sc D_Family_holes.meth (FnOk_r1 G_Family_holes D_Family_holes.bd1) (hr.mono (by decide)) (pdv 6)) pda_nil)) pd_int (nomark _))))))))))))))), ?_⟩)
  intro ds g Q h
  obtain ⟨a0, rfl, h⟩ := sp1_of h
  rw [show startD N_qright [a0] = [some a0, none, none, none, none, none, none, none, none, none, none, none, none] from rfl]
  obtain ⟨p, n0, L, e1, hg, hp, hn, k⟩ := h
  subst e1
  walk_at "rr30"
  refine ⟨p, 6, n0, L, rfl, rfl, by decide, by decide, hg, hp, by omega, fun r L1 r0 r1 hp1 => ?_⟩
  obtain ⟨c, rfl⟩ := Int.eq_ofNat_of_zero_le r0
  walk_at "rr30"
  rw [show (1 : Int) + (c : Int) = ((c + 1 : Nat) : Int) by omega]
  have hc : c + 1 ≤ 6 := by omega
  have hc1 : 1 ≤ c + 1 := by omega
  generalize c + 1 = n at hc hc1 ⊢
  refine ⟨p, _, L1, n, rfl, rfl, by omega, gup_same, hp1, by omega, fun S L2 hS hSl hp2 => ?_⟩
  rw [gup_gup]
  have n8 : n ≤ 8 := by omega
  have hal := allL_len n8 S
  have hA := all_cpx n S
  have hA7 := fun x hx => sub7 (show n ≤ 7 by omega) (allL_sub (n := n) (S := S) (x := x) hx)
  walk_at "rr30"
  refine ⟨n, S, rfl, rfl, n8, by omega, ?_⟩
  walk_at "rr30"
  intro p2 hq2
  walk_at "rr30"
  refine ⟨p2, n, S, rfl, rfl, rfl, hc1, n8, hS, by omega, gup_same, mkK_mk (ds := [.int (n : Int), oneD (allL n S) (.bl true), .tup ((greatL (allL n S)).map tI), .lst ((allL n S).map tI)]) hq2 (by simp) ?_⟩
  walk_at "rr30"
  refine rd_zK (by show 5 ≤ 16777216; decide) ?_
  walk_at "rr30"
  refine ⟨p, _, _, L2, rfl, rfl, by simp, by show 5 < 100000; decide, gup_same, hp2, by omega, fun d hd L3 hp3 => ?_⟩
  rw [gup_gup]
  obtain ⟨q, rfl, hqf, hq0⟩ := pick_prime hd
  walk_at "rr30"
  refine rd_zK (by show 2 ≤ 16777216; decide) ?_
  refine rd_loopX (I := fun j δ g' => (∃ v4, δ = [some (.ref p), some (.int (n : Int)), some (.lst (S.map tI)), some (.int q), v4, none, none, some (.lst ((allL n S).map tI)), some (famD c_Family n (allL n S)), none, none, none, none]) ∧ g' = gup g p (.lst L3)) ⟨⟨_, rfl⟩, rfl⟩ ?_ ?_
  · intro j x hx δ g' f2 hf2 hI
    obtain ⟨⟨v4, e⟩, eg⟩ := hI
    subst e eg
    obtain ⟨f, rfl, hff⟩ : ∃ f : Int, x = .int f ∧ Fld f := by
      have := List.mem_of_getElem? hx
      rcases List.mem_cons.mp this with e | this
      · exact ⟨0, e, .inl rfl⟩
      · exact ⟨q, List.mem_singleton.mp this, hqf⟩
    refine ⟨_, rfl, ?_⟩
    walk_at "rr30"
    refine ⟨n, _, f, rfl, rfl, hff, hA, by omega, hA7, ?_⟩
    walk_at "rr30"
    refine ⟨n, S, f, rfl, rfl, hff, hc1, hc, ?_⟩
    rw [hol_same hff hc1 hc S]
    refine rd_ne (okD_tI _) (okD_tI _) ?_
    rw [eqD_tI, decide_eq_true rfl]
    walk_at "rr30"
    exact hf2 _ _ ⟨⟨_, rfl⟩, rfl⟩
  · intro δ g' hI
    obtain ⟨⟨v4, e⟩, eg⟩ := hI
    subst e eg
    obtain ⟨hirr, _⟩ := irr_q hqf
    have hhl : (LA.holesV (LA.modP (qOf q)) (allL n S)).length ≤ 10 := by
      rw [LA.hol_len]
      have := top_le7 hA7
      split <;> omega
    walk_at "rr30"
    refine ⟨n, _, q, rfl, rfl, hqf, hA, by omega, hA7, ?_⟩
    walk_at "rr30"
    rw [en_int4]
    refine rd_zK (by unfold enI; rw [List.length_map, List.length_range]; omega) (comp_map (f := altF) (fun d hd => ?_) ?_)
    · obtain ⟨i, hi, e⟩ := List.mem_map.mp hd
      subst e
      refine ⟨_, rfl, fun Q2 h2 => ?_⟩
      rw [altF_at] at h2
      walk_at "rr30"
      refine rd_rI (by decide) ?_
      walk_at "rr30"
      refine rd_eq (okD_int _) (okD_int _) ?_
      rw [eqD_int]
      by_cases c : ((i : Nat) : Int) % 2 = 1
      · rw [decide_eq_true c]
        rw [if_pos c] at h2
        walk_at "rr30"
        exact h2
      · rw [decide_eq_false c]
        rw [if_neg c] at h2
        walk_at "rr30"
        exact h2
    rw [alt_map]
    walk_at "rr30"
    refine rd_sumS (ns := (List.range (LA.holesV (LA.modP (qOf q)) (allL n S)).length).map fun i : Nat => if ((i : Nat) : Int) % 2 = 1 then (LA.holesV (LA.modP (qOf q)) (allL n S)).getD i 0 else 0 - (LA.holesV (LA.modP (qOf q)) (allL n S)).getD i 0) rfl ?_
    walk_at "rr30"
    refine ⟨n, _, rfl, by omega, ?_⟩
    walk_at "rr30"
    refine rd_neN (alt_eul (LA.prm_mod hirr) (allL n S)) ?_
    walk_at "rr30"
    refine ⟨n, _, 0, rfl, rfl, .inl rfl, hA, by omega, hA7, ?_⟩
    walk_at "rr30"
    refine ⟨n, _, q, rfl, rfl, hqf, hA, by omega, hA7, ?_⟩
    walk_at "rr30"
    rw [zip_ints4, qOf_0]
    refine rd_zK (by rw [List.length_map, List.length_zip]; omega) (comp_fil (p := fun _ => false) (f := fun _ => .int 1) (fun d hd => ?_) ?_)
    · obtain ⟨r, hr, e⟩ := List.mem_map.mp hd
      subst e
      have hle := zip_le (fun i => holes_le hc1 hc hirr S i) hr
      refine ⟨_, rfl, fun Q' h' => ?_, fun hh => by cases hh⟩
      walk_at "rr30"
      rw [decide_eq_false (show ¬ r.2 < r.1 by omega)]
      exact h'
    rw [fil_no]
    walk_at "rr30"
    refine rd_zK (by show 0 ≤ 16777216; decide) ?_
    refine rd_ne (okD_lI' []) (okD_lI' []) ?_
    rw [eqD_nilI4]
    walk_at "rr30"
    rw [if_neg (by decide)]
    walk_at "rr30"
    refine ⟨p, _, L3, n, rfl, rfl, hc1, n8, gup_same, hp3, by omega, fun N L4 hN hp4 => ?_⟩
    rw [gup_gup]
    walk_at "rr30"
    refine ⟨n, N, S, false, rfl, rfl, hN, n8, hS, by omega, ?_⟩
    walk_at "rr30"
    intro p3 hq3
    have hal3 := allL_len n8 (S.map (LA.srt (nmF N)))
    walk_at "rr30"
    refine ⟨p3, n, S.map (LA.srt (nmF N)), rfl, rfl, rfl, hc1, n8, inS_named hN hS, by rw [List.length_map]; omega, gup_same, mkK_mk (ds := [.int (n : Int), oneD (allL n (S.map (LA.srt (nmF N)))) (.bl true), .tup ((greatL (allL n (S.map (LA.srt (nmF N))))).map tI), .lst ((allL n (S.map (LA.srt (nmF N)))).map tI)]) hq3 (by simp) ?_⟩
    walk_at "rr30"
    refine ⟨n, _, q, rfl, rfl, hqf, all_cpx n _, by omega, fun x hx => sub7 (show n ≤ 7 by omega) (allL_sub hx), ?_⟩
    walk_at "rr30"
    refine ⟨n, _, q, rfl, rfl, hqf, hA, by omega, hA7, ?_⟩
    rw [named_holes (LA.prm_mod hirr) hN hS]
    refine rd_ne (okD_tI _) (okD_tI _) ?_
    rw [eqD_tI, decide_eq_true rfl]
    walk_at "rr30"
    refine rd_zK (by rw [List.length_map]; omega) (comp_map (f := endF n) (fun d hd => ?_) ?_)
    · obtain ⟨x, hx, e⟩ := tI_mem hd
      subst e
      have hxl := subs_each n x (hS x hx)
      refine ⟨_, rfl, fun Q2 h2 => ?_⟩
      have h2 : Q2 (tI (oneT (tI x) ++ [(n : Int)])) _ := h2
      rw [oneT_tI] at h2
      walk_at "rr30"
      refine rd_zK (by show 1 ≤ 16777216; decide) ?_
      refine rd_addT (by rw [List.length_map]; show _ + 1 ≤ 16777216; omega) ?_
      rw [show x.map DV.int ++ [DV.int (n : Int)] = (x ++ [(n : Int)]).map DV.int by rw [List.map_append]; rfl]
      exact h2
    rw [over_map]
    walk_at "rr30"
    intro p4 hq4
    have hal4 := allL_len (show n + 1 ≤ 8 by omega) (S.map fun x => x ++ [(n : Int)])
    walk_at "rr30"
    refine ⟨p4, n + 1, S.map fun x => x ++ [(n : Int)], rfl, rfl, rfl, by omega, by omega, inS_over hS, by rw [List.length_map]; omega, gup_same, mkK_mk (ds := [.int ((n + 1 : Nat) : Int), oneD (allL (n + 1) (S.map fun x => x ++ [(n : Int)])) (.bl true), .tup ((greatL (allL (n + 1) (S.map fun x => x ++ [(n : Int)]))).map tI), .lst ((allL (n + 1) (S.map fun x => x ++ [(n : Int)])).map tI)]) hq4 (by simp) ?_⟩
    have hco := over_cone n S
    walk_at "rr30"
    refine ⟨n + 1, _, q, rfl, rfl, hqf, all_cpx _ _, by omega, fun x hx => sub7 (show n + 1 ≤ 7 by omega) (allL_sub hx), ?_⟩
    walk_at "rr30"
    refine rd_sumS (ns := LA.holesV (LA.modP (qOf q)) (allL (n + 1) (S.map fun x => x ++ [(n : Int)]))) rfl ?_
    rw [LA.cone_holes (LA.prm_mod hirr) hco]
    walk_at "rr30"
    refine rd_eq (okD_int _) (okD_int _) ?_
    rw [eqD_int, decide_eq_true rfl]
    walk_at "rr30"
    refine ⟨n + 1, _, 0, rfl, rfl, .inl rfl, all_cpx _ _, by omega, fun x hx => sub7 (show n + 1 ≤ 7 by omega) (allL_sub hx), ?_⟩
    walk_at "rr30"
    refine rd_sumS (ns := LA.holesV (LA.modP (qOf 0)) (allL (n + 1) (S.map fun x => x ++ [(n : Int)]))) rfl ?_
    rw [qOf_0, LA.cone_holes (LA.prm_mod LA.far_irr) hco]
    walk_at "rr30"
    refine rd_eq (okD_int _) (okD_int _) ?_
    rw [eqD_int, decide_eq_true rfl]
    exact dret (k L4 (hp4.more (by omega)))

abbrev s_law : Stmt := topS 47
abbrev N_law : List Str := ["_law_script", "_law_spot", "_law_half", "_law_sphere", "_law_told", "_law_pot_here"]
theorem sc_law : FnScope N_law ["_law_script"] (defScope s_law) := ⟨rfl, rfl, rfl, by decide +kernel, rfl, by decide +kernel, by decide +kernel⟩
abbrev sp_law : SpD :=
  sp1 fun a g P => ∃ ns : List Int, a = .scr ns ∧ P (.bl true) g

local macro_rules | `(tactic| walk_at "rr31") => `(tactic| (repeat (first | (with_reducible first | refine rd_seq ?_ | refine rd_seqE ?_ | refine rd_next ?_ | refine rd_rtE ?_ | refine rd_nxE ?_ | refine rd_nx ?_ | refine rd_rt ?_ | refine rd_ct ?_ | refine rd_bk ?_ | refine rd_drop ?_ | refine rd_ret ?_ | refine rd_dif ?_ | refine rd_asg ?_ | refine rd_for ?_ | refine rd_c ?_ | refine rd_op ?_ | refine rd_b ?_ | refine rd_bK ?_ | refine rd_tru ?_ | refine rd_tKb ?_ | refine rd_or ?_ | refine rd_not ?_ | refine rd_nil ?_ | refine rd_cons ?_ | refine rd_tup ?_ | refine rd_lst ?_ | refine rd_cb ?_ | refine rd_call ?_ | refine rd_sp1 ?_ | refine rd_sp2 ?_ | refine rd_sp3 ?_ | refine rd_ii ?_ | refine rd_rng1 ?_ | refine rd_prp ?_ | refine rd_prI ?_ | refine rd_mth ?_ | refine rd_mtI ?_ | refine rd_mk ?_ | refine rd_spDf ?_ | refine rd_itet ?_ | refine rd_itef ?_ | refine rd_itnt ?_ | refine rd_itnf ?_) | ((with_reducible apply rd_var); (· exact rfl)) | ((with_reducible apply rd_asgK); (· exact rfl)) | ((with_reducible apply rd_len); (· (first | assumption | exact seqD_ref (by assumption) | exact seqD_up | exact lstD_ref (by assumption) | exact lstD_up | rfl))))))
theorem ok_law {P : Program} {w : World} {K : Fg} {mg : Str → Option Value} {base : Heap} {t_FAR_PRIME t_MAX_CORNERS t_MAX_FIELD t_MAX_PASSED : Tok} {c_KeptSets c_Family : Addr} {f f_qrenamed f_qmixed f_qpot f_qright f_Family_holes f_Family___init__ f_Family_euler : Addr} {fd d_qrenamed d_qmixed d_qpot d_qright d_Family_holes d_Family___init__ d_Family_euler : FuncData} (D : Dfn K mg "law" s_law ["_law_script"] f fd) (T : Txt P K mg t_FAR_PRIME t_MAX_CORNERS t_MAX_FIELD t_MAX_PASSED c_KeptSets c_Family) (D_qrenamed : Dfn K mg "_law_renamed" s_qrenamed ["_law_names", "_law_sets_here"] f_qrenamed d_qrenamed) (G_qrenamed : FnOk P w K mg base CX0 1 f_qrenamed d_qrenamed ["_law_names", "_law_sets_here"] (upSp K (sp_qrenamed c_KeptSets c_Family))) (D_qmixed : Dfn K mg "_law_mixed" s_qmixed ["_law_pot_here", "_law_size"] f_qmixed d_qmixed) (G_qmixed : FnOk P w K mg base CX0 2 f_qmixed d_qmixed ["_law_pot_here", "_law_size"] (upSp K (sp_qmixed c_KeptSets c_Family))) (D_qpot : Dfn K mg "_law_pot" s_qpot ["_law_script", "_law_at"] f_qpot d_qpot) (G_qpot : FnOk P w K mg base CX0 1 f_qpot d_qpot ["_law_script", "_law_at"] (upSp K (sp_qpot c_KeptSets c_Family))) (D_qright : Dfn K mg "_law_right" s_qright ["_law_pot_here"] f_qright d_qright) (G_qright : FnOk P w K mg base CX0 7 f_qright d_qright ["_law_pot_here"] (upSp K (sp_qright c_KeptSets c_Family))) (D_Family_holes : MtdD K c_Family "holes" "Family.holes" s_Family_holes ["self", "prime"] [0] f_Family_holes d_Family_holes) (G_Family_holes : FnOk P w K mg base CX0 5 f_Family_holes d_Family_holes ["self", "prime"] (upSp K (sp_Family_holes c_KeptSets c_Family))) (D_Family___init__ : Mtd K c_Family "__init__" "Family.__init__" s_Family___init__ ["self", "corners", "members"] f_Family___init__ d_Family___init__) (G_Family___init__ : FnOk P w K mg base CX0 5 f_Family___init__ d_Family___init__ ["self", "corners", "members"] (upSp K (sp_Family___init__ c_KeptSets c_Family))) (D_Family_euler : Prp K c_Family "euler" "Family.euler" s_Family_euler ["self"] f_Family_euler d_Family_euler) (G_Family_euler : FnOk P w K mg base CX0 1 f_Family_euler d_Family_euler ["self"] (upSp K (sp_Family_euler c_KeptSets c_Family))) :
    FnOk P w K mg base CX0 8 f fd ["_law_script"] (upSp K sp_law) := by
  refine fun_okD D.fn sc_law (fun ds g Q h => len1 h) (fun cdv A outer s H E hr => ⟨_, (pds_cons (pds_for (tg := .nm 1) PassesOwn.never rfl (pid_range1 T.b_range (pda_cons (pd_callB (call_max2 rfl) ref_II T.b_max (by decide +kernel) (pda_cons pd_int (pda_cons (pd_callB (call_min2 rfl) ref_II T.b_min (by decide +kernel) (pda_cons pd_int (pda_cons (pd_callB call_len_seq ref_len T.b_len (by decide +kernel) (pda_cons (pdv 0) pda_nil)) pda_nil))) pda_nil))) pda_nil)) (pgd_nm (i := 1) sc_law.nd) (pds_cons (pds_set (i := 5) sc_law.nd (pd_call G_qpot (hr.mono (by decide)) D_qpot.at_ D_qpot.fn.kp D_qpot.bd pass0 (pda_cons (pdv 0) (pda_cons (pdv 1) pda_nil)))) (pds_one (pds_if (pwd_pt (pwd_or (pt_notD (pt_truD (pd_call G_qright (hr.mono (by decide)) D_qright.at_ D_qright.fn.kp D_qright.bd pass0 (pda_cons (pdv 5) pda_nil)))) (pwd_or1 (pt_notD (pt_truD (pd_call G_qright (hr.mono (by decide)) D_qright.at_ D_qright.fn.kp D_qright.bd pass0 (pda_cons (pdv 5) pda_nil))))))) (pds_one (pds_ret pd_bl)) pds_nil)))) (pds_cons (pds_set (i := 2) sc_law.nd (pd_tup (pda_cons (pd_tup (pda_cons pd_int (pda_cons pd_int (pda_cons pd_int pda_nil)))) (pda_cons (pd_tup (pda_cons pd_int (pda_cons pd_int (pda_cons pd_int pda_nil)))) (pda_cons (pd_tup (pda_cons pd_int (pda_cons pd_int (pda_cons pd_int pda_nil)))) (pda_cons (pd_tup (pda_cons pd_int (pda_cons pd_int (pda_cons pd_int pda_nil)))) (pda_cons (pd_tup (pda_cons pd_int (pda_cons pd_int (pda_cons pd_int pda_nil)))) (pda_cons (pd_tup (pda_cons pd_int (pda_cons pd_int (pda_cons pd_int pda_nil)))) (pda_cons (pd_tup (pda_cons pd_int (pda_cons pd_int (pda_cons pd_int pda_nil)))) (pda_cons (pd_tup (pda_cons pd_int (pda_cons pd_int (pda_cons pd_int pda_nil)))) (pda_cons (pd_tup (pda_cons pd_int (pda_cons pd_int (pda_cons pd_int pda_nil)))) (pda_cons (pd_tup (pda_cons pd_int (pda_cons pd_int (pda_cons pd_int pda_nil)))) pda_nil)))))))))))) (pds_cons (pds_set (i := 3) sc_law.nd (pd_mk (mtd_mk D_Family___init__ T.F_Family) (FnOk_r0 G_Family___init__ D_Family___init__.bd) (hr.mono (by decide)) T.g_Family (pda_cons pd_int (pda_cons (pd_call G_qrenamed (hr.mono (by decide)) D_qrenamed.at_ D_qrenamed.fn.kp D_qrenamed.bd pass0 (pda_cons (pd_call G_qmixed (hr.mono (by decide)) D_qmixed.at_ D_qmixed.fn.kp D_qmixed.bd pass0 (pda_cons (pd_call G_qpot (hr.mono (by decide)) D_qpot.at_ D_qpot.fn.kp D_qpot.bd pass0 (pda_cons (pdv 0) (pda_cons pd_int pda_nil))) (pda_cons pd_int pda_nil))) (pda_cons (pdv 2) pda_nil))) pda_nil)))) (pds_cons (pds_if (pt_cmpD (op_neD hr.units) (RefCmp.op ref_ne) (pd_lst (pda_cons (pd_mth0 T.F_Family.sc D_Family_holes.meth (FnOk_r1 G_Family_holes D_Family_holes.bd1) (hr.mono (by decide)) (pdv 3)) (pda_cons (pd_mth T.F_Family.sc D_Family_holes.meth (FnOk_r0 G_Family_holes D_Family_holes.bd) (hr.mono (by decide)) (pdv 3) (pda_cons pd_int pda_nil)) (pda_cons (pd_mth T.F_Family.sc D_Family_holes.meth (FnOk_r0 G_Family_holes D_Family_holes.bd) (hr.mono (by decide)) (pdv 3) (pda_cons pd_int pda_nil)) (pda_cons (pd_prp T.F_Family.sc D_Family_euler.pr.choose_spec (FnOk_r0 G_Family_euler D_Family_euler.bd) (hr.mono (by decide)) (pdv 3)) pda_nil))))) (pd_lst (pda_cons (pd_tup (pda_cons pd_int (pda_cons pd_int (pda_cons pd_int (pda_cons pd_int pda_nil))))) (pda_cons (pd_tup (pda_cons pd_int (pda_cons pd_int (pda_cons pd_int (pda_cons pd_int pda_nil))))) (pda_cons (pd_tup (pda_cons pd_int (pda_cons pd_int (pda_cons pd_int (pda_cons pd_int pda_nil))))) (pda_cons pd_int pda_nil))))) (nomark _)) (pds_one (pds_ret pd_bl)) pds_nil) (pds_cons (pds_set (i := 4) sc_law.nd (pd_lst (pda_cons (pd_mth0 T.F_Family.sc D_Family_holes.meth (FnOk_r1 G_Family_holes D_Family_holes.bd1) (hr.mono (by decide)) (pd_mk (mtd_mk D_Family___init__ T.F_Family) (FnOk_r0 G_Family___init__ D_Family___init__.bd) (hr.mono (by decide)) T.g_Family (pda_cons pd_int (pda_cons (pd_tup pda_nil) pda_nil)))) (pda_cons (pd_mth T.F_Family.sc D_Family_holes.meth (FnOk_r0 G_Family_holes D_Family_holes.bd) (hr.mono (by decide)) (pd_mk (mtd_mk D_Family___init__ T.F_Family) (FnOk_r0 G_Family___init__ D_Family___init__.bd) (hr.mono (by decide)) T.g_Family (pda_cons pd_int (pda_cons (pd_tup (pda_cons (pd_tup pda_nil) pda_nil)) pda_nil))) (pda_cons pd_int pda_nil)) (pda_cons (pd_mth0 T.F_Family.sc D_Family_holes.meth (FnOk_r1 G_Family_holes D_Family_holes.bd1) (hr.mono (by decide)) (pd_mk (mtd_mk D_Family___init__ T.F_Family) (FnOk_r0 G_Family___init__ D_Family___init__.bd) (hr.mono (by decide)) T.g_Family (pda_cons pd_int (pda_cons (pd_tup (pda_cons (pd_tup (pda_cons pd_int (pda_cons pd_int pda_nil))) (pda_cons (pd_tup (pda_cons pd_int pda_nil)) pda_nil))) pda_nil)))) pda_nil))))) (pds_one (pds_ret (pd_cmp (op_eqD hr.units) (RefCmp.op ref_eq) (pdv 4) (pd_lst (pda_cons (pd_tup pda_nil) (pda_cons (pd_tup (pda_cons pd_int pda_nil)) (pda_cons (pd_tup (pda_cons pd_int (pda_cons pd_int (pda_cons pd_int pda_nil)))) pda_nil)))) (nomark _))))))))), ?_⟩)
  intro ds g Q h
  obtain ⟨a0, rfl, h⟩ := sp1_of h
  rw [show startD N_law [a0] = [some a0, none, none, none, none, none] from rfl]
  obtain ⟨ns, e1, k⟩ := h
  subst e1
  walk_at "rr31"
  refine rd_rng1K ⟨by split <;> split <;> omega, by split <;> split <;> omega⟩ ?_
  refine rd_loopI (I := fun _ δ g' => (∀ a, g a ≠ none → g' a = g a) ∧ ∃ v1 v2 v3 v4 v5 : Option DV, δ = [some (.scr ns), v1, v2, v3, v4, v5]) ⟨fun _ _ => rfl, _, _, _, _, _, rfl⟩ ?_ ?_
  · intro d hd j δ g' f hf hI
    obtain ⟨hs, v1, v2, v3, v4, v5, e⟩ := hI
    subst e
    obtain ⟨i, hi, e⟩ := List.mem_map.mp hd
    rw [List.mem_range] at hi
    subst e
    refine ⟨_, rfl, ?_⟩
    walk_at "rr31"
    refine ⟨ns, i, rfl, by rw [Int.zero_add], by revert hi; split <;> split <;> omega, fun p L hp hpot => ?_⟩
    walk_at "rr31"
    refine ⟨p, 0, L, rfl, gup_same, hpot, by omega, fun L2 hp2 => ?_⟩
    rw [gup_gup]
    walk_at "rr31"
    refine ⟨p, _, L2, rfl, gup_same, hp2, by omega, fun L3 hp3 => ?_⟩
    rw [gup_gup]
    walk_at "rr31"
    refine hf _ _ ⟨fun a ha => ?_, _, _, _, _, _, rfl⟩
    by_cases hb : a = p
    · subst hb
      rw [hs a ha] at hp
      exact absurd hp ha
    · rw [gup_ne hb]
      exact hs a ha
  · intro δ g' hI
    obtain ⟨hs, v1, v2, v3, v4, v5, e⟩ := hI
    subst e
    walk_at "rr31"
    refine rd_zK (by show 3 ≤ 16777216; decide) ?_
    walk_at "rr31"
    refine rd_zK (by show 3 ≤ 16777216; decide) ?_
    walk_at "rr31"
    refine rd_zK (by show 3 ≤ 16777216; decide) ?_
    walk_at "rr31"
    refine rd_zK (by show 3 ≤ 16777216; decide) ?_
    walk_at "rr31"
    refine rd_zK (by show 3 ≤ 16777216; decide) ?_
    walk_at "rr31"
    refine rd_zK (by show 3 ≤ 16777216; decide) ?_
    walk_at "rr31"
    refine rd_zK (by show 3 ≤ 16777216; decide) ?_
    walk_at "rr31"
    refine rd_zK (by show 3 ≤ 16777216; decide) ?_
    walk_at "rr31"
    refine rd_zK (by show 3 ≤ 16777216; decide) ?_
    walk_at "rr31"
    refine rd_zK (by show 3 ≤ 16777216; decide) ?_
    walk_at "rr31"
    refine rd_zK (by show 10 ≤ 16777216; decide) ?_
    walk_at "rr31"
    refine ⟨ns, 0, rfl, rfl, by decide, fun p L hp hpot => ?_⟩
    walk_at "rr31"
    refine ⟨p, _, L, 6, rfl, rfl, by decide, by decide, gup_same, hpot, by decide, fun N L1 hN hp1 => ?_⟩
    rw [gup_gup]
    walk_at "rr31"
    refine ⟨6, N, S6, true, rfl, rfl, hN, by decide, S6_in, by decide, ?_⟩
    walk_at "rr31"
    intro p1 hq1
    walk_at "rr31"
    refine ⟨p1, 6, S6.map (LA.srt (nmF N)), rfl, rfl, rfl, by decide, by decide, inS_named hN S6_in, by rw [List.length_map]; decide, gup_same, mkK_mk (ds := [.int ((6 : Nat) : Int), oneD (allL 6 (S6.map (LA.srt (nmF N)))) (.bl true), .tup ((greatL (allL 6 (S6.map (LA.srt (nmF N))))).map tI), .lst ((allL 6 (S6.map (LA.srt (nmF N)))).map tI)]) hq1 (by simp) ?_⟩
    have hal := allL_len (show 6 ≤ 8 by decide) (S6.map (LA.srt (nmF N)))
    walk_at "rr31"
    refine ⟨6, _, 0, rfl, rfl, .inl rfl, all_cpx 6 _, by omega, sph_c7, ?_⟩
    rw [sph_far hN]
    walk_at "rr31"
    refine ⟨6, _, 2, rfl, rfl, .inr (.inl rfl), all_cpx 6 _, by omega, sph_c7, ?_⟩
    rw [qOf_2, sph_two hN]
    walk_at "rr31"
    refine ⟨6, _, 3, rfl, rfl, .inr (.inr (.inl rfl)), all_cpx 6 _, by omega, sph_c7, ?_⟩
    rw [qOf_3, sph_three hN]
    walk_at "rr31"
    refine ⟨6, _, rfl, by omega, ?_⟩
    rw [sph_eul hN]
    walk_at "rr31"
    refine rd_zK (by show 4 ≤ 16777216; decide) ?_
    walk_at "rr31"
    refine rd_zK (by show 4 ≤ 16777216; decide) ?_
    walk_at "rr31"
    refine rd_zK (by show 4 ≤ 16777216; decide) ?_
    walk_at "rr31"
    refine rd_zK (by show 4 ≤ 16777216; decide) ?_
    walk_at "rr31"
    refine rd_zK (by show 4 ≤ 16777216; decide) ?_
    refine rd_ne (x := .lst s40) (y := .lst s40) s40_ok s40_ok ?_
    rw [s40_eq]
    walk_at "rr31"
    refine rd_zK (by show 0 ≤ 16777216; decide) ?_
    walk_at "rr31"
    intro p2 hp2
    walk_at "rr31"
    refine ⟨p2, 3, [], rfl, rfl, rfl, by decide, by decide, N3_in, by decide, gup_same, mkK_mk (ds := [.int ((3 : Nat) : Int), oneD (allL 3 []) (.bl true), .tup ((greatL (allL 3 [])).map tI), .lst ((allL 3 []).map tI)]) hp2 (by simp) ?_⟩
    walk_at "rr31"
    refine ⟨3, _, 0, rfl, rfl, .inl rfl, all_cpx 3 _, by have := allL_len (show 3 ≤ 8 by decide) []; omega, c7_3, ?_⟩
    rw [N3_hol]
    walk_at "rr31"
    refine rd_zK (by show 0 ≤ 16777216; decide) ?_
    walk_at "rr31"
    refine rd_zK (by show 1 ≤ 16777216; decide) ?_
    walk_at "rr31"
    intro p3 hp3
    walk_at "rr31"
    refine ⟨p3, 3, [[]], rfl, rfl, rfl, by decide, by decide, E3_in, by decide, gup_same, mkK_mk (ds := [.int ((3 : Nat) : Int), oneD (allL 3 [[]]) (.bl true), .tup ((greatL (allL 3 [[]])).map tI), .lst ((allL 3 [[]]).map tI)]) hp3 (by simp) ?_⟩
    walk_at "rr31"
    refine ⟨3, _, 5, rfl, rfl, .inr (.inr (.inr (.inl rfl))), all_cpx 3 _, by have := allL_len (show 3 ≤ 8 by decide) [[]]; omega, c7_3, ?_⟩
    rw [qOf_5, E3_hol]
    walk_at "rr31"
    refine rd_zK (by show 2 ≤ 16777216; decide) ?_
    walk_at "rr31"
    refine rd_zK (by show 1 ≤ 16777216; decide) ?_
    walk_at "rr31"
    refine rd_zK (by show 2 ≤ 16777216; decide) ?_
    walk_at "rr31"
    intro p4 hp4
    walk_at "rr31"
    refine ⟨p4, 3, T3, rfl, rfl, rfl, by decide, by decide, T3_in, by decide, gup_same, mkK_mk (ds := [.int ((3 : Nat) : Int), oneD (allL 3 T3) (.bl true), .tup ((greatL (allL 3 T3)).map tI), .lst ((allL 3 T3).map tI)]) hp4 (by simp) ?_⟩
    walk_at "rr31"
    refine ⟨3, _, 0, rfl, rfl, .inl rfl, all_cpx 3 _, by have := allL_len (show 3 ≤ 8 by decide) T3; omega, c7_3, ?_⟩
    rw [T3_hol]
    walk_at "rr31"
    refine rd_zK (by show 3 ≤ 16777216; decide) ?_
    walk_at "rr31"
    refine rd_zK (by show 0 ≤ 16777216; decide) ?_
    walk_at "rr31"
    refine rd_zK (by show 1 ≤ 16777216; decide) ?_
    walk_at "rr31"
    refine rd_zK (by show 3 ≤ 16777216; decide) ?_
    walk_at "rr31"
    refine rd_zK (by show 3 ≤ 16777216; decide) ?_
    refine rd_eq (x := .lst u40) (y := .lst u40) u40_ok u40_ok ?_
    rw [u40_eq]
    walk_at "rr31"
    refine ⟨g, fun a => ?_, k⟩
    by_cases ha : g a = none
    · exact .inr ha
    · have hap : a ≠ p := fun z => by
        subst z
        rw [hs a ha] at hp
        exact ha hp
      rw [gup_ne hap]
      exact .inl (hs a ha).symm

theorem all_mk {l : PySem.W.OpenLaw} {w : World} {K : Fg} {h : Heap} {mg : Str → Option Value} {fa f_is_whole f_is_within f_is_prime_number f_is_field f_require_field f_inverse_in f_without_each f_closed_downward f_less_times f_boundary_rank f_holes_in f_is_set_on f_by_size f_greatest_of f_sets_told f_Family___init__ f_Family_euler f_Family_holes f_Family___iter__ f_qpot f_qdip f_qpick f_qsubsets f_qinside f_qsets f_qall f_qshort f_qrank f_qboundary f_qholes f_qmixed f_qrenamed f_qright f_law c_KeptSets c_Family p_Family_own_corners p_Family_own_known p_Family_own_members p_Family_own_sets p_KeptSets_own_sets p_Family_euler : Addr} {t_FAR_PRIME t_MAX_CORNERS t_MAX_FIELD t_MAX_PASSED : Tok} (X : K.In h) (G : h.Ns mainGlobals mg) (hfa : mg "law" = some (.ref fa))
    {od_is_whole an_is_whole od_is_within an_is_within od_is_prime_number an_is_prime_number od_is_field an_is_field od_require_field an_require_field od_inverse_in an_inverse_in od_without_each an_without_each od_closed_downward an_closed_downward od_less_times an_less_times od_boundary_rank an_boundary_rank od_holes_in an_holes_in od_is_set_on an_is_set_on od_by_size an_by_size od_greatest_of an_greatest_of od_sets_told an_sets_told od_Family___init__ an_Family___init__ od_Family_euler an_Family_euler od_Family_holes an_Family_holes od_Family___iter__ an_Family___iter__ od_qpot an_qpot od_qdip an_qdip od_qpick an_qpick od_qsubsets an_qsubsets od_qinside an_qinside od_qsets an_qsets od_qall an_qall od_qshort an_qshort od_qrank an_qrank od_qboundary an_qboundary od_qholes an_qholes od_qmixed an_qmixed od_qrenamed an_qrenamed od_qright an_qright od_law an_law : Option Addr} {sl_is_whole sl_is_within sl_is_prime_number sl_is_field sl_require_field sl_inverse_in sl_without_each sl_closed_downward sl_less_times sl_boundary_rank sl_holes_in sl_is_set_on sl_by_size sl_greatest_of sl_sets_told sl_Family___init__ sl_Family_euler sl_Family_holes sl_Family___iter__ sl_qpot sl_qdip sl_qpick sl_qsubsets sl_qinside sl_qsets sl_qall sl_qshort sl_qrank sl_qboundary sl_qholes sl_qmixed sl_qrenamed sl_qright sl_law : Array (Option Value)} {oc_is_whole kV_is_whole dc_is_whole pm_is_whole cd_is_whole ct_is_whole oc_is_within kV_is_within dc_is_within pm_is_within cd_is_within ct_is_within oc_is_prime_number kV_is_prime_number dc_is_prime_number pm_is_prime_number cd_is_prime_number ct_is_prime_number oc_is_field kV_is_field dc_is_field pm_is_field cd_is_field ct_is_field oc_require_field kV_require_field dc_require_field pm_require_field cd_require_field ct_require_field oc_inverse_in kV_inverse_in dc_inverse_in pm_inverse_in cd_inverse_in ct_inverse_in oc_without_each kV_without_each dc_without_each pm_without_each cd_without_each ct_without_each oc_closed_downward kV_closed_downward dc_closed_downward pm_closed_downward cd_closed_downward ct_closed_downward oc_less_times kV_less_times dc_less_times pm_less_times cd_less_times ct_less_times oc_boundary_rank kV_boundary_rank dc_boundary_rank pm_boundary_rank cd_boundary_rank ct_boundary_rank oc_holes_in kV_holes_in dc_holes_in pm_holes_in cd_holes_in ct_holes_in oc_is_set_on kV_is_set_on dc_is_set_on pm_is_set_on cd_is_set_on ct_is_set_on oc_by_size kV_by_size dc_by_size pm_by_size cd_by_size ct_by_size oc_greatest_of kV_greatest_of dc_greatest_of pm_greatest_of cd_greatest_of ct_greatest_of oc_sets_told kV_sets_told dc_sets_told pm_sets_told cd_sets_told ct_sets_told oc_Family___init__ kV_Family___init__ dc_Family___init__ pm_Family___init__ cd_Family___init__ ct_Family___init__ oc_Family_euler kV_Family_euler dc_Family_euler pm_Family_euler cd_Family_euler ct_Family_euler oc_Family_holes kV_Family_holes dc_Family_holes pm_Family_holes cd_Family_holes ct_Family_holes dV_Family_holes oc_Family___iter__ kV_Family___iter__ dc_Family___iter__ pm_Family___iter__ cd_Family___iter__ ct_Family___iter__ oc_qpot kV_qpot dc_qpot pm_qpot cd_qpot ct_qpot oc_qdip kV_qdip dc_qdip pm_qdip cd_qdip ct_qdip oc_qpick kV_qpick dc_qpick pm_qpick cd_qpick ct_qpick oc_qsubsets kV_qsubsets dc_qsubsets pm_qsubsets cd_qsubsets ct_qsubsets oc_qinside kV_qinside dc_qinside pm_qinside cd_qinside ct_qinside oc_qsets kV_qsets dc_qsets pm_qsets cd_qsets ct_qsets oc_qall kV_qall dc_qall pm_qall cd_qall ct_qall oc_qshort kV_qshort dc_qshort pm_qshort cd_qshort ct_qshort oc_qrank kV_qrank dc_qrank pm_qrank cd_qrank ct_qrank oc_qboundary kV_qboundary dc_qboundary pm_qboundary cd_qboundary ct_qboundary oc_qholes kV_qholes dc_qholes pm_qholes cd_qholes ct_qholes oc_qmixed kV_qmixed dc_qmixed pm_qmixed cd_qmixed ct_qmixed oc_qrenamed kV_qrenamed dc_qrenamed pm_qrenamed cd_qrenamed ct_qrenamed oc_qright kV_qright dc_qright pm_qright cd_qright ct_qright oc_law kV_law dc_law pm_law cd_law ct_law : Value}
    {re_Family_euler : List Value}
    (cl_KeptSets : PySem.W.nsIn K mainGlobals "KeptSets" = some (some (.ref c_KeptSets)))
    (pg_KeptSets : PySem.W.plainGet K c_KeptSets Str.empty = true)
    (ic_KeptSets : PySem.W.isClsIn K c_KeptSets = true)
    (po_KeptSets : PySem.W.plainOver K c_KeptSets = true)
    (sa_KeptSets : PySem.W.findIn K (.ref c_KeptSets) "__setattr__" = some (some (.builtin "object.__setattr__")))
    (ca_KeptSets : PySem.W.findIn K (.ref c_KeptSets) "__class__" = some (some (.builtin "object.__class__")))
    (cn_KeptSets : PySem.W.specialIn K (.builtin "object.__class__") "__get__" = some (some (.builtin "getset_descriptor.__get__")))
    (ct_KeptSets : PySem.W.takesIn K (.builtin "object.__class__") = some true)
    (cm_KeptSets : PySem.W.mroIn K c_KeptSets (.type "object") = some true)
    (ty_KeptSets : PySem.W.typeIn K (.ref c_KeptSets) = some (.type "type"))
    (ms_KeptSets : PySem.W.makesIn K c_KeptSets = true)
    (kp_KeptSets : PySem.W.keepIn K (.ref c_KeptSets) = true)
    (cl_Family : PySem.W.nsIn K mainGlobals "Family" = some (some (.ref c_Family)))
    (pg_Family : PySem.W.plainGet K c_Family Str.empty = true)
    (ic_Family : PySem.W.isClsIn K c_Family = true)
    (po_Family : PySem.W.plainOver K c_Family = true)
    (sa_Family : PySem.W.findIn K (.ref c_Family) "__setattr__" = some (some (.builtin "object.__setattr__")))
    (ca_Family : PySem.W.findIn K (.ref c_Family) "__class__" = some (some (.builtin "object.__class__")))
    (cn_Family : PySem.W.specialIn K (.builtin "object.__class__") "__get__" = some (some (.builtin "getset_descriptor.__get__")))
    (ct_Family : PySem.W.takesIn K (.builtin "object.__class__") = some true)
    (cm_Family : PySem.W.mroIn K c_Family (.type "object") = some true)
    (ty_Family : PySem.W.typeIn K (.ref c_Family) = some (.type "type"))
    (ms_Family : PySem.W.makesIn K c_Family = true)
    (kp_Family : PySem.W.keepIn K (.ref c_Family) = true)
    (s1_Family_own_corners : PySem.W.findIn K (.ref c_Family) "own_corners" = some (some (.ref p_Family_own_corners)))
    (s2_Family_own_corners : PySem.W.specialIn K (.ref p_Family_own_corners) "__get__" = some (some (.builtin "member_descriptor.__get__")))
    (s3_Family_own_corners : PySem.W.takesIn K (.ref p_Family_own_corners) = some true)
    (s4_Family_own_corners : PySem.W.typeIn K (.ref p_Family_own_corners) = some (.type "member_descriptor"))
    (s5_Family_own_corners : PySem.W.slotIn K p_Family_own_corners c_Family = some 0)
    (s1_Family_own_known : PySem.W.findIn K (.ref c_Family) "own_known" = some (some (.ref p_Family_own_known)))
    (s2_Family_own_known : PySem.W.specialIn K (.ref p_Family_own_known) "__get__" = some (some (.builtin "member_descriptor.__get__")))
    (s3_Family_own_known : PySem.W.takesIn K (.ref p_Family_own_known) = some true)
    (s4_Family_own_known : PySem.W.typeIn K (.ref p_Family_own_known) = some (.type "member_descriptor"))
    (s5_Family_own_known : PySem.W.slotIn K p_Family_own_known c_Family = some 1)
    (s1_Family_own_members : PySem.W.findIn K (.ref c_Family) "own_members" = some (some (.ref p_Family_own_members)))
    (s2_Family_own_members : PySem.W.specialIn K (.ref p_Family_own_members) "__get__" = some (some (.builtin "member_descriptor.__get__")))
    (s3_Family_own_members : PySem.W.takesIn K (.ref p_Family_own_members) = some true)
    (s4_Family_own_members : PySem.W.typeIn K (.ref p_Family_own_members) = some (.type "member_descriptor"))
    (s5_Family_own_members : PySem.W.slotIn K p_Family_own_members c_Family = some 2)
    (s1_Family_own_sets : PySem.W.findIn K (.ref c_Family) "own_sets" = some (some (.ref p_Family_own_sets)))
    (s2_Family_own_sets : PySem.W.specialIn K (.ref p_Family_own_sets) "__get__" = some (some (.builtin "member_descriptor.__get__")))
    (s3_Family_own_sets : PySem.W.takesIn K (.ref p_Family_own_sets) = some true)
    (s4_Family_own_sets : PySem.W.typeIn K (.ref p_Family_own_sets) = some (.type "member_descriptor"))
    (s5_Family_own_sets : PySem.W.slotIn K p_Family_own_sets c_Family = some 3)
    (s1_KeptSets_own_sets : PySem.W.findIn K (.ref c_KeptSets) "own_sets" = some (some (.ref p_KeptSets_own_sets)))
    (s2_KeptSets_own_sets : PySem.W.specialIn K (.ref p_KeptSets_own_sets) "__get__" = some (some (.builtin "member_descriptor.__get__")))
    (s3_KeptSets_own_sets : PySem.W.takesIn K (.ref p_KeptSets_own_sets) = some true)
    (s4_KeptSets_own_sets : PySem.W.typeIn K (.ref p_KeptSets_own_sets) = some (.type "member_descriptor"))
    (s5_KeptSets_own_sets : PySem.W.slotIn K p_KeptSets_own_sets c_KeptSets = some 0)
    (a_is_whole : PySem.W.nsIn K mainGlobals "is_whole" = some (some (.ref f_is_whole)))
    (l_is_whole : K.lookup f_is_whole = some ⟨oc_is_whole, od_is_whole, .func (PySem.W.fnOf "is_whole" "is_whole" (defArgs s_is_whole) (defBody s_is_whole) (defScope s_is_whole) .none kV_is_whole dc_is_whole pm_is_whole an_is_whole cd_is_whole ct_is_whole), sl_is_whole⟩)
    (c_is_whole : PySem.W.codeIn K cd_is_whole "is_whole" = true)
    (k_is_whole : PySem.W.keepIn K (.ref f_is_whole) = true)
    (a_is_within : PySem.W.nsIn K mainGlobals "is_within" = some (some (.ref f_is_within)))
    (l_is_within : K.lookup f_is_within = some ⟨oc_is_within, od_is_within, .func (PySem.W.fnOf "is_within" "is_within" (defArgs s_is_within) (defBody s_is_within) (defScope s_is_within) .none kV_is_within dc_is_within pm_is_within an_is_within cd_is_within ct_is_within), sl_is_within⟩)
    (c_is_within : PySem.W.codeIn K cd_is_within "is_within" = true)
    (k_is_within : PySem.W.keepIn K (.ref f_is_within) = true)
    (a_is_prime_number : PySem.W.nsIn K mainGlobals "is_prime_number" = some (some (.ref f_is_prime_number)))
    (l_is_prime_number : K.lookup f_is_prime_number = some ⟨oc_is_prime_number, od_is_prime_number, .func (PySem.W.fnOf "is_prime_number" "is_prime_number" (defArgs s_is_prime_number) (defBody s_is_prime_number) (defScope s_is_prime_number) .none kV_is_prime_number dc_is_prime_number pm_is_prime_number an_is_prime_number cd_is_prime_number ct_is_prime_number), sl_is_prime_number⟩)
    (c_is_prime_number : PySem.W.codeIn K cd_is_prime_number "is_prime_number" = true)
    (k_is_prime_number : PySem.W.keepIn K (.ref f_is_prime_number) = true)
    (a_is_field : PySem.W.nsIn K mainGlobals "is_field" = some (some (.ref f_is_field)))
    (l_is_field : K.lookup f_is_field = some ⟨oc_is_field, od_is_field, .func (PySem.W.fnOf "is_field" "is_field" (defArgs s_is_field) (defBody s_is_field) (defScope s_is_field) .none kV_is_field dc_is_field pm_is_field an_is_field cd_is_field ct_is_field), sl_is_field⟩)
    (c_is_field : PySem.W.codeIn K cd_is_field "is_field" = true)
    (k_is_field : PySem.W.keepIn K (.ref f_is_field) = true)
    (a_require_field : PySem.W.nsIn K mainGlobals "require_field" = some (some (.ref f_require_field)))
    (l_require_field : K.lookup f_require_field = some ⟨oc_require_field, od_require_field, .func (PySem.W.fnOf "require_field" "require_field" (defArgs s_require_field) (defBody s_require_field) (defScope s_require_field) .none kV_require_field dc_require_field pm_require_field an_require_field cd_require_field ct_require_field), sl_require_field⟩)
    (c_require_field : PySem.W.codeIn K cd_require_field "require_field" = true)
    (k_require_field : PySem.W.keepIn K (.ref f_require_field) = true)
    (a_inverse_in : PySem.W.nsIn K mainGlobals "inverse_in" = some (some (.ref f_inverse_in)))
    (l_inverse_in : K.lookup f_inverse_in = some ⟨oc_inverse_in, od_inverse_in, .func (PySem.W.fnOf "inverse_in" "inverse_in" (defArgs s_inverse_in) (defBody s_inverse_in) (defScope s_inverse_in) .none kV_inverse_in dc_inverse_in pm_inverse_in an_inverse_in cd_inverse_in ct_inverse_in), sl_inverse_in⟩)
    (c_inverse_in : PySem.W.codeIn K cd_inverse_in "inverse_in" = true)
    (k_inverse_in : PySem.W.keepIn K (.ref f_inverse_in) = true)
    (a_without_each : PySem.W.nsIn K mainGlobals "without_each" = some (some (.ref f_without_each)))
    (l_without_each : K.lookup f_without_each = some ⟨oc_without_each, od_without_each, .func (PySem.W.fnOf "without_each" "without_each" (defArgs s_without_each) (defBody s_without_each) (defScope s_without_each) .none kV_without_each dc_without_each pm_without_each an_without_each cd_without_each ct_without_each), sl_without_each⟩)
    (c_without_each : PySem.W.codeIn K cd_without_each "without_each" = true)
    (k_without_each : PySem.W.keepIn K (.ref f_without_each) = true)
    (a_closed_downward : PySem.W.nsIn K mainGlobals "closed_downward" = some (some (.ref f_closed_downward)))
    (l_closed_downward : K.lookup f_closed_downward = some ⟨oc_closed_downward, od_closed_downward, .func (PySem.W.fnOf "closed_downward" "closed_downward" (defArgs s_closed_downward) (defBody s_closed_downward) (defScope s_closed_downward) .none kV_closed_downward dc_closed_downward pm_closed_downward an_closed_downward cd_closed_downward ct_closed_downward), sl_closed_downward⟩)
    (c_closed_downward : PySem.W.codeIn K cd_closed_downward "closed_downward" = true)
    (k_closed_downward : PySem.W.keepIn K (.ref f_closed_downward) = true)
    (a_less_times : PySem.W.nsIn K mainGlobals "less_times" = some (some (.ref f_less_times)))
    (l_less_times : K.lookup f_less_times = some ⟨oc_less_times, od_less_times, .func (PySem.W.fnOf "less_times" "less_times" (defArgs s_less_times) (defBody s_less_times) (defScope s_less_times) .none kV_less_times dc_less_times pm_less_times an_less_times cd_less_times ct_less_times), sl_less_times⟩)
    (c_less_times : PySem.W.codeIn K cd_less_times "less_times" = true)
    (k_less_times : PySem.W.keepIn K (.ref f_less_times) = true)
    (a_boundary_rank : PySem.W.nsIn K mainGlobals "boundary_rank" = some (some (.ref f_boundary_rank)))
    (l_boundary_rank : K.lookup f_boundary_rank = some ⟨oc_boundary_rank, od_boundary_rank, .func (PySem.W.fnOf "boundary_rank" "boundary_rank" (defArgs s_boundary_rank) (defBody s_boundary_rank) (defScope s_boundary_rank) .none kV_boundary_rank dc_boundary_rank pm_boundary_rank an_boundary_rank cd_boundary_rank ct_boundary_rank), sl_boundary_rank⟩)
    (c_boundary_rank : PySem.W.codeIn K cd_boundary_rank "boundary_rank" = true)
    (k_boundary_rank : PySem.W.keepIn K (.ref f_boundary_rank) = true)
    (a_holes_in : PySem.W.nsIn K mainGlobals "holes_in" = some (some (.ref f_holes_in)))
    (l_holes_in : K.lookup f_holes_in = some ⟨oc_holes_in, od_holes_in, .func (PySem.W.fnOf "holes_in" "holes_in" (defArgs s_holes_in) (defBody s_holes_in) (defScope s_holes_in) .none kV_holes_in dc_holes_in pm_holes_in an_holes_in cd_holes_in ct_holes_in), sl_holes_in⟩)
    (c_holes_in : PySem.W.codeIn K cd_holes_in "holes_in" = true)
    (k_holes_in : PySem.W.keepIn K (.ref f_holes_in) = true)
    (a_is_set_on : PySem.W.nsIn K mainGlobals "is_set_on" = some (some (.ref f_is_set_on)))
    (l_is_set_on : K.lookup f_is_set_on = some ⟨oc_is_set_on, od_is_set_on, .func (PySem.W.fnOf "is_set_on" "is_set_on" (defArgs s_is_set_on) (defBody s_is_set_on) (defScope s_is_set_on) .none kV_is_set_on dc_is_set_on pm_is_set_on an_is_set_on cd_is_set_on ct_is_set_on), sl_is_set_on⟩)
    (c_is_set_on : PySem.W.codeIn K cd_is_set_on "is_set_on" = true)
    (k_is_set_on : PySem.W.keepIn K (.ref f_is_set_on) = true)
    (a_by_size : PySem.W.nsIn K mainGlobals "by_size" = some (some (.ref f_by_size)))
    (l_by_size : K.lookup f_by_size = some ⟨oc_by_size, od_by_size, .func (PySem.W.fnOf "by_size" "by_size" (defArgs s_by_size) (defBody s_by_size) (defScope s_by_size) .none kV_by_size dc_by_size pm_by_size an_by_size cd_by_size ct_by_size), sl_by_size⟩)
    (c_by_size : PySem.W.codeIn K cd_by_size "by_size" = true)
    (k_by_size : PySem.W.keepIn K (.ref f_by_size) = true)
    (a_greatest_of : PySem.W.nsIn K mainGlobals "greatest_of" = some (some (.ref f_greatest_of)))
    (l_greatest_of : K.lookup f_greatest_of = some ⟨oc_greatest_of, od_greatest_of, .func (PySem.W.fnOf "greatest_of" "greatest_of" (defArgs s_greatest_of) (defBody s_greatest_of) (defScope s_greatest_of) .none kV_greatest_of dc_greatest_of pm_greatest_of an_greatest_of cd_greatest_of ct_greatest_of), sl_greatest_of⟩)
    (c_greatest_of : PySem.W.codeIn K cd_greatest_of "greatest_of" = true)
    (k_greatest_of : PySem.W.keepIn K (.ref f_greatest_of) = true)
    (a_sets_told : PySem.W.nsIn K mainGlobals "sets_told" = some (some (.ref f_sets_told)))
    (l_sets_told : K.lookup f_sets_told = some ⟨oc_sets_told, od_sets_told, .func (PySem.W.fnOf "sets_told" "sets_told" (defArgs s_sets_told) (defBody s_sets_told) (defScope s_sets_told) .none kV_sets_told dc_sets_told pm_sets_told an_sets_told cd_sets_told ct_sets_told), sl_sets_told⟩)
    (c_sets_told : PySem.W.codeIn K cd_sets_told "sets_told" = true)
    (k_sets_told : PySem.W.keepIn K (.ref f_sets_told) = true)
    (a_Family___init__ : PySem.W.findIn K (.ref c_Family) "__init__" = some (some (.ref f_Family___init__)))
    (i_Family___init__ : PySem.W.isFn K (.ref f_Family___init__) = true)
    (l_Family___init__ : K.lookup f_Family___init__ = some ⟨oc_Family___init__, od_Family___init__, .func (PySem.W.fnOf "__init__" "Family.__init__" (defArgs s_Family___init__) (defBody s_Family___init__) (defScope s_Family___init__) .none kV_Family___init__ dc_Family___init__ pm_Family___init__ an_Family___init__ cd_Family___init__ ct_Family___init__), sl_Family___init__⟩)
    (c_Family___init__ : PySem.W.codeIn K cd_Family___init__ "Family.__init__" = true)
    (k_Family___init__ : PySem.W.keepIn K (.ref f_Family___init__) = true)
    (a_Family_euler : PySem.W.findIn K (.ref c_Family) "euler" = some (some (.ref p_Family_euler)))
    (b_Family_euler : PySem.W.specialIn K (.ref p_Family_euler) "__get__" = some (some (.builtin "property.__get__")))
    (d_Family_euler : PySem.W.takesIn K (.ref p_Family_euler) = some true)
    (e_Family_euler : PySem.W.recIn K p_Family_euler "property" = some (.ref f_Family_euler :: re_Family_euler))
    (l_Family_euler : K.lookup f_Family_euler = some ⟨oc_Family_euler, od_Family_euler, .func (PySem.W.fnOf "euler" "Family.euler" (defArgs s_Family_euler) (defBody s_Family_euler) (defScope s_Family_euler) .none kV_Family_euler dc_Family_euler pm_Family_euler an_Family_euler cd_Family_euler ct_Family_euler), sl_Family_euler⟩)
    (c_Family_euler : PySem.W.codeIn K cd_Family_euler "Family.euler" = true)
    (k_Family_euler : PySem.W.keepIn K (.ref f_Family_euler) = true)
    (a_Family_holes : PySem.W.findIn K (.ref c_Family) "holes" = some (some (.ref f_Family_holes)))
    (i_Family_holes : PySem.W.isFn K (.ref f_Family_holes) = true)
    (l_Family_holes : K.lookup f_Family_holes = some ⟨oc_Family_holes, od_Family_holes, .func (PySem.W.fnOf "holes" "Family.holes" (defArgs s_Family_holes) (defBody s_Family_holes) (defScope s_Family_holes) dV_Family_holes kV_Family_holes dc_Family_holes pm_Family_holes an_Family_holes cd_Family_holes ct_Family_holes), sl_Family_holes⟩)
    (f_df_Family_holes : He.dflB K dV_Family_holes (([0] : List Int).map V.int) = true)
    (c_Family_holes : PySem.W.codeIn K cd_Family_holes "Family.holes" = true)
    (k_Family_holes : PySem.W.keepIn K (.ref f_Family_holes) = true)
    (a_Family___iter__ : PySem.W.findIn K (.ref c_Family) "__iter__" = some (some (.ref f_Family___iter__)))
    (i_Family___iter__ : PySem.W.isFn K (.ref f_Family___iter__) = true)
    (l_Family___iter__ : K.lookup f_Family___iter__ = some ⟨oc_Family___iter__, od_Family___iter__, .func (PySem.W.fnOf "__iter__" "Family.__iter__" (defArgs s_Family___iter__) (defBody s_Family___iter__) (defScope s_Family___iter__) .none kV_Family___iter__ dc_Family___iter__ pm_Family___iter__ an_Family___iter__ cd_Family___iter__ ct_Family___iter__), sl_Family___iter__⟩)
    (c_Family___iter__ : PySem.W.codeIn K cd_Family___iter__ "Family.__iter__" = true)
    (k_Family___iter__ : PySem.W.keepIn K (.ref f_Family___iter__) = true)
    (a_qpot : PySem.W.nsIn K mainGlobals "_law_pot" = some (some (.ref f_qpot)))
    (l_qpot : K.lookup f_qpot = some ⟨oc_qpot, od_qpot, .func (PySem.W.fnOf "_law_pot" "_law_pot" (defArgs s_qpot) (defBody s_qpot) (defScope s_qpot) .none kV_qpot dc_qpot pm_qpot an_qpot cd_qpot ct_qpot), sl_qpot⟩)
    (c_qpot : PySem.W.codeIn K cd_qpot "_law_pot" = true)
    (k_qpot : PySem.W.keepIn K (.ref f_qpot) = true)
    (a_qdip : PySem.W.nsIn K mainGlobals "_law_dip" = some (some (.ref f_qdip)))
    (l_qdip : K.lookup f_qdip = some ⟨oc_qdip, od_qdip, .func (PySem.W.fnOf "_law_dip" "_law_dip" (defArgs s_qdip) (defBody s_qdip) (defScope s_qdip) .none kV_qdip dc_qdip pm_qdip an_qdip cd_qdip ct_qdip), sl_qdip⟩)
    (c_qdip : PySem.W.codeIn K cd_qdip "_law_dip" = true)
    (k_qdip : PySem.W.keepIn K (.ref f_qdip) = true)
    (a_qpick : PySem.W.nsIn K mainGlobals "_law_pick" = some (some (.ref f_qpick)))
    (l_qpick : K.lookup f_qpick = some ⟨oc_qpick, od_qpick, .func (PySem.W.fnOf "_law_pick" "_law_pick" (defArgs s_qpick) (defBody s_qpick) (defScope s_qpick) .none kV_qpick dc_qpick pm_qpick an_qpick cd_qpick ct_qpick), sl_qpick⟩)
    (c_qpick : PySem.W.codeIn K cd_qpick "_law_pick" = true)
    (k_qpick : PySem.W.keepIn K (.ref f_qpick) = true)
    (a_qsubsets : PySem.W.nsIn K mainGlobals "_law_subsets" = some (some (.ref f_qsubsets)))
    (l_qsubsets : K.lookup f_qsubsets = some ⟨oc_qsubsets, od_qsubsets, .func (PySem.W.fnOf "_law_subsets" "_law_subsets" (defArgs s_qsubsets) (defBody s_qsubsets) (defScope s_qsubsets) .none kV_qsubsets dc_qsubsets pm_qsubsets an_qsubsets cd_qsubsets ct_qsubsets), sl_qsubsets⟩)
    (c_qsubsets : PySem.W.codeIn K cd_qsubsets "_law_subsets" = true)
    (k_qsubsets : PySem.W.keepIn K (.ref f_qsubsets) = true)
    (a_qinside : PySem.W.nsIn K mainGlobals "_law_inside" = some (some (.ref f_qinside)))
    (l_qinside : K.lookup f_qinside = some ⟨oc_qinside, od_qinside, .func (PySem.W.fnOf "_law_inside" "_law_inside" (defArgs s_qinside) (defBody s_qinside) (defScope s_qinside) .none kV_qinside dc_qinside pm_qinside an_qinside cd_qinside ct_qinside), sl_qinside⟩)
    (c_qinside : PySem.W.codeIn K cd_qinside "_law_inside" = true)
    (k_qinside : PySem.W.keepIn K (.ref f_qinside) = true)
    (a_qsets : PySem.W.nsIn K mainGlobals "_law_sets" = some (some (.ref f_qsets)))
    (l_qsets : K.lookup f_qsets = some ⟨oc_qsets, od_qsets, .func (PySem.W.fnOf "_law_sets" "_law_sets" (defArgs s_qsets) (defBody s_qsets) (defScope s_qsets) .none kV_qsets dc_qsets pm_qsets an_qsets cd_qsets ct_qsets), sl_qsets⟩)
    (c_qsets : PySem.W.codeIn K cd_qsets "_law_sets" = true)
    (k_qsets : PySem.W.keepIn K (.ref f_qsets) = true)
    (a_qall : PySem.W.nsIn K mainGlobals "_law_all" = some (some (.ref f_qall)))
    (l_qall : K.lookup f_qall = some ⟨oc_qall, od_qall, .func (PySem.W.fnOf "_law_all" "_law_all" (defArgs s_qall) (defBody s_qall) (defScope s_qall) .none kV_qall dc_qall pm_qall an_qall cd_qall ct_qall), sl_qall⟩)
    (c_qall : PySem.W.codeIn K cd_qall "_law_all" = true)
    (k_qall : PySem.W.keepIn K (.ref f_qall) = true)
    (a_qshort : PySem.W.nsIn K mainGlobals "_law_short" = some (some (.ref f_qshort)))
    (l_qshort : K.lookup f_qshort = some ⟨oc_qshort, od_qshort, .func (PySem.W.fnOf "_law_short" "_law_short" (defArgs s_qshort) (defBody s_qshort) (defScope s_qshort) .none kV_qshort dc_qshort pm_qshort an_qshort cd_qshort ct_qshort), sl_qshort⟩)
    (c_qshort : PySem.W.codeIn K cd_qshort "_law_short" = true)
    (k_qshort : PySem.W.keepIn K (.ref f_qshort) = true)
    (a_qrank : PySem.W.nsIn K mainGlobals "_law_rank" = some (some (.ref f_qrank)))
    (l_qrank : K.lookup f_qrank = some ⟨oc_qrank, od_qrank, .func (PySem.W.fnOf "_law_rank" "_law_rank" (defArgs s_qrank) (defBody s_qrank) (defScope s_qrank) .none kV_qrank dc_qrank pm_qrank an_qrank cd_qrank ct_qrank), sl_qrank⟩)
    (c_qrank : PySem.W.codeIn K cd_qrank "_law_rank" = true)
    (k_qrank : PySem.W.keepIn K (.ref f_qrank) = true)
    (a_qboundary : PySem.W.nsIn K mainGlobals "_law_boundary" = some (some (.ref f_qboundary)))
    (l_qboundary : K.lookup f_qboundary = some ⟨oc_qboundary, od_qboundary, .func (PySem.W.fnOf "_law_boundary" "_law_boundary" (defArgs s_qboundary) (defBody s_qboundary) (defScope s_qboundary) .none kV_qboundary dc_qboundary pm_qboundary an_qboundary cd_qboundary ct_qboundary), sl_qboundary⟩)
    (c_qboundary : PySem.W.codeIn K cd_qboundary "_law_boundary" = true)
    (k_qboundary : PySem.W.keepIn K (.ref f_qboundary) = true)
    (a_qholes : PySem.W.nsIn K mainGlobals "_law_holes" = some (some (.ref f_qholes)))
    (l_qholes : K.lookup f_qholes = some ⟨oc_qholes, od_qholes, .func (PySem.W.fnOf "_law_holes" "_law_holes" (defArgs s_qholes) (defBody s_qholes) (defScope s_qholes) .none kV_qholes dc_qholes pm_qholes an_qholes cd_qholes ct_qholes), sl_qholes⟩)
    (c_qholes : PySem.W.codeIn K cd_qholes "_law_holes" = true)
    (k_qholes : PySem.W.keepIn K (.ref f_qholes) = true)
    (a_qmixed : PySem.W.nsIn K mainGlobals "_law_mixed" = some (some (.ref f_qmixed)))
    (l_qmixed : K.lookup f_qmixed = some ⟨oc_qmixed, od_qmixed, .func (PySem.W.fnOf "_law_mixed" "_law_mixed" (defArgs s_qmixed) (defBody s_qmixed) (defScope s_qmixed) .none kV_qmixed dc_qmixed pm_qmixed an_qmixed cd_qmixed ct_qmixed), sl_qmixed⟩)
    (c_qmixed : PySem.W.codeIn K cd_qmixed "_law_mixed" = true)
    (k_qmixed : PySem.W.keepIn K (.ref f_qmixed) = true)
    (a_qrenamed : PySem.W.nsIn K mainGlobals "_law_renamed" = some (some (.ref f_qrenamed)))
    (l_qrenamed : K.lookup f_qrenamed = some ⟨oc_qrenamed, od_qrenamed, .func (PySem.W.fnOf "_law_renamed" "_law_renamed" (defArgs s_qrenamed) (defBody s_qrenamed) (defScope s_qrenamed) .none kV_qrenamed dc_qrenamed pm_qrenamed an_qrenamed cd_qrenamed ct_qrenamed), sl_qrenamed⟩)
    (c_qrenamed : PySem.W.codeIn K cd_qrenamed "_law_renamed" = true)
    (k_qrenamed : PySem.W.keepIn K (.ref f_qrenamed) = true)
    (a_qright : PySem.W.nsIn K mainGlobals "_law_right" = some (some (.ref f_qright)))
    (l_qright : K.lookup f_qright = some ⟨oc_qright, od_qright, .func (PySem.W.fnOf "_law_right" "_law_right" (defArgs s_qright) (defBody s_qright) (defScope s_qright) .none kV_qright dc_qright pm_qright an_qright cd_qright ct_qright), sl_qright⟩)
    (c_qright : PySem.W.codeIn K cd_qright "_law_right" = true)
    (k_qright : PySem.W.keepIn K (.ref f_qright) = true)
    (a_law : PySem.W.nsIn K mainGlobals "law" = some (some (.ref f_law)))
    (l_law : K.lookup f_law = some ⟨oc_law, od_law, .func (PySem.W.fnOf "law" "law" (defArgs s_law) (defBody s_law) (defScope s_law) .none kV_law dc_law pm_law an_law cd_law ct_law), sl_law⟩)
    (c_law : PySem.W.codeIn K cd_law "law" = true)
    (k_law : PySem.W.keepIn K (.ref f_law) = true)
    (z_abs : PySem.W.nsIn K mainGlobals "abs" = some none)
    (z_all : PySem.W.nsIn K mainGlobals "all" = some none)
    (z_bool : PySem.W.nsIn K mainGlobals "bool" = some none)
    (z_dict : PySem.W.nsIn K mainGlobals "dict" = some none)
    (z_enumerate : PySem.W.nsIn K mainGlobals "enumerate" = some none)
    (z_int : PySem.W.nsIn K mainGlobals "int" = some none)
    (z_isinstance : PySem.W.nsIn K mainGlobals "isinstance" = some none)
    (z_iter : PySem.W.nsIn K mainGlobals "iter" = some none)
    (z_len : PySem.W.nsIn K mainGlobals "len" = some none)
    (z_list : PySem.W.nsIn K mainGlobals "list" = some none)
    (z_max : PySem.W.nsIn K mainGlobals "max" = some none)
    (z_min : PySem.W.nsIn K mainGlobals "min" = some none)
    (z_range : PySem.W.nsIn K mainGlobals "range" = some none)
    (z_sorted : PySem.W.nsIn K mainGlobals "sorted" = some none)
    (z_sum : PySem.W.nsIn K mainGlobals "sum" = some none)
    (z_tuple : PySem.W.nsIn K mainGlobals "tuple" = some none)
    (z_zip : PySem.W.nsIn K mainGlobals "zip" = some none)
    (y_FAR_PRIME : PySem.W.nsIn K mainGlobals "FAR_PRIME" = some (some (.int 2305843009213693951 t_FAR_PRIME)))
    (y_MAX_CORNERS : PySem.W.nsIn K mainGlobals "MAX_CORNERS" = some (some (.int 8 t_MAX_CORNERS)))
    (y_MAX_FIELD : PySem.W.nsIn K mainGlobals "MAX_FIELD" = some (some (.int 97 t_MAX_FIELD)))
    (y_MAX_PASSED : PySem.W.nsIn K mainGlobals "MAX_PASSED" = some (some (.int 256 t_MAX_PASSED)))
    : ∃ fd : FuncData, (∀ (s : Shared) (v : Value), BindsTo s fd ⟨[v], []⟩ [("_law_script", v)]) ∧ ∀ base : Heap, K.In base → base.Ns mainGlobals mg → FnOk l.prog w K mg base CX0 8 fa fd ["_law_script"] (upSp K sp_law) := by
  have e := hfa.symm.trans (PySem.W.mg_of X G a_law)
  have e2 : fa = f_law := by cases e; rfl
  rw [e2]
  have T : Txt l.prog K mg t_FAR_PRIME t_MAX_CORNERS t_MAX_FIELD t_MAX_PASSED c_KeptSets c_Family := ⟨PySem.W.mg_none_of X G z_abs, PySem.W.mg_none_of X G z_all, PySem.W.mg_none_of X G z_bool, PySem.W.mg_none_of X G z_dict, PySem.W.mg_none_of X G z_enumerate, PySem.W.mg_none_of X G z_int, PySem.W.mg_none_of X G z_isinstance, PySem.W.mg_none_of X G z_iter, PySem.W.mg_none_of X G z_len, PySem.W.mg_none_of X G z_list, PySem.W.mg_none_of X G z_max, PySem.W.mg_none_of X G z_min, PySem.W.mg_none_of X G z_range, PySem.W.mg_none_of X G z_sorted, PySem.W.mg_none_of X G z_sum, PySem.W.mg_none_of X G z_tuple, PySem.W.mg_none_of X G z_zip, PySem.W.mg_of X G y_FAR_PRIME, PySem.W.mg_of X G y_MAX_CORNERS, PySem.W.mg_of X G y_MAX_FIELD, PySem.W.mg_of X G y_MAX_PASSED, PySem.W.mg_of X G cl_KeptSets, ⟨⟨pg_KeptSets, ic_KeptSets, po_KeptSets, sa_KeptSets⟩, ⟨ca_KeptSets, cn_KeptSets, ct_KeptSets, cm_KeptSets⟩, noSub_all, noIsi_of ic_KeptSets ty_KeptSets, ms_KeptSets, kp_KeptSets⟩, PySem.W.mg_of X G cl_Family, ⟨⟨pg_Family, ic_Family, po_Family, sa_Family⟩, ⟨ca_Family, cn_Family, ct_Family, cm_Family⟩, noSub_all, noIsi_of ic_Family ty_Family, ms_Family, kp_Family⟩, ⟨_, s1_Family_own_corners, s2_Family_own_corners, s3_Family_own_corners, s4_Family_own_corners, s5_Family_own_corners, by decide⟩, ⟨_, s1_Family_own_known, s2_Family_own_known, s3_Family_own_known, s4_Family_own_known, s5_Family_own_known, by decide⟩, ⟨_, s1_Family_own_members, s2_Family_own_members, s3_Family_own_members, s4_Family_own_members, s5_Family_own_members, by decide⟩, ⟨_, s1_Family_own_sets, s2_Family_own_sets, s3_Family_own_sets, s4_Family_own_sets, s5_Family_own_sets, by decide⟩, ⟨_, s1_KeptSets_own_sets, s2_KeptSets_own_sets, s3_KeptSets_own_sets, s4_KeptSets_own_sets, s5_KeptSets_own_sets, by decide⟩⟩
  have F_is_whole := fun_mk (st := s_is_whole) l_is_whole c_is_whole k_is_whole
  have D_is_whole : Dfn K mg "is_whole" s_is_whole ["value"] f_is_whole _ := ⟨F_is_whole, PySem.W.mg_of X G a_is_whole, F_is_whole.binds fun _ _ _ _ _ _ us hl => match us, hl with | [_], _ => rfl⟩
  have F_is_within := fun_mk (st := s_is_within) l_is_within c_is_within k_is_within
  have D_is_within : Dfn K mg "is_within" s_is_within ["value", "least", "greatest"] f_is_within _ := ⟨F_is_within, PySem.W.mg_of X G a_is_within, F_is_within.binds fun _ _ _ _ _ _ us hl => match us, hl with | [_, _, _], _ => rfl⟩
  have F_is_prime_number := fun_mk (st := s_is_prime_number) l_is_prime_number c_is_prime_number k_is_prime_number
  have D_is_prime_number : Dfn K mg "is_prime_number" s_is_prime_number ["number"] f_is_prime_number _ := ⟨F_is_prime_number, PySem.W.mg_of X G a_is_prime_number, F_is_prime_number.binds fun _ _ _ _ _ _ us hl => match us, hl with | [_], _ => rfl⟩
  have F_is_field := fun_mk (st := s_is_field) l_is_field c_is_field k_is_field
  have D_is_field : Dfn K mg "is_field" s_is_field ["value"] f_is_field _ := ⟨F_is_field, PySem.W.mg_of X G a_is_field, F_is_field.binds fun _ _ _ _ _ _ us hl => match us, hl with | [_], _ => rfl⟩
  have F_require_field := fun_mk (st := s_require_field) l_require_field c_require_field k_require_field
  have D_require_field : Dfn K mg "require_field" s_require_field ["prime"] f_require_field _ := ⟨F_require_field, PySem.W.mg_of X G a_require_field, F_require_field.binds fun _ _ _ _ _ _ us hl => match us, hl with | [_], _ => rfl⟩
  have F_inverse_in := fun_mk (st := s_inverse_in) l_inverse_in c_inverse_in k_inverse_in
  have D_inverse_in : Dfn K mg "inverse_in" s_inverse_in ["number", "prime"] f_inverse_in _ := ⟨F_inverse_in, PySem.W.mg_of X G a_inverse_in, F_inverse_in.binds fun _ _ _ _ _ _ us hl => match us, hl with | [_, _], _ => rfl⟩
  have F_without_each := fun_mk (st := s_without_each) l_without_each c_without_each k_without_each
  have D_without_each : Dfn K mg "without_each" s_without_each ["chosen"] f_without_each _ := ⟨F_without_each, PySem.W.mg_of X G a_without_each, F_without_each.binds fun _ _ _ _ _ _ us hl => match us, hl with | [_], _ => rfl⟩
  have F_closed_downward := fun_mk (st := s_closed_downward) l_closed_downward c_closed_downward k_closed_downward
  have D_closed_downward : Dfn K mg "closed_downward" s_closed_downward ["sets"] f_closed_downward _ := ⟨F_closed_downward, PySem.W.mg_of X G a_closed_downward, F_closed_downward.binds fun _ _ _ _ _ _ us hl => match us, hl with | [_], _ => rfl⟩
  have F_less_times := fun_mk (st := s_less_times) l_less_times c_less_times k_less_times
  have D_less_times : Dfn K mg "less_times" s_less_times ["row", "factor", "other", "prime"] f_less_times _ := ⟨F_less_times, PySem.W.mg_of X G a_less_times, F_less_times.binds fun _ _ _ _ _ _ us hl => match us, hl with | [_, _, _, _], _ => rfl⟩
  have F_boundary_rank := fun_mk (st := s_boundary_rank) l_boundary_rank c_boundary_rank k_boundary_rank
  have D_boundary_rank : Dfn K mg "boundary_rank" s_boundary_rank ["sets", "size", "prime"] f_boundary_rank _ := ⟨F_boundary_rank, PySem.W.mg_of X G a_boundary_rank, F_boundary_rank.binds fun _ _ _ _ _ _ us hl => match us, hl with | [_, _, _], _ => rfl⟩
  have F_holes_in := fun_mk (st := s_holes_in) l_holes_in c_holes_in k_holes_in
  have D_holes_in : Dfn K mg "holes_in" s_holes_in ["sets", "prime"] f_holes_in _ := ⟨F_holes_in, PySem.W.mg_of X G a_holes_in, F_holes_in.binds fun _ _ _ _ _ _ us hl => match us, hl with | [_, _], _ => rfl⟩
  have F_is_set_on := fun_mk (st := s_is_set_on) l_is_set_on c_is_set_on k_is_set_on
  have D_is_set_on : Dfn K mg "is_set_on" s_is_set_on ["corners", "value"] f_is_set_on _ := ⟨F_is_set_on, PySem.W.mg_of X G a_is_set_on, F_is_set_on.binds fun _ _ _ _ _ _ us hl => match us, hl with | [_, _], _ => rfl⟩
  have F_by_size := fun_mk (st := s_by_size) l_by_size c_by_size k_by_size
  have D_by_size : Dfn K mg "by_size" s_by_size ["sets"] f_by_size _ := ⟨F_by_size, PySem.W.mg_of X G a_by_size, F_by_size.binds fun _ _ _ _ _ _ us hl => match us, hl with | [_], _ => rfl⟩
  have F_greatest_of := fun_mk (st := s_greatest_of) l_greatest_of c_greatest_of k_greatest_of
  have D_greatest_of : Dfn K mg "greatest_of" s_greatest_of ["sets"] f_greatest_of _ := ⟨F_greatest_of, PySem.W.mg_of X G a_greatest_of, F_greatest_of.binds fun _ _ _ _ _ _ us hl => match us, hl with | [_], _ => rfl⟩
  have F_sets_told := fun_mk (st := s_sets_told) l_sets_told c_sets_told k_sets_told
  have D_sets_told : Dfn K mg "sets_told" s_sets_told ["corners", "members"] f_sets_told _ := ⟨F_sets_told, PySem.W.mg_of X G a_sets_told, F_sets_told.binds fun _ _ _ _ _ _ us hl => match us, hl with | [_, _], _ => rfl⟩
  have F_Family___init__ := fun_mk (st := s_Family___init__) l_Family___init__ c_Family___init__ k_Family___init__
  have D_Family___init__ : Mtd K c_Family "__init__" "Family.__init__" s_Family___init__ ["self", "corners", "members"] f_Family___init__ _ := ⟨F_Family___init__, F_Family___init__.binds fun _ _ _ _ _ _ us hl => match us, hl with | [_, _, _], _ => rfl, a_Family___init__, i_Family___init__⟩
  have F_Family_euler := fun_mk (st := s_Family_euler) l_Family_euler c_Family_euler k_Family_euler
  have D_Family_euler : Prp K c_Family "euler" "Family.euler" s_Family_euler ["self"] f_Family_euler _ := ⟨F_Family_euler, F_Family_euler.binds fun _ _ _ _ _ _ us hl => match us, hl with | [_], _ => rfl, _, a_Family_euler, b_Family_euler, d_Family_euler, _, e_Family_euler⟩
  have F_Family_holes := funD_mk (st := s_Family_holes) (dv := [0]) l_Family_holes c_Family_holes k_Family_holes f_df_Family_holes
  have D_Family_holes : MtdD K c_Family "holes" "Family.holes" s_Family_holes ["self", "prime"] [0] f_Family_holes _ := ⟨F_Family_holes, (funD_all F_Family_holes (by decide) fun T kV doc pm an cdv ct us its h1 h2 => match us, its, h1, h2 with | [_, _], [_], _, _ => ⟨_, rfl, rfl⟩), (funD_few F_Family_holes (by decide) 1 rfl fun T kV doc pm an cdv ct us its h1 h2 => match us, its, h1, h2 with | [_], [_], _, _ => ⟨_, rfl, rfl⟩), a_Family_holes, i_Family_holes⟩
  have F_Family___iter__ := fun_mk (st := s_Family___iter__) l_Family___iter__ c_Family___iter__ k_Family___iter__
  have D_Family___iter__ : Mtd K c_Family "__iter__" "Family.__iter__" s_Family___iter__ ["self"] f_Family___iter__ _ := ⟨F_Family___iter__, F_Family___iter__.binds fun _ _ _ _ _ _ us hl => match us, hl with | [_], _ => rfl, a_Family___iter__, i_Family___iter__⟩
  have F_qpot := fun_mk (st := s_qpot) l_qpot c_qpot k_qpot
  have D_qpot : Dfn K mg "_law_pot" s_qpot ["_law_script", "_law_at"] f_qpot _ := ⟨F_qpot, PySem.W.mg_of X G a_qpot, F_qpot.binds fun _ _ _ _ _ _ us hl => match us, hl with | [_, _], _ => rfl⟩
  have F_qdip := fun_mk (st := s_qdip) l_qdip c_qdip k_qdip
  have D_qdip : Dfn K mg "_law_dip" s_qdip ["_law_pot_here", "_law_total"] f_qdip _ := ⟨F_qdip, PySem.W.mg_of X G a_qdip, F_qdip.binds fun _ _ _ _ _ _ us hl => match us, hl with | [_, _], _ => rfl⟩
  have F_qpick := fun_mk (st := s_qpick) l_qpick c_qpick k_qpick
  have D_qpick : Dfn K mg "_law_pick" s_qpick ["_law_pot_here", "_law_items"] f_qpick _ := ⟨F_qpick, PySem.W.mg_of X G a_qpick, F_qpick.binds fun _ _ _ _ _ _ us hl => match us, hl with | [_, _], _ => rfl⟩
  have F_qsubsets := fun_mk (st := s_qsubsets) l_qsubsets c_qsubsets k_qsubsets
  have D_qsubsets : Dfn K mg "_law_subsets" s_qsubsets ["_law_size"] f_qsubsets _ := ⟨F_qsubsets, PySem.W.mg_of X G a_qsubsets, F_qsubsets.binds fun _ _ _ _ _ _ us hl => match us, hl with | [_], _ => rfl⟩
  have F_qinside := fun_mk (st := s_qinside) l_qinside c_qinside k_qinside
  have D_qinside : Dfn K mg "_law_inside" s_qinside ["_law_one", "_law_other"] f_qinside _ := ⟨F_qinside, PySem.W.mg_of X G a_qinside, F_qinside.binds fun _ _ _ _ _ _ us hl => match us, hl with | [_, _], _ => rfl⟩
  have F_qsets := fun_mk (st := s_qsets) l_qsets c_qsets k_qsets
  have D_qsets : Dfn K mg "_law_sets" s_qsets ["_law_pot_here", "_law_size"] f_qsets _ := ⟨F_qsets, PySem.W.mg_of X G a_qsets, F_qsets.binds fun _ _ _ _ _ _ us hl => match us, hl with | [_, _], _ => rfl⟩
  have F_qall := fun_mk (st := s_qall) l_qall c_qall k_qall
  have D_qall : Dfn K mg "_law_all" s_qall ["_law_size", "_law_sets_here"] f_qall _ := ⟨F_qall, PySem.W.mg_of X G a_qall, F_qall.binds fun _ _ _ _ _ _ us hl => match us, hl with | [_, _], _ => rfl⟩
  have F_qshort := fun_mk (st := s_qshort) l_qshort c_qshort k_qshort
  have D_qshort : Dfn K mg "_law_short" s_qshort ["_law_line"] f_qshort _ := ⟨F_qshort, PySem.W.mg_of X G a_qshort, F_qshort.binds fun _ _ _ _ _ _ us hl => match us, hl with | [_], _ => rfl⟩
  have F_qrank := fun_mk (st := s_qrank) l_qrank c_qrank k_qrank
  have D_qrank : Dfn K mg "_law_rank" s_qrank ["_law_rows", "_law_prime"] f_qrank _ := ⟨F_qrank, PySem.W.mg_of X G a_qrank, F_qrank.binds fun _ _ _ _ _ _ us hl => match us, hl with | [_, _], _ => rfl⟩
  have F_qboundary := fun_mk (st := s_qboundary) l_qboundary c_qboundary k_qboundary
  have D_qboundary : Dfn K mg "_law_boundary" s_qboundary ["_law_members", "_law_size"] f_qboundary _ := ⟨F_qboundary, PySem.W.mg_of X G a_qboundary, F_qboundary.binds fun _ _ _ _ _ _ us hl => match us, hl with | [_, _], _ => rfl⟩
  have F_qholes := fun_mk (st := s_qholes) l_qholes c_qholes k_qholes
  have D_qholes : Dfn K mg "_law_holes" s_qholes ["_law_members", "_law_prime"] f_qholes _ := ⟨F_qholes, PySem.W.mg_of X G a_qholes, F_qholes.binds fun _ _ _ _ _ _ us hl => match us, hl with | [_, _], _ => rfl⟩
  have F_qmixed := fun_mk (st := s_qmixed) l_qmixed c_qmixed k_qmixed
  have D_qmixed : Dfn K mg "_law_mixed" s_qmixed ["_law_pot_here", "_law_size"] f_qmixed _ := ⟨F_qmixed, PySem.W.mg_of X G a_qmixed, F_qmixed.binds fun _ _ _ _ _ _ us hl => match us, hl with | [_, _], _ => rfl⟩
  have F_qrenamed := fun_mk (st := s_qrenamed) l_qrenamed c_qrenamed k_qrenamed
  have D_qrenamed : Dfn K mg "_law_renamed" s_qrenamed ["_law_names", "_law_sets_here"] f_qrenamed _ := ⟨F_qrenamed, PySem.W.mg_of X G a_qrenamed, F_qrenamed.binds fun _ _ _ _ _ _ us hl => match us, hl with | [_, _], _ => rfl⟩
  have F_qright := fun_mk (st := s_qright) l_qright c_qright k_qright
  have D_qright : Dfn K mg "_law_right" s_qright ["_law_pot_here"] f_qright _ := ⟨F_qright, PySem.W.mg_of X G a_qright, F_qright.binds fun _ _ _ _ _ _ us hl => match us, hl with | [_], _ => rfl⟩
  have F_law := fun_mk (st := s_law) l_law c_law k_law
  have D_law : Dfn K mg "law" s_law ["_law_script"] f_law _ := ⟨F_law, PySem.W.mg_of X G a_law, F_law.binds fun _ _ _ _ _ _ us hl => match us, hl with | [_], _ => rfl⟩
  refine law_end D_law (fun s v => .of_eq rfl) fun base _ _ => ?_
  have G_is_whole := ok_is_whole (P := l.prog) (w := w) (base := base) D_is_whole T
  have G_is_within := ok_is_within (P := l.prog) (w := w) (base := base) D_is_within T D_is_whole G_is_whole
  have G_is_prime_number := ok_is_prime_number (P := l.prog) (w := w) (base := base) D_is_prime_number T
  have G_is_field := ok_is_field (P := l.prog) (w := w) (base := base) D_is_field T D_is_prime_number G_is_prime_number D_is_within G_is_within
  have G_require_field := ok_require_field (P := l.prog) (w := w) (base := base) D_require_field T D_is_field G_is_field
  have G_inverse_in := ok_inverse_in (P := l.prog) (w := w) (base := base) D_inverse_in T
  have G_without_each := ok_without_each (P := l.prog) (w := w) (base := base) D_without_each T
  have G_closed_downward := ok_closed_downward (P := l.prog) (w := w) (base := base) D_closed_downward T D_without_each G_without_each
  have G_less_times := ok_less_times (P := l.prog) (w := w) (base := base) D_less_times T
  have G_boundary_rank := ok_boundary_rank (P := l.prog) (w := w) (base := base) D_boundary_rank T D_inverse_in G_inverse_in D_less_times G_less_times D_without_each G_without_each
  have G_holes_in := ok_holes_in (P := l.prog) (w := w) (base := base) D_holes_in T D_boundary_rank G_boundary_rank
  have G_is_set_on := ok_is_set_on (P := l.prog) (w := w) (base := base) D_is_set_on T D_is_within G_is_within
  have G_by_size := ok_by_size (P := l.prog) (w := w) (base := base) D_by_size T
  have G_greatest_of := ok_greatest_of (P := l.prog) (w := w) (base := base) D_greatest_of T D_without_each G_without_each
  have G_sets_told := ok_sets_told (P := l.prog) (w := w) (base := base) D_sets_told T D_closed_downward G_closed_downward D_is_set_on G_is_set_on
  have G_Family___init__ := ok_Family___init__ (P := l.prog) (w := w) (base := base) D_Family___init__ T D_greatest_of G_greatest_of D_by_size G_by_size D_sets_told G_sets_told D_is_within G_is_within
  have G_Family_euler := ok_Family_euler (P := l.prog) (w := w) (base := base) D_Family_euler T
  have G_Family_holes := ok_Family_holes (P := l.prog) (w := w) (base := base) D_Family_holes T D_holes_in G_holes_in D_require_field G_require_field
  have G_Family___iter__ := ok_Family___iter__ (P := l.prog) (w := w) (base := base) D_Family___iter__ T
  have G_qpot := ok_qpot (P := l.prog) (w := w) (base := base) D_qpot T
  have G_qdip := ok_qdip (P := l.prog) (w := w) (base := base) D_qdip T
  have G_qpick := ok_qpick (P := l.prog) (w := w) (base := base) D_qpick T D_qdip G_qdip
  have G_qsubsets := ok_qsubsets (P := l.prog) (w := w) (base := base) D_qsubsets T
  have G_qinside := ok_qinside (P := l.prog) (w := w) (base := base) D_qinside T
  have G_qsets := ok_qsets (P := l.prog) (w := w) (base := base) D_qsets T D_qdip G_qdip D_qpick G_qpick D_qsubsets G_qsubsets
  have G_qall := ok_qall (P := l.prog) (w := w) (base := base) D_qall T D_qinside G_qinside D_qsubsets G_qsubsets
  have G_qshort := ok_qshort (P := l.prog) (w := w) (base := base) D_qshort T
  have G_qrank := ok_qrank (P := l.prog) (w := w) (base := base) D_qrank T D_qshort G_qshort
  have G_qboundary := ok_qboundary (P := l.prog) (w := w) (base := base) D_qboundary T
  have G_qholes := ok_qholes (P := l.prog) (w := w) (base := base) D_qholes T D_qrank G_qrank D_qboundary G_qboundary
  have G_qmixed := ok_qmixed (P := l.prog) (w := w) (base := base) D_qmixed T D_qdip G_qdip
  have G_qrenamed := ok_qrenamed (P := l.prog) (w := w) (base := base) D_qrenamed T
  have G_qright := ok_qright (P := l.prog) (w := w) (base := base) D_qright T D_qrenamed G_qrenamed D_qmixed G_qmixed D_qholes G_qholes D_qpick G_qpick D_qall G_qall D_qsets G_qsets D_qdip G_qdip D_Family_holes G_Family_holes D_Family___init__ G_Family___init__ D_Family_euler G_Family_euler
  have G_law := ok_law (P := l.prog) (w := w) (base := base) D_law T D_qrenamed G_qrenamed D_qmixed G_qmixed D_qpot G_qpot D_qright G_qright D_Family_holes G_Family_holes D_Family___init__ G_Family___init__ D_Family_euler G_Family_euler
  exact G_law

end DL
open PySem PySem.W PyProof.Rows in
set_option maxRecDepth 100000 in
set_option maxHeartbeats 0 in
theorem PySem.Challenge.cw_pureladders_k40_whole_holes_by_ranks_holds : PySem.Challenge.rw_pureladders_k40_whole_holes_by_ranks.Holds := by
  w_on; o_law; k_head; (case hw => w_witness2)
  k_fill
  refine L2.walk_ofB (l := PySem.Challenge.rw_pureladders_k40_whole_holes_by_ranks) (n := 63) (k := 8) (x := "_law_script") (CX := fun _ => L2.CX0) (sp := fun w => DL.upSp _ DL.sp_law) rfl (by decide) rfl ⟨rfl, by decide, by decide⟩ (fun w h Y => PySem.W.kIn_of Y) ?F (fun w H a ns h1 h2 h3 h4 => DL.law_start h3 h4 ⟨_, rfl, rfl⟩) (fun _ _ _ _ _ z => z)
  case F =>
    intro w mg fa h KX G hmg
    refine' DL.all_mk KX G hmg ?cl_KeptSets ?pg_KeptSets ?ic_KeptSets ?po_KeptSets ?sa_KeptSets ?ca_KeptSets ?cn_KeptSets ?ct_KeptSets ?cm_KeptSets ?ty_KeptSets ?ms_KeptSets ?kp_KeptSets ?cl_Family ?pg_Family ?ic_Family ?po_Family ?sa_Family ?ca_Family ?cn_Family ?ct_Family ?cm_Family ?ty_Family ?ms_Family ?kp_Family ?s1_Family_own_corners ?s2_Family_own_corners ?s3_Family_own_corners ?s4_Family_own_corners ?s5_Family_own_corners ?s1_Family_own_known ?s2_Family_own_known ?s3_Family_own_known ?s4_Family_own_known ?s5_Family_own_known ?s1_Family_own_members ?s2_Family_own_members ?s3_Family_own_members ?s4_Family_own_members ?s5_Family_own_members ?s1_Family_own_sets ?s2_Family_own_sets ?s3_Family_own_sets ?s4_Family_own_sets ?s5_Family_own_sets ?s1_KeptSets_own_sets ?s2_KeptSets_own_sets ?s3_KeptSets_own_sets ?s4_KeptSets_own_sets ?s5_KeptSets_own_sets ?a_is_whole ?l_is_whole ?c_is_whole ?k_is_whole ?a_is_within ?l_is_within ?c_is_within ?k_is_within ?a_is_prime_number ?l_is_prime_number ?c_is_prime_number ?k_is_prime_number ?a_is_field ?l_is_field ?c_is_field ?k_is_field ?a_require_field ?l_require_field ?c_require_field ?k_require_field ?a_inverse_in ?l_inverse_in ?c_inverse_in ?k_inverse_in ?a_without_each ?l_without_each ?c_without_each ?k_without_each ?a_closed_downward ?l_closed_downward ?c_closed_downward ?k_closed_downward ?a_less_times ?l_less_times ?c_less_times ?k_less_times ?a_boundary_rank ?l_boundary_rank ?c_boundary_rank ?k_boundary_rank ?a_holes_in ?l_holes_in ?c_holes_in ?k_holes_in ?a_is_set_on ?l_is_set_on ?c_is_set_on ?k_is_set_on ?a_by_size ?l_by_size ?c_by_size ?k_by_size ?a_greatest_of ?l_greatest_of ?c_greatest_of ?k_greatest_of ?a_sets_told ?l_sets_told ?c_sets_told ?k_sets_told ?a_Family___init__ ?i_Family___init__ ?l_Family___init__ ?c_Family___init__ ?k_Family___init__ ?a_Family_euler ?b_Family_euler ?d_Family_euler ?e_Family_euler ?l_Family_euler ?c_Family_euler ?k_Family_euler ?a_Family_holes ?i_Family_holes ?l_Family_holes ?f_df_Family_holes ?c_Family_holes ?k_Family_holes ?a_Family___iter__ ?i_Family___iter__ ?l_Family___iter__ ?c_Family___iter__ ?k_Family___iter__ ?a_qpot ?l_qpot ?c_qpot ?k_qpot ?a_qdip ?l_qdip ?c_qdip ?k_qdip ?a_qpick ?l_qpick ?c_qpick ?k_qpick ?a_qsubsets ?l_qsubsets ?c_qsubsets ?k_qsubsets ?a_qinside ?l_qinside ?c_qinside ?k_qinside ?a_qsets ?l_qsets ?c_qsets ?k_qsets ?a_qall ?l_qall ?c_qall ?k_qall ?a_qshort ?l_qshort ?c_qshort ?k_qshort ?a_qrank ?l_qrank ?c_qrank ?k_qrank ?a_qboundary ?l_qboundary ?c_qboundary ?k_qboundary ?a_qholes ?l_qholes ?c_qholes ?k_qholes ?a_qmixed ?l_qmixed ?c_qmixed ?k_qmixed ?a_qrenamed ?l_qrenamed ?c_qrenamed ?k_qrenamed ?a_qright ?l_qright ?c_qright ?k_qright ?a_law ?l_law ?c_law ?k_law ?z_abs ?z_all ?z_bool ?z_dict ?z_enumerate ?z_int ?z_isinstance ?z_iter ?z_len ?z_list ?z_max ?z_min ?z_range ?z_sorted ?z_sum ?z_tuple ?z_zip ?y_FAR_PRIME ?y_MAX_CORNERS ?y_MAX_FIELD ?y_MAX_PASSED
    (case cl_KeptSets => k_is)
    (case pg_KeptSets => k_is)
    (case ic_KeptSets => k_is)
    (case po_KeptSets => k_is)
    (case sa_KeptSets => k_is)
    (case ca_KeptSets => k_is)
    (case cn_KeptSets => k_is)
    (case ct_KeptSets => k_is)
    (case cm_KeptSets => k_is)
    (case ty_KeptSets => k_is)
    (case ms_KeptSets => k_is)
    (case kp_KeptSets => k_is)
    (case cl_Family => k_is)
    (case pg_Family => k_is)
    (case ic_Family => k_is)
    (case po_Family => k_is)
    (case sa_Family => k_is)
    (case ca_Family => k_is)
    (case cn_Family => k_is)
    (case ct_Family => k_is)
    (case cm_Family => k_is)
    (case ty_Family => k_is)
    (case ms_Family => k_is)
    (case kp_Family => k_is)
    (case s1_Family_own_corners => k_is)
    (case s2_Family_own_corners => k_is)
    (case s3_Family_own_corners => k_is)
    (case s4_Family_own_corners => k_is)
    (case s5_Family_own_corners => k_is)
    (case s1_Family_own_known => k_is)
    (case s2_Family_own_known => k_is)
    (case s3_Family_own_known => k_is)
    (case s4_Family_own_known => k_is)
    (case s5_Family_own_known => k_is)
    (case s1_Family_own_members => k_is)
    (case s2_Family_own_members => k_is)
    (case s3_Family_own_members => k_is)
    (case s4_Family_own_members => k_is)
    (case s5_Family_own_members => k_is)
    (case s1_Family_own_sets => k_is)
    (case s2_Family_own_sets => k_is)
    (case s3_Family_own_sets => k_is)
    (case s4_Family_own_sets => k_is)
    (case s5_Family_own_sets => k_is)
    (case s1_KeptSets_own_sets => k_is)
    (case s2_KeptSets_own_sets => k_is)
    (case s3_KeptSets_own_sets => k_is)
    (case s4_KeptSets_own_sets => k_is)
    (case s5_KeptSets_own_sets => k_is)
    (case a_is_whole => k_is)
    (case l_is_whole => k_is)
    (case c_is_whole => k_is)
    (case k_is_whole => k_is)
    (case a_is_within => k_is)
    (case l_is_within => k_is)
    (case c_is_within => k_is)
    (case k_is_within => k_is)
    (case a_is_prime_number => k_is)
    (case l_is_prime_number => k_is)
    (case c_is_prime_number => k_is)
    (case k_is_prime_number => k_is)
    (case a_is_field => k_is)
    (case l_is_field => k_is)
    (case c_is_field => k_is)
    (case k_is_field => k_is)
    (case a_require_field => k_is)
    (case l_require_field => k_is)
    (case c_require_field => k_is)
    (case k_require_field => k_is)
    (case a_inverse_in => k_is)
    (case l_inverse_in => k_is)
    (case c_inverse_in => k_is)
    (case k_inverse_in => k_is)
    (case a_without_each => k_is)
    (case l_without_each => k_is)
    (case c_without_each => k_is)
    (case k_without_each => k_is)
    (case a_closed_downward => k_is)
    (case l_closed_downward => k_is)
    (case c_closed_downward => k_is)
    (case k_closed_downward => k_is)
    (case a_less_times => k_is)
    (case l_less_times => k_is)
    (case c_less_times => k_is)
    (case k_less_times => k_is)
    (case a_boundary_rank => k_is)
    (case l_boundary_rank => k_is)
    (case c_boundary_rank => k_is)
    (case k_boundary_rank => k_is)
    (case a_holes_in => k_is)
    (case l_holes_in => k_is)
    (case c_holes_in => k_is)
    (case k_holes_in => k_is)
    (case a_is_set_on => k_is)
    (case l_is_set_on => k_is)
    (case c_is_set_on => k_is)
    (case k_is_set_on => k_is)
    (case a_by_size => k_is)
    (case l_by_size => k_is)
    (case c_by_size => k_is)
    (case k_by_size => k_is)
    (case a_greatest_of => k_is)
    (case l_greatest_of => k_is)
    (case c_greatest_of => k_is)
    (case k_greatest_of => k_is)
    (case a_sets_told => k_is)
    (case l_sets_told => k_is)
    (case c_sets_told => k_is)
    (case k_sets_told => k_is)
    (case a_Family___init__ => k_is)
    (case i_Family___init__ => k_is)
    (case l_Family___init__ => k_is)
    (case c_Family___init__ => k_is)
    (case k_Family___init__ => k_is)
    (case a_Family_euler => k_is)
    (case b_Family_euler => k_is)
    (case d_Family_euler => k_is)
    (case e_Family_euler => k_is)
    (case l_Family_euler => k_is)
    (case c_Family_euler => k_is)
    (case k_Family_euler => k_is)
    (case a_Family_holes => k_is)
    (case i_Family_holes => k_is)
    (case l_Family_holes => k_is)
    (case f_df_Family_holes => first | k_is | decide +kernel | rfl)
    (case c_Family_holes => k_is)
    (case k_Family_holes => k_is)
    (case a_Family___iter__ => k_is)
    (case i_Family___iter__ => k_is)
    (case l_Family___iter__ => k_is)
    (case c_Family___iter__ => k_is)
    (case k_Family___iter__ => k_is)
    (case a_qpot => k_is)
    (case l_qpot => k_is)
    (case c_qpot => k_is)
    (case k_qpot => k_is)
    (case a_qdip => k_is)
    (case l_qdip => k_is)
    (case c_qdip => k_is)
    (case k_qdip => k_is)
    (case a_qpick => k_is)
    (case l_qpick => k_is)
    (case c_qpick => k_is)
    (case k_qpick => k_is)
    (case a_qsubsets => k_is)
    (case l_qsubsets => k_is)
    (case c_qsubsets => k_is)
    (case k_qsubsets => k_is)
    (case a_qinside => k_is)
    (case l_qinside => k_is)
    (case c_qinside => k_is)
    (case k_qinside => k_is)
    (case a_qsets => k_is)
    (case l_qsets => k_is)
    (case c_qsets => k_is)
    (case k_qsets => k_is)
    (case a_qall => k_is)
    (case l_qall => k_is)
    (case c_qall => k_is)
    (case k_qall => k_is)
    (case a_qshort => k_is)
    (case l_qshort => k_is)
    (case c_qshort => k_is)
    (case k_qshort => k_is)
    (case a_qrank => k_is)
    (case l_qrank => k_is)
    (case c_qrank => k_is)
    (case k_qrank => k_is)
    (case a_qboundary => k_is)
    (case l_qboundary => k_is)
    (case c_qboundary => k_is)
    (case k_qboundary => k_is)
    (case a_qholes => k_is)
    (case l_qholes => k_is)
    (case c_qholes => k_is)
    (case k_qholes => k_is)
    (case a_qmixed => k_is)
    (case l_qmixed => k_is)
    (case c_qmixed => k_is)
    (case k_qmixed => k_is)
    (case a_qrenamed => k_is)
    (case l_qrenamed => k_is)
    (case c_qrenamed => k_is)
    (case k_qrenamed => k_is)
    (case a_qright => k_is)
    (case l_qright => k_is)
    (case c_qright => k_is)
    (case k_qright => k_is)
    (case a_law => k_is)
    (case l_law => k_is)
    (case c_law => k_is)
    (case k_law => k_is)
    (case z_abs => k_is)
    (case z_all => k_is)
    (case z_bool => k_is)
    (case z_dict => k_is)
    (case z_enumerate => k_is)
    (case z_int => k_is)
    (case z_isinstance => k_is)
    (case z_iter => k_is)
    (case z_len => k_is)
    (case z_list => k_is)
    (case z_max => k_is)
    (case z_min => k_is)
    (case z_range => k_is)
    (case z_sorted => k_is)
    (case z_sum => k_is)
    (case z_tuple => k_is)
    (case z_zip => k_is)
    (case y_FAR_PRIME => k_is)
    (case y_MAX_CORNERS => k_is)
    (case y_MAX_FIELD => k_is)
    (case y_MAX_PASSED => k_is)
#print axioms PySem.Challenge.cw_pureladders_k40_whole_holes_by_ranks_holds
