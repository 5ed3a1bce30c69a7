import PyProof.Rows.All
import Wide.All
import OpenK.AllK
import Wide.FinOn
import HandS.ForMost
import HandS.Walk
import HandS.Zip
import HandS.IsInst
import HandS.SlotsOwn
import HandS.Lambda
import HandS.TupAny
import HandS.Style
import HandS.Flow
import HandS.EndBits
import HandS.SortInts
import HandS.Deep
import HandS.Wide
import KE.SortData
import HandS.Star
import HandS.Strs
import HandS.More
import HandS.Conv
import HandS.SetFor
import HandS.Gcd
import KE.KMathGC
import KE.KCallOwn
import KE.KFmtOwn
import PyProof.DictCompW
import HandS.DictComp
import KE.SortKeyHeap
import KE.KTupSum
import KE.KDictSum
import HandS.SortKw
import HandS.TupSets
import HandS.IterVal
import KE.GoesMore
import HandS.FStr
import HandS.Small
import HandS.TupMul
import HandS.Text
import PyProof.ListNew
import KE.KTupTruth
import PyProof.ListTruth
import PyProof.WalksMore
import PyProof.CollectWalk
import HandS.TupLen
import KE.KEqNest
import KE.KEqDict
import KE.KDictCopyH
import KE.KDictPairs
import KE.KDictKeyed
import KE.KDictOf
import KE.KOpsOwn
import KE.DatumOrd
import HandS.Defaults
import HandS.HeadHook2
import KE.KDictDisplayH
import KE.KDictWalk
import KE.GoesZip
import KE.KTurns
import KE.KDictZip
import PyProof.Rows.ZipGen
import KE.KDictItemsList
import PyProof.StrLaws
import HandS.Exc
import HandS.TryMany
import HandS.ExcOwn
import HandS.WordsExc
import HandS.ExcField
import HandS.EndTab
import KE.KExcSuper
import HandS.ExcInit
import PyProof.DictMoreH
import HandS.DictTup
import KE.DataMinMax
import HandS.Sort
import HandS.DictEq
import HandS.ExcValue
import PyProof.ReprRoads
import HandS.GenList
import PyProof.GenArm
import KE.KDictIter
import HandS.EndOwn
import KE.KExcLine
import KE.RegKSuper
import PySem.Challenge.RW_pureladders_k14_whole_free_sets
set_option Elab.async false
set_option linter.all false
set_option maxRecDepth 100000
set_option maxHeartbeats 8100000
/-! Deep layer A: values by content (tuples, lists that no one changes), the heap of what is changed, judgements "up". -/
namespace DL
open PySem PySem.Spec PyProof.Rows L2

abbrev Fg := PySem.W.Frag
inductive DV where
  | non | bl (b : Bool) | int (i : Int) | str (x : Str) | ref (a : Addr) | ty (n : String)
  | tup (ds : List DV) | lst (ds : List DV) | scr (ns : List Int) | dK (ks : List Key) (ds : List DV) | dT (ks : List (List Key)) (ds : List DV) | ins (C : Addr) (ds : List DV) | exc (a d : Addr) (f : Str) (u : DV) | lam (f c : Addr) (q : Str) (ds : List DV) (vs : List V) | tpl (ds : List DV)
deriving Inhabited
/-- a changing thing: a list, a dict -/
inductive DO where
  | lst (ds : List DV)
  | dK (ks : List Key) (ds : List DV) | dT (ks : List (List Key)) (ds : List DV) | ins (C : Addr) (ds : List (Option DV)) | tbl (q : Str)
abbrev DG := Addr → Option DO
abbrev DS := List (Option DV)
def gup (g : DG) (p : Addr) (o : DO) : DG := fun b => if b = p then some o else g b
def gdel (g : DG) (p : Addr) : DG := fun b => if b = p then none else g b
theorem gup_same {g : DG} {p : Addr} {o : DO} : gup g p o p = some o := by unfold gup; rw [if_pos rfl]
theorem gup_ne {g : DG} {p b : Addr} {o : DO} (h : b ≠ p) : gup g p o b = g b := by unfold gup; rw [if_neg h]
theorem gup_gup {g : DG} {p : Addr} {o o' : DO} : gup (gup g p o) p o' = gup g p o' := by
  funext b; unfold gup; split <;> rfl

def FzL (_ : Fg) (H : Hp) (a : Addr) (xs : List V) : Prop := ∃ o, H a = some (.frz o (.lst xs))
theorem FzL.sq {K : Fg} {H : Hp} {a : Addr} {xs : List V} (h : FzL K H a xs) : SqL K H a xs := by
  obtain ⟨o, h⟩ := h
  exact .inl (.inr ⟨o, h⟩)

/-- a list of ints that no one changes, be it locked or a part of the fixed heap -/
def ScL (K : Fg) (H : Hp) (a : Addr) (ns : List Int) : Prop := FzL K H a (ns.map V.int) ∨
  ∃ (o : Obj) (its : Array Value) (n : Nat), K.lookup a = some o ∧ o.cls = .type "list" ∧ o.dict = none ∧ o.data = .seq its n ∧ its.size ≤ sizeLine ∧ Vals (ns.map V.int) its.toList
theorem ScL.sq {K : Fg} {H : Hp} {a : Addr} {ns : List Int} (h : ScL K H a ns) : SqL K H a (ns.map V.int) := by
  rcases h with h | h
  · exact h.sq
  · exact .inr h

/-- a dict that no one changes: its keys, its values -/
def FzK (_ : Fg) (H : Hp) (a : Addr) (ks : List Key) (vs : List V) : Prop := ∃ o kvs, H a = some (.frz o (.dK kvs)) ∧ kvs.map (·.1) = ks ∧ kvs.map (·.2) = vs
def FzT (_ : Fg) (H : Hp) (a : Addr) (ks : List (List Key)) (vs : List V) : Prop := ∃ o kvs, H a = some (.frz o (.dT kvs)) ∧ kvs.map (·.1) = ks ∧ kvs.map (·.2) = vs
/-- a tuple whose whole object is known: it has no dict of its own -/
def TpH (_ : Fg) (H : Hp) (a : Addr) (xs : List V) : Prop := ∃ o, H a = some (.frz o (.tup xs)) ∧ o.dict = none
theorem TpH.sq {K : Fg} {H : Hp} {a : Addr} {xs : List V} (h : TpH K H a xs) : SqT K H a xs := by
  obtain ⟨o, h, _⟩ := h
  exact .inl (.inr ⟨o, h⟩)
/-- an instance with slots that no one changes any more -/
def FzI (_ : Fg) (H : Hp) (a C : Addr) (vs : List (Option V)) : Prop := ∃ od dx, H a = some (.frz od (SlX.SlO a C dx vs)) ∧ H dx = some (.xd [])
mutual
inductive RD (K : Fg) (H : Hp) : DV → V → Prop
  | non : RD K H .non .non
  | bl (b : Bool) : RD K H (.bl b) (.bl b)
  | int (i : Int) : RD K H (.int i) (.int i)
  | str (x : Str) : RD K H (.str x) (.str x)
  | ref (a : Addr) : RD K H (.ref a) (.ref a)
  | ty (n : String) : RD K H (.ty n) (.ty n)
  | tup {a : Addr} {xs : List V} {ds : List DV} : H a = some (.tup xs) → RDs K H ds xs → RD K H (.tup ds) (.ref a)
  | lst {a : Addr} {xs : List V} {ds : List DV} : FzL K H a xs → RDs K H ds xs → RD K H (.lst ds) (.ref a)
  | scr {a : Addr} {ns : List Int} : ScL K H a ns → RD K H (.scr ns) (.ref a)
  | dK {a : Addr} {ks : List Key} {vs : List V} {ds : List DV} : FzK K H a ks vs → RDs K H ds vs → RD K H (.dK ks ds) (.ref a)
  | dT {a : Addr} {ks : List (List Key)} {vs : List V} {ds : List DV} : FzT K H a ks vs → RDs K H ds vs → RD K H (.dT ks ds) (.ref a)
  | ins {a C : Addr} {vs : List V} {ds : List DV} : FzI K H a C (vs.map some) → RDs K H ds vs → RD K H (.ins C ds) (.ref a)
  | exc {a d : Addr} {f : Str} {u : DV} {v : V} : H d = some (.xd [(f, v)]) → RD K H u v → RD K H (.exc a d f u) (.ref a)
  | lam {f c : Addr} {q : Str} {ds : List DV} {vs : List V} : H c = some (LamX.CodeO c q) → RDs K H ds vs → RD K H (.lam f c q ds vs) (.ref f)
  | tpl {a : Addr} {xs : List V} {ds : List DV} : TpH K H a xs → RDs K H ds xs → RD K H (.tpl ds) (.ref a)
inductive RDs (K : Fg) (H : Hp) : List DV → List V → Prop
  | nil : RDs K H [] []
  | cons {d : DV} {v : V} {ds : List DV} {vs : List V} : RD K H d v → RDs K H ds vs → RDs K H (d :: ds) (v :: vs)
end
/-- tuples and locked things stay -/
structure Kp (H H' : Hp) : Prop where
  t : ∀ b xs, H b = some (.tup xs) → H' b = some (.tup xs)
  f : ∀ b o u, H b = some (.frz o u) → H' b = some (.frz o u)
  x : ∀ b fs, H b = some (.xd fs) → H' b = some (.xd fs)
  e : ∀ b q, H b = some (LamX.CodeO b q) → H' b = some (LamX.CodeO b q)
theorem Kp.sqT {K : Fg} {H H' : Hp} {a : Addr} {xs : List V} (k : Kp H H') (h : SqT K H a xs) : SqT K H' a xs := by
  rcases h with (h | ⟨o, h⟩) | h
  · exact .inl (.inl (k.t _ _ h))
  · exact .inl (.inr ⟨o, k.f _ _ _ h⟩)
  · exact .inr h
theorem Kp.fz {K : Fg} {H H' : Hp} {a : Addr} {xs : List V} (k : Kp H H') (h : FzL K H a xs) : FzL K H' a xs := by
  obtain ⟨o, h⟩ := h
  exact ⟨o, k.f _ _ _ h⟩
theorem Kp.sc {K : Fg} {H H' : Hp} {a : Addr} {ns : List Int} (k : Kp H H') (h : ScL K H a ns) : ScL K H' a ns := by
  rcases h with h | h
  · exact .inl (k.fz h)
  · exact .inr h
theorem Kp.fzK {K : Fg} {H H' : Hp} {a : Addr} {ks : List Key} {vs : List V} (k : Kp H H') (h : FzK K H a ks vs) : FzK K H' a ks vs := by
  obtain ⟨o, kvs, h, e⟩ := h
  exact ⟨o, kvs, k.f _ _ _ h, e⟩
theorem Kp.fzT {K : Fg} {H H' : Hp} {a : Addr} {ks : List (List Key)} {vs : List V} (k : Kp H H') (h : FzT K H a ks vs) : FzT K H' a ks vs := by
  obtain ⟨o, kvs, h, e⟩ := h
  exact ⟨o, kvs, k.f _ _ _ h, e⟩
theorem Kp.fzI {K : Fg} {H H' : Hp} {a C : Addr} {vs : List (Option V)} (k : Kp H H') (h : FzI K H a C vs) : FzI K H' a C vs := by
  obtain ⟨od, dx, h, e⟩ := h
  exact ⟨od, dx, k.f _ _ _ h, k.x _ _ e⟩
theorem Kp.tp {K : Fg} {H H' : Hp} {a : Addr} {xs : List V} (k : Kp H H') (h : TpH K H a xs) : TpH K H' a xs := by
  obtain ⟨o, h, e⟩ := h
  exact ⟨o, k.f _ _ _ h, e⟩
mutual
theorem RD.mono {K : Fg} {H H' : Hp} (k : Kp H H') : ∀ {d : DV} {v : V}, RD K H d v → RD K H' d v
  | _, _, .non => .non
  | _, _, .bl b => .bl b
  | _, _, .int i => .int i
  | _, _, .str x => .str x
  | _, _, .ref a => .ref a
  | _, _, .ty n => .ty n
  | _, _, .tup h r => .tup (k.t _ _ h) (RDs.mono k r)
  | _, _, .lst h r => .lst (k.fz h) (RDs.mono k r)
  | _, _, .scr h => .scr (k.sc h)
  | _, _, .dK h r => .dK (k.fzK h) (RDs.mono k r)
  | _, _, .dT h r => .dT (k.fzT h) (RDs.mono k r)
  | _, _, .ins h r => .ins (k.fzI h) (RDs.mono k r)
  | _, _, .exc h r => .exc (k.x _ _ h) (RD.mono k r)
  | _, _, .lam h r => .lam (k.e _ _ h) (RDs.mono k r)
  | _, _, .tpl h r => .tpl (k.tp h) (RDs.mono k r)
theorem RDs.mono {K : Fg} {H H' : Hp} (k : Kp H H') : ∀ {ds : List DV} {vs : List V}, RDs K H ds vs → RDs K H' ds vs
  | _, _, .nil => .nil
  | _, _, .cons r t => .cons (RD.mono k r) (RDs.mono k t)
end
section
variable {K : Fg} {H H' : Hp}
theorem RDs.length : ∀ {ds : List DV} {vs : List V}, RDs K H ds vs → ds.length = vs.length
  | _, _, .nil => rfl
  | _, _, .cons _ t => by rw [List.length_cons, List.length_cons, RDs.length t]
theorem RDs.get : ∀ {ds : List DV} {vs : List V} {i : Nat} {d : DV}, RDs K H ds vs → ds[i]? = some d → ∃ v, vs[i]? = some v ∧ RD K H d v
  | _, _, _, _, .nil, e => by simp at e
  | _, _, 0, _, .cons r _, e => by simp at e; subst e; exact ⟨_, rfl, r⟩
  | _, _, i + 1, d, .cons _ t, e => by
    obtain ⟨u, h1, h2⟩ := RDs.get (i := i) (d := d) t (by simpa using e)
    exact ⟨u, by simpa using h1, h2⟩
theorem RDs.append : ∀ {ds es : List DV} {vs us : List V}, RDs K H ds vs → RDs K H es us → RDs K H (ds ++ es) (vs ++ us)
  | _, _, _, _, .nil, s => s
  | _, _, _, _, .cons r t, s => .cons r (RDs.append t s)
theorem RDs.one {d : DV} {v : V} (r : RD K H d v) : RDs K H [d] [v] := .cons r .nil
theorem RDs.take : ∀ {ds : List DV} {vs : List V} (n : Nat), RDs K H ds vs → RDs K H (ds.take n) (vs.take n)
  | _, _, 0, _ => .nil
  | _, _, _ + 1, .nil => .nil
  | _, _, n + 1, .cons r t => .cons r (RDs.take n t)
theorem RDs.drop : ∀ {ds : List DV} {vs : List V} (n : Nat), RDs K H ds vs → RDs K H (ds.drop n) (vs.drop n)
  | _, _, 0, r => r
  | _, _, _ + 1, .nil => .nil
  | _, _, n + 1, .cons _ t => RDs.drop n t
theorem RDs.set {d : DV} {v : V} (r : RD K H d v) : ∀ {ds : List DV} {vs : List V} (i : Nat), RDs K H ds vs → RDs K H (ds.set i d) (vs.set i v)
  | _, _, _, .nil => .nil
  | _, _, 0, .cons _ t => .cons r t
  | _, _, i + 1, .cons q t => .cons q (RDs.set r i t)
theorem RDs.reverse : ∀ {ds : List DV} {vs : List V}, RDs K H ds vs → RDs K H ds.reverse vs.reverse
  | _, _, .nil => .nil
  | _, _, .cons r t => by rw [List.reverse_cons, List.reverse_cons]; exact (RDs.reverse t).append (.one r)
theorem RDs.dropLast {ds : List DV} {vs : List V} (h : RDs K H ds vs) : RDs K H ds.dropLast vs.dropLast := by
  rw [List.dropLast_eq_take, List.dropLast_eq_take, h.length]; exact h.take _
theorem RDs.ints : ∀ {ns : List Int} {vs : List V}, RDs K H (ns.map DV.int) vs → vs = ns.map V.int
  | [], _, h => by cases h; rfl
  | n :: r, _, h => by
    cases h with
    | cons h1 h2 => cases h1; rw [RDs.ints h2]; rfl
theorem RDs.ofInts : ∀ ns : List Int, RDs K H (ns.map DV.int) (ns.map V.int)
  | [] => .nil
  | n :: r => .cons (.int n) (RDs.ofInts r)
theorem RDs.bls : ∀ {ns : List Bool} {vs : List V}, RDs K H (ns.map DV.bl) vs → vs = ns.map V.bl
  | [], _, h => by cases h; rfl
  | n :: r, _, h => by
    cases h with
    | cons h1 h2 => cases h1; rw [RDs.bls h2]; rfl
theorem RDs.inj1 {d : DV} {vs : List V} (h : RDs K H [d] vs) : ∃ v, vs = [v] ∧ RD K H d v := by
  cases h with
  | cons h1 h2 => cases h2; exact ⟨_, rfl, h1⟩
end

/-- the slots that are set -/
def SlD (K : Fg) (H : Hp) (ds : List (Option DV)) (vs : List (Option V)) : Prop := ds.length = vs.length ∧ ∀ (i : Nat) (d : DV), ds[i]? = some (some d) → ∃ v, vs[i]? = some (some v) ∧ RD K H d v
theorem SlD.mono {K : Fg} {H H' : Hp} {ds : List (Option DV)} {vs : List (Option V)} (k : Kp H H') (h : SlD K H ds vs) : SlD K H' ds vs := ⟨h.1, fun i d e => by
  obtain ⟨v, h1, h2⟩ := h.2 i d e
  exact ⟨v, h1, h2.mono k⟩⟩
def RO (K : Fg) (H : Hp) (a : Addr) : DO → Prop
  | .lst ds => ∃ vs, H a = some (.lst vs) ∧ RDs K H ds vs
  | .dK ks ds => ∃ kvs, H a = some (.dK kvs) ∧ kvs.map (·.1) = ks ∧ RDs K H ds (kvs.map (·.2))
  | .dT ks ds => ∃ kvs, H a = some (.dT kvs) ∧ kvs.map (·.1) = ks ∧ RDs K H ds (kvs.map (·.2))
  | .ins C ds => ∃ dx vs, dx ≠ a ∧ SlX.Slt H a C dx vs ∧ SlD K H ds vs
  | .tbl q => LamX.TabS H a q
/-- what g may tell of -/
def Trk (p : Addr) : Option HO → Prop
  | some (.lst _) => True
  | some (.dK _) => True
  | some (.dT _) => True
  | some (.set _ _) => True
  | some (.ins _ _ _) => True
  | some (.tbl _) => True
  | some (.ext f) => ∀ q, HO.ext f ≠ LamX.CodeO p q
  | _ => False
/-- what tells the class of the object at a is no code object -/
theorem code_ne {a : Addr} {q : Str} {φ : Heap → Prop} (hc : ∀ hp o, φ hp → hp.get? a = some o → o.cls ≠ .none) : HO.ext φ ≠ LamX.CodeO a q := fun z => by
  unfold LamX.CodeO at z
  injection z with z
  let ob : Obj := { cls := .none, data := .fields #[.none, .str q 0] }
  have hg : (⟨(List.replicate (a + 1) ob).toArray, {}⟩ : Heap).get? a = some ob := by
    unfold Heap.get?
    have e : ((List.replicate (a + 1) ob).toArray)[a]? = some ob := by simp
    rw [show (⟨(List.replicate (a + 1) ob).toArray, {}⟩ : Heap).objs = (List.replicate (a + 1) ob).toArray from rfl, e]
  have h2 := congrFun z ⟨(List.replicate (a + 1) ob).toArray, {}⟩
  have h3 : ∃ (oc : Obj) (vs : Array Value) (t : Tok), (⟨(List.replicate (a + 1) ob).toArray, {}⟩ : Heap).get? a = some oc ∧ oc.data = .fields vs ∧ vs[1]? = some (.str q t) := ⟨ob, _, 0, hg, rfl, rfl⟩
  rw [← h2] at h3
  exact hc _ _ h3 hg rfl
theorem slO_trk {a C dx : Addr} {vs : List (Option V)} : Trk a (some (SlX.SlO a C dx vs)) := fun q => code_ne fun hp o ⟨sl, e, _⟩ e2 z => by
  rw [e] at e2
  have e3 := congrArg Obj.cls (Option.some.inj e2)
  rw [z] at e3
  have e4 : Value.ref C = Value.none := e3
  cases e4
/-- the dict of an instance that has no slot yet -/
def OwnO : HO → Prop
  | .own _ => True
  | .tbl _ => True
  | _ => False
def RG (K : Fg) (H : Hp) (g : DG) : Prop := ∀ a o, g a = some o → RO K H a o
/-- behind a step: what was tracked and is no one's of g stands as it was, and is no one's of g' -/
def Ext (g : DG) (H : Hp) (g' : DG) (H' : Hp) : Prop := ∀ a o, H a = some o → g a = none → ¬ OwnO o → H' a = some o ∧ g' a = none
section
variable {K : Fg} {g g' g1 g2 : DG} {H H' H1 H2 : Hp} {p : Addr}
theorem RO.some {a : Addr} {o : DO} (r : RO K H a o) : ∃ u, H a = some u ∧ Trk a (Option.some u) := by
  cases o with
  | lst ds => obtain ⟨vs, e, _⟩ := r; exact ⟨_, e, trivial⟩
  | dK ks ds => obtain ⟨vs, e, _⟩ := r; exact ⟨_, e, trivial⟩
  | dT ks ds => obtain ⟨vs, e, _⟩ := r; exact ⟨_, e, trivial⟩
  | ins C ds =>
    obtain ⟨dx, vs, _, h | h, _⟩ := r
    · exact ⟨_, h.1, trivial⟩
    · exact ⟨_, h.1, slO_trk⟩
  | tbl q => obtain ⟨ps, e, _⟩ := r; exact ⟨_, e, trivial⟩
theorem RG.none (r : RG K H g) (h : H p = Option.none) : g p = Option.none := by
  cases e : g p with
  | none => rfl
  | some o => obtain ⟨vs, q, _⟩ := (r p o e).some; rw [h] at q; cases q
theorem Ext.refl : Ext g H g H := fun _ _ h n _ => ⟨h, n⟩
theorem Ext.trans (a : Ext g H g1 H1) (b : Ext g1 H1 g2 H2) : Ext g H g2 H2 := fun c o h n w => by
  obtain ⟨h1, n1⟩ := a c o h n w
  exact b c o h1 n1 w
theorem Ext.kp (e : Ext g H g' H') (r : RG K H g) : Kp H H' := by
  have nt : ∀ b o, H b = some o → ¬ Trk b (Option.some o) → g b = Option.none := fun b o q n => by
    cases z : g b with
    | none => rfl
    | some u => obtain ⟨vs, q', m⟩ := (r b u z).some; rw [q] at q'; cases q'; exact absurd m n
  exact ⟨fun b xs q => (e b _ q (nt b _ q fun z => z) fun z => z).1, fun b o u q => (e b _ q (nt b _ q fun z => z) fun z => z).1, fun b fs q => (e b _ q (nt b _ q fun z => z) fun z => z).1, fun b n q => (e b _ q (nt b _ q fun z => z n rfl) fun z => z).1⟩
theorem Kp.fresh {o : HO} (h : H p = Option.none) : Kp H (upd H p o) :=
  ⟨fun b xs q => by rw [upd_ne (ne_of_none q h)]; exact q, fun b x u q => by rw [upd_ne (ne_of_none q h)]; exact q, fun b fs q => by rw [upd_ne (ne_of_none q h)]; exact q, fun b n q => by rw [upd_ne (ne_of_none q h)]; exact q⟩
theorem Kp.refl : Kp H H := ⟨fun _ _ h => h, fun _ _ _ h => h, fun _ _ h => h, fun _ _ h => h⟩
theorem Kp.trans (a : Kp H H1) (b : Kp H1 H2) : Kp H H2 := ⟨fun c xs h => b.t _ _ (a.t c xs h), fun c o u h => b.f _ _ _ (a.f c o u h), fun c fs h => b.x _ _ (a.x c fs h), fun c n h => b.e _ _ (a.e c n h)⟩
theorem RO.keep {a : Addr} {o : DO} (k : Kp H H') (e : H' a = H a) (r : RO K H a o) : RO K H' a o := by
  cases o with
  | lst ds => obtain ⟨vs, q, r⟩ := r; exact ⟨vs, e.trans q, r.mono k⟩
  | dK ks ds => obtain ⟨vs, q, x, r⟩ := r; exact ⟨vs, e.trans q, x, r.mono k⟩
  | dT ks ds => obtain ⟨vs, q, x, r⟩ := r; exact ⟨vs, e.trans q, x, r.mono k⟩
  | ins C ds =>
    obtain ⟨dx, vs, ne, h | h, r⟩ := r
    · exact ⟨dx, vs, ne, .inl ⟨e.trans h.1, h.2⟩, r.mono k⟩
    · exact ⟨dx, vs, ne, .inr ⟨e.trans h.1, k.x _ _ h.2⟩, r.mono k⟩
  | tbl q =>
    obtain ⟨ps, e1, e2, e3⟩ := r
    refine ⟨ps, e.trans e1, e2, fun pos cv hc => ?_⟩
    obtain ⟨c, z1, z2⟩ := e3 pos cv hc
    exact ⟨c, z1, k.e _ _ z2⟩
theorem RG.fresh {o : HO} (r : RG K H g) (h : H p = Option.none) : RG K (upd H p o) g := fun a u e => by
  obtain ⟨vs, q, _⟩ := (r a u e).some
  exact (r a u e).keep (Kp.fresh h) (upd_ne (ne_of_none q h))
theorem Ext.fresh {o : HO} (r : RG K H g) (h : H p = Option.none) : Ext g H g (upd H p o) := fun a u e n _ => ⟨by rw [upd_ne (ne_of_none e h)]; exact e, n⟩
/-- a new thing that changes -/
theorem RG.new {ds : List DV} {vs : List V} (r : RG K H g) (h : H p = Option.none) (rd : RDs K H ds vs) : RG K (upd H p (.lst vs)) (gup g p (.lst ds)) := fun a u e => by
  by_cases ha : a = p
  · subst ha
    rw [gup_same] at e; cases e
    exact ⟨vs, upd_same, rd.mono (Kp.fresh h)⟩
  · rw [gup_ne ha] at e
    exact (r a u e).keep (Kp.fresh h) (upd_ne ha)
theorem Ext.new {u : DO} {o : HO} (h : H p = Option.none) : Ext g H (gup g p u) (upd H p o) := fun a x e n _ => by
  have ha := ne_of_none e h
  exact ⟨by rw [upd_ne ha]; exact e, by rw [gup_ne ha]; exact n⟩
/-- a thing changed -/
theorem Kp.mut {o : HO} (mu : Trk p (H p)) : Kp H (upd H p o) :=
  ⟨fun b xs q => by rw [upd_ne (fun z => by subst z; rw [q] at mu; exact mu)]; exact q, fun b x u q => by rw [upd_ne (fun z => by subst z; rw [q] at mu; exact mu)]; exact q, fun b fs q => by rw [upd_ne (fun z => by subst z; rw [q] at mu; exact mu)]; exact q, fun b n q => by rw [upd_ne (fun z => by subst z; rw [q] at mu; exact mu n rfl)]; exact q⟩
theorem RG.set {xs ds : List DV} {vs : List V} (r : RG K H g) (h : g p = Option.some (.lst xs)) (rd : RDs K H ds vs) : RG K (upd H p (.lst vs)) (gup g p (.lst ds)) := fun a u e => by
  obtain ⟨ws, q, m⟩ := (r p _ h).some
  have k : Kp H (upd H p (.lst vs)) := Kp.mut (by rw [q]; exact m)
  by_cases ha : a = p
  · subst ha
    rw [gup_same] at e; cases e
    exact ⟨vs, upd_same, rd.mono k⟩
  · rw [gup_ne ha] at e
    exact (r a u e).keep k (upd_ne ha)
theorem Ext.set {u v : DO} {o : HO} (h : g p = Option.some v) : Ext g H (gup g p u) (upd H p o) := fun a x e n _ => by
  have ha : a ≠ p := fun z => by rw [z, h] at n; cases n
  exact ⟨by rw [upd_ne ha]; exact e, by rw [gup_ne ha]; exact n⟩
/-- a smaller heap -/
def Sub (g' g : DG) : Prop := ∀ a, g' a = g a ∨ g' a = Option.none
theorem Sub.refl : Sub g g := fun _ => .inl rfl
theorem Sub.gup {o : DO} (h : g p = Option.none) : Sub g (gup g p o) := fun a => by
  by_cases ha : a = p
  · subst ha; exact .inr h
  · exact .inl (gup_ne ha).symm
theorem Sub.trans (a : Sub g2 g1) (b : Sub g1 g) : Sub g2 g := fun c => by
  rcases a c with h | h
  · rcases b c with h' | h'
    · exact .inl (h.trans h')
    · exact .inr (h.trans h')
  · exact .inr h
theorem Sub.rg (s : Sub g' g) (r : RG K H g) : RG K H g' := fun a o e => by
  rcases s a with h | h
  · exact r a o (h.symm.trans e)
  · rw [h] at e; cases e
theorem Sub.ext (s : Sub g2 g1) (e : Ext g H g1 H1) : Ext g H g2 H1 := fun a o h n w => by
  obtain ⟨h1, n1⟩ := e a o h n w
  refine ⟨h1, ?_⟩
  rcases s a with q | q
  · rw [q]; exact n1
  · exact q
end
def RS (K : Fg) (H : Hp) (δ : DS) (σ : L2.St) : Prop := δ.length = σ.length ∧ ∀ (i : Nat) (d : DV), δ[i]? = some (some d) → ∃ v, σ[i]? = some (some v) ∧ RD K H d v
section
variable {K : Fg} {H H' : Hp} {δ : DS} {σ : L2.St}
theorem RS.mono (k : Kp H H') (r : RS K H δ σ) : RS K H' δ σ := ⟨r.1, fun i d e => by
  obtain ⟨v, h1, h2⟩ := r.2 i d e
  exact ⟨v, h1, h2.mono k⟩⟩
theorem RS.set {d : DV} {v : V} (r : RS K H δ σ) (i : Nat) (rd : RD K H d v) : RS K H (δ.set i (some d)) (σ.set i (some v)) := by
  refine ⟨by rw [List.length_set, List.length_set]; exact r.1, fun j e h => ?_⟩
  by_cases hj : i = j
  · subst hj
    by_cases hi : i < δ.length
    · rw [List.getElem?_set_self hi] at h; cases h
      exact ⟨v, by rw [List.getElem?_set_self (by rw [← r.1]; exact hi)], rd⟩
    · rw [List.getElem?_eq_none (by rw [List.length_set]; omega)] at h; cases h
  · rw [List.getElem?_set_ne hj] at h ⊢
    exact r.2 j e h
theorem RS.unset (r : RS K H δ σ) (i : Nat) : RS K H (δ.set i none) (σ.set i none) := by
  refine ⟨by rw [List.length_set, List.length_set]; exact r.1, fun j e h => ?_⟩
  by_cases hj : i = j
  · subst hj
    by_cases hi : i < δ.length
    · rw [List.getElem?_set_self hi] at h; cases h
    · rw [List.getElem?_eq_none (by rw [List.length_set]; omega)] at h; cases h
  · rw [List.getElem?_set_ne hj] at h ⊢
    exact r.2 j e h
end
/-- slots by number, to be reckoned -/
def nth : DS → Nat → Option DV
  | [], _ => none
  | x :: _, 0 => x
  | _ :: r, n + 1 => nth r n
theorem nth_get : ∀ {δ : DS} {i : Nat} {d : DV}, nth δ i = some d → δ[i]? = some (some d)
  | [], _, _, h => by simp [nth] at h
  | x :: _, 0, d, h => by simpa [nth] using h
  | _ :: r, n + 1, d, h => by simpa using nth_get (δ := r) (i := n) (by simpa [nth] using h)

/-! ### transformers over contents -/
abbrev TDE := DS → DG → (DV → DG → Prop) → Prop
abbrev TDT := DS → DG → (Bool → DG → Prop) → Prop
abbrev TDA := DS → DG → (List DV → DG → Prop) → Prop
structure DEnds where
  nx : DS → DG → Prop
  rt : DV → DG → Prop
  bk : DS → DG → Prop := fun _ _ => False
  ct : DS → DG → Prop := fun _ _ => False
abbrev TDS := DEnds → DS → DG → Prop
abbrev TDI := DS → DG → (List DV → DG → Prop) → Prop
abbrev SpD := List DV → DG → (DV → DG → Prop) → Prop

def upE (K : Fg) (t : TDE) : TE := fun σ H Q => ∃ δ g P, RS K H δ σ ∧ RG K H g ∧ t δ g P ∧ ∀ d g' v H', Ext g H g' H' → RG K H' g' → RD K H' d v → P d g' → Q v H'
def upT (K : Fg) (t : TDT) : TT := fun σ H Q => ∃ δ g P, RS K H δ σ ∧ RG K H g ∧ t δ g P ∧ ∀ b g' H', Ext g H g' H' → RG K H' g' → P b g' → Q b H'
def upA (K : Fg) (t : TDA) : TA := fun σ H Q => ∃ δ g P, RS K H δ σ ∧ RG K H g ∧ t δ g P ∧ ∀ ds g' vs H', Ext g H g' H' → RG K H' g' → RDs K H' ds vs → P ds g' → Q vs H'
def upS (K : Fg) (t : TDS) : TS := fun D σ H => ∃ δ g E, RS K H δ σ ∧ RG K H g ∧ t E δ g ∧
  (∀ δ' g' σ' H', Ext g H g' H' → RG K H' g' → RS K H' δ' σ' → E.nx δ' g' → D.nx σ' H') ∧
  (∀ d g' v H', Ext g H g' H' → RG K H' g' → RD K H' d v → E.rt d g' → D.rt v H') ∧
  (∀ δ' g' σ' H', Ext g H g' H' → RG K H' g' → RS K H' δ' σ' → E.bk δ' g' → D.bk σ' H') ∧
  (∀ δ' g' σ' H', Ext g H g' H' → RG K H' g' → RS K H' δ' σ' → E.ct δ' g' → D.ct σ' H')
def upSp (K : Fg) (sp : SpD) : Sp := fun vs H Q _ => ∃ ds g P, RDs K H ds vs ∧ RG K H g ∧ sp ds g P ∧ ∀ d g' v H', Ext g H g' H' → RG K H' g' → RD K H' d v → P d g' → Q v H'
/-- a step of a walk lays one new object, or two, or none -/
inductive Grw (H H' : Hp) : Prop where
  | inl (h : H' = H)
  | inr (h : ∃ p o, H p = Option.none ∧ H' = upd H p o)
  | two (h : ∃ p o p2 o2, H p = Option.none ∧ H p2 = Option.none ∧ p2 ≠ p ∧ H' = upd (upd H p o) p2 o2)
/-- what a walk gives, from the heap H0 on -/
structure DWalk (K : Fg) (J : It) (ds : List DV) (H0 : Hp) : Prop where
  goes : ∀ i H, i < ds.length → Kp H0 H → J.go i H
  stops : ∀ H, Kp H0 H → J.stop ds.length H
  yields : ∀ i H x H' d, ds[i]? = some d → Kp H0 H → J.yld i H x H' → Grw H H' ∧ RD K H' d x
def upI (K : Fg) (t : TDI) : TI := fun σ H R => ∃ δ g P, RS K H δ σ ∧ RG K H g ∧ t δ g P ∧ ∀ ds g' J H', Ext g H g' H' → RG K H' g' → DWalk K J ds H' → P ds g' → R J H'

theorem PE_weak {X : Cx} {e : Expr} {t t' : TE} (h : PE X e t) (w : ∀ σ H Q, t' σ H Q → t σ H Q) : PE X e t' := ⟨fun pins s σ H Q I q => h.run pins s σ H Q I (w σ H Q q)⟩
theorem PT_weak {X : Cx} {e : Expr} {t t' : TT} (h : PT X e t) (w : ∀ σ H Q, t' σ H Q → t σ H Q) : PT X e t' := ⟨fun pins s σ H Q I q => h.run pins s σ H Q I (w σ H Q q)⟩
theorem PW_weak {X : Cx} {e : Expr} {t t' : TT} (h : PW X e t) (w : ∀ σ H Q, t' σ H Q → t σ H Q) : PW X e t' := ⟨fun wh pins s σ H Q I q => h.run wh pins s σ H Q I (w σ H Q q)⟩
theorem PA_weak {X : Cx} {e : List Expr} {t t' : TA} (h : PA X e t) (w : ∀ σ H Q, t' σ H Q → t σ H Q) : PA X e t' := ⟨fun ps pins s σ H Q I q => h.run ps pins s σ H Q I (w σ H Q q)⟩
theorem PS_weak {X : Cx} {e : Stmt} {t t' : TS} (h : PS X e t) (w : ∀ D σ H, t' D σ H → t D σ H) : PS X e t' := ⟨fun pins s σ H D I q => h.run pins s σ H D I (w D σ H q)⟩
theorem PSs_weak {X : Cx} {e : List Stmt} {t t' : TS} (h : PSs X e t) (w : ∀ D σ H, t' D σ H → t D σ H) : PSs X e t' := ⟨fun pins s σ H D I q => h.run pins s σ H D I (w D σ H q)⟩
theorem PI_weak {X : Cx} {tg e : Expr} {t t' : TI} (h : PI X tg e t) (w : ∀ σ H Q, t' σ H Q → t σ H Q) : PI X tg e t' := ⟨fun pins s σ H Q I q => h.run pins s σ H Q I (w σ H Q q)⟩

/-! ### a new list may be locked at once -/
def fz (Q : VK) : VK := fun v H => Q v H ∨ ∃ p u, v = .ref p ∧ H p = some u ∧ Mut (some u) ∧ ∀ o, Q v (upd H p (.frz o u))
section
variable {X : Cx}
theorem EP_fz {pins : List (Addr × Obj)} {σ : L2.St} {Q : VK} {u : Value} {s : Shared} (h : EP X pins σ (fz Q) u s) : EP X pins σ Q u s := by
  obtain ⟨v, H, I, r, q⟩ := h
  rcases q with q | ⟨p, vs, rfl, hp, m, q⟩
  · exact ⟨v, H, I, r, q⟩
  · obtain ⟨o, I'⟩ := I.lock hp m
    exact ⟨_, _, I', r, q o⟩
theorem PE_fz {e : Expr} {t : TE} (h : PE X e t) : PE X e (fun σ H Q => t σ H (fz Q)) := ⟨fun pins s σ H Q I q => thn (h.run pins s σ H (fz Q) I q) fun _ _ z => EP_fz z⟩
theorem OpR_fz {f : Value → Value → Sem Value} {r : R2} (h : OpR X f r) : OpR X f (fun x y H Q => r x y H (fz Q)) := fun pins s σ H x y v u Q I rx ry q => thn (h pins s σ H x y v u (fz Q) I rx ry q) fun _ _ z => EP_fz z
theorem CallR_fz {f : Value} {r : List V → Hp → VK → Prop} (h : CallR X f r) : CallR X f (fun xs H Q => r xs H (fz Q)) := fun pins s σ H xs us Q I rx q => thn (h pins s σ H xs us (fz Q) I rx q) fun _ _ z => EP_fz z
theorem SlR_fz {r : V → Option Int → Option Int → Hp → VK → Prop} (h : SlR X r) : SlR X (fun x lo hi H Q => r x lo hi H (fz Q)) := by
  intro pins s σ H x v vl vu lo hi sl Q I rx hs pl pu q
  obtain ⟨T, id, h1, h2, h3⟩ := h pins s σ H x v vl vu lo hi sl (fz Q) I rx hs pl pu q
  exact ⟨T, id, h1, h2, thn h3 fun _ _ z => EP_fz z⟩
end
/-- a fresh list, locked: by content -/
theorem fz_new {K : Fg} {g : DG} {H : Hp} {p : Addr} {ds : List DV} {vs : List V} {Q : VK} {P : DV → DG → Prop} (rg : RG K H g) (hp : H p = none) (rd : RDs K H ds vs)
    (k : ∀ d g' v H', Ext g H g' H' → RG K H' g' → RD K H' d v → P d g' → Q v H') (h : P (.lst ds) g) : fz Q (.ref p) (upd H p (.lst vs)) := by
  refine .inr ⟨p, .lst vs, rfl, upd_same, trivial, fun o => ?_⟩
  rw [upd_upd]
  exact k _ g _ _ (Ext.fresh rg hp) (rg.fresh hp) (.lst ⟨o, upd_same⟩ (rd.mono (Kp.fresh hp))) h
theorem tup_new {K : Fg} {g : DG} {H : Hp} {p : Addr} {ds : List DV} {vs : List V} {Q : VK} {P : DV → DG → Prop} (rg : RG K H g) (hp : H p = none) (rd : RDs K H ds vs)
    (k : ∀ d g' v H', Ext g H g' H' → RG K H' g' → RD K H' d v → P d g' → Q v H') (h : P (.tup ds) g) : Q (.ref p) (upd H p (.tup vs)) :=
  k _ g _ _ (Ext.fresh rg hp) (rg.fresh hp) (.tup upd_same (rd.mono (Kp.fresh hp))) h
end DL

/-! Deep layer B: the rules for expressions over contents. -/
namespace DL
open PySem PySem.Spec PyProof.Rows L2
section
variable {X : Cx} {pos : Pos}

/-! ### names, constants -/
def dVar (i : Nat) : TDE := fun δ g Q => match nth δ i with | some d => Q d g | none => False
def dC (d : DV) : TDE := fun _ g Q => Q d g
theorem pdv (i : Nat) {x : Str} {p : Pos} (hN : X.N[i]? = some x := by rfl) (hv : Vis X.env.scope x := by first | exact Or.inl rfl | exact Or.inr (Or.inl rfl) | exact Or.inr (Or.inr rfl)) (hd : (x == ("__debug__" : Str)) = false := by decide)
    (hcd : (x == ("__classdict__" : Str)) = false := by decide) : PE X (.Name x p) (upE X.K (dVar i)) := by
  refine PE_weak (pv i hN hv hd hcd) fun σ H Q ⟨δ, g, P, rs, rg, h, k⟩ => ?_
  unfold dVar at h
  split at h
  · rename_i d e
    obtain ⟨v, hv, rd⟩ := rs.2 i d (nth_get e)
    exact ⟨v, hv, k d g v H Ext.refl rg rd h⟩
  · exact h.elim
theorem pd_c {e : Expr} {v : V} {d : DV} (h : PE X e (tC v)) (rd : ∀ H, RD X.K H d v) : PE X e (upE X.K (dC d)) :=
  PE_weak h fun _ H _ ⟨_, g, _, _, rg, h, k⟩ => k d g v H Ext.refl rg (rd H) h
theorem pd_int {i j} : PE X (.Constant (.int i) j pos) (upE X.K (dC (.int i))) := pd_c pe_int fun _ => .int i
theorem pd_bl {i j} : PE X (.Constant (.bool i) j pos) (upE X.K (dC (.bl i))) := pd_c pe_bl fun _ => .bl i
theorem pd_non {j} : PE X (.Constant .none j pos) (upE X.K (dC .non)) := pd_c pe_non fun _ => .non
theorem pd_str {x j} : PE X (.Constant (.str x) j pos) (upE X.K (dC (.str x))) := pd_c pe_str fun _ => .str x
/-- a module's name: an int, a text, a def, a class -/
theorem pd_glob {x : Str} {d : DV} {v : V} {u : Value} (hg : Gl X x) (hm : X.mg x = some u) (r : RelV v u) (rd : ∀ H, RD X.K H d v) (hd : (x == ("__debug__" : Str)) = false := by decide) : PE X (.Name x pos) (upE X.K (dC d)) := pd_c (pe_glob hg hm r hd) rd
theorem pd_globI {x : Str} {i : Int} {t : Tok} (hm : X.mg x = some (.int i t)) (hg : Gl X x := by rfl) (hd : (x == ("__debug__" : Str)) = false := by decide) : PE X (.Name x pos) (upE X.K (dC (.int i))) := pd_glob (v := .int i) hg hm ⟨t, rfl⟩ (fun _ => .int i) hd
theorem pd_globR {x : Str} {a : Addr} (hm : X.mg x = some (.ref a)) (hg : Gl X x := by rfl) (hd : (x == ("__debug__" : Str)) = false := by decide) : PE X (.Name x pos) (upE X.K (dC (.ref a))) := pd_glob (v := .ref a) hg hm rfl (fun _ => .ref a) hd
theorem pd_globS {x : Str} {i : Str} {t : Tok} (hm : X.mg x = some (.str i t)) (hg : Gl X x := by rfl) (hd : (x == ("__debug__" : Str)) = false := by decide) : PE X (.Name x pos) (upE X.K (dC (.str i))) := pd_glob (v := .str i) hg hm ⟨t, rfl⟩ (fun _ => .str i) hd
/-- a built-in class as a value -/
theorem pd_ty {x : Str} {n : String} (hm : X.mg x = none) (hv : bootBuiltins x = some (.type n)) (hg : Gl X x := by rfl) (hn : x ≠ "__name__" := by decide) (hd : (x == ("__debug__" : Str)) = false := by decide) : PE X (.Name x pos) (upE X.K (dC (.ty n))) :=
  pd_c (pe_bltn hg hm hv (v := .ty n) rfl hn hd) fun _ => .ty n

/-! ### operators -/
abbrev RR2 := DV → DV → DG → (DV → Prop) → Prop
abbrev RR1 := DV → DG → (DV → Prop) → Prop
abbrev RRs := List DV → DG → (DV → Prop) → Prop
def dOp (r : RR2) (a b : TDE) : TDE := fun δ g Q => a δ g fun x g1 => b δ g1 fun y g2 => r x y g2 fun z => Q z g2
def RefOp (K : Fg) (r : RR2) (R : R2) : Prop := ∀ (x y : DV) (P : DV → Prop) (v u : V) (H : Hp) (g : DG) (Q : VK), RG K H g → RD K H x v → RD K H y u →
  (∀ z w H', Ext g H g H' → RG K H' g → RD K H' z w → P z → Q w H') → r x y g P → R v u H (fz Q)
variable {a b c : Expr} {ta tb tc : TDE}
theorem op_up {r : RR2} {R : R2} {δ : DS} {g : DG} {σ : L2.St} {H : Hp} {Q : VK} {P : DV → DG → Prop} {K : Fg} (rf : RefOp K r R) (rs : RS K H δ σ) (rg : RG K H g) (h : dOp r ta tb δ g P)
    (k : ∀ d g' v H', Ext g H g' H' → RG K H' g' → RD K H' d v → P d g' → Q v H') : tOp (fun x y H Q => R x y H (fz Q)) (upE K ta) (upE K tb) σ H Q :=
  ⟨δ, g, _, rs, rg, h, fun d g1 v H1 e1 rg1 rd1 h1 => ⟨δ, g1, _, rs.mono (e1.kp rg), rg1, h1, fun d2 g2 u H2 e2 rg2 rd2 h2 =>
    rf d d2 _ v u H2 g2 Q rg2 (rd1.mono (e2.kp rg1)) rd2 (fun z w H' e rg' rd' pz => k z g2 w H' ((e1.trans e2).trans e) rg' rd' pz) h2⟩⟩
theorem pd_op {op : Operator} {r : RR2} {R : R2} (ho : OpR X (binaryOp op) R) (rf : RefOp X.K r R) (ha : PE X a (upE X.K ta)) (hb : PE X b (upE X.K tb)) : PE X (.BinOp a op b pos) (upE X.K (dOp r ta tb)) :=
  PE_weak (pe_op (OpR_fz ho) ha hb) fun _ _ _ ⟨_, _, _, rs, rg, h, k⟩ => op_up rf rs rg h k
theorem pd_cmp {op : CmpOp} {r : RR2} {R : R2} (ho : OpR X (compareOp op) R) (rf : RefOp X.K r R) (ha : PE X a (upE X.K ta)) (hb : PE X b (upE X.K tb)) (hm : behindInMarks op b = false) : PE X (.Compare a [op] [b] pos) (upE X.K (dOp r ta tb)) :=
  PE_weak (pe_cmpR (OpR_fz ho) ha hb hm) fun _ _ _ ⟨_, _, _, rs, rg, h, k⟩ => op_up rf rs rg h k
/-- a test out of a value that is a bool -/
def dB (t : TDE) : TDT := fun δ g Q => t δ g fun x g' => match x with | .bl c => Q c g' | _ => False
theorem tb_up {K : Fg} {t : TDE} {T : TE} {σ : L2.St} {H : Hp} {Q : Bool → Hp → Prop} (hT : ∀ σ H Q, upE K t σ H Q → T σ H Q) (h : upT K (dB t) σ H Q) : T σ H (fun x H' => ∃ k, x = .bl k ∧ Q k H') := by
  obtain ⟨δ, g, P, rs, rg, h, k⟩ := h
  refine hT _ _ _ ⟨δ, g, _, rs, rg, h, fun d g' v H' e rg' rd p => ?_⟩
  cases d <;> first
    | exact False.elim p
    | (cases rd; exact ⟨_, rfl, k _ _ _ e rg' p⟩)
theorem pt_cmpD {op : CmpOp} {r : RR2} {R : R2} (ho : OpR X (compareOp op) R) (rf : RefOp X.K r R) (ha : PE X a (upE X.K ta)) (hb : PE X b (upE X.K tb)) (hm : behindInMarks op b = false) : PT X (.Compare a [op] [b] pos) (upT X.K (dB (dOp r ta tb))) :=
  PT_weak (pt_cmpR (OpR_fz ho) ha hb hm) fun σ H Q h => tb_up (T := tOp (fun x y H Q => R x y H (fz Q)) (upE X.K ta) (upE X.K tb)) (fun _ _ _ ⟨_, _, _, rs, rg, h, k⟩ => op_up rf rs rg h k) h
/-- a < b < c -/
def dChain (r r' : RR2) (a b c : TDE) : TDE := fun δ g Q => a δ g fun x g1 => b δ g1 fun y g2 => r x y g2 fun z => match z with
  | .bl k => if k = true then c δ g2 fun u g3 => r' y u g3 fun w => Q w g3 else Q (.bl false) g2
  | _ => False
/-- the answers of a comparison keep the heap: by values -/
def RefCmp (K : Fg) (r : RR2) (R : R2) : Prop := ∀ (x y : DV) (P : DV → Prop) (v u : V) (H : Hp) (g : DG) (Q : VK), RG K H g → RD K H x v → RD K H y u → (∀ b, P (.bl b) → Q (.bl b) H) → r x y g P → R v u H Q
theorem RefCmp.op {K : Fg} {r : RR2} {R : R2} (h : RefCmp K r R) : RefOp K r R := fun x y P v u H g Q rg rx ry k q => h x y P v u H g (fz Q) rg rx ry (fun b p => .inl (k _ _ H Ext.refl rg (.bl b) p)) q
theorem chain_up {r r' : RR2} {R R' : R2} {δ : DS} {g : DG} {σ : L2.St} {H : Hp} {Q : VK} {P : DV → DG → Prop} {K : Fg} (rf : RefCmp K r R) (rf' : RefCmp K r' R') (rs : RS K H δ σ) (rg : RG K H g) (h : dChain r r' ta tb tc δ g P)
    (k : ∀ d g' v H', Ext g H g' H' → RG K H' g' → RD K H' d v → P d g' → Q v H') : tChain R R' (upE K ta) (upE K tb) (upE K tc) σ H Q := by
  refine ⟨δ, g, _, rs, rg, h, fun d g1 v H1 e1 rg1 rd1 h1 => ⟨δ, g1, _, rs.mono (e1.kp rg), rg1, h1, fun d2 g2 u H2 e2 rg2 rd2 h2 => ?_⟩⟩
  refine rf d d2 _ v u H2 g2 _ rg2 (rd1.mono (e2.kp rg1)) rd2 (fun b p => ?_) h2
  refine ⟨b, rfl, ?_⟩
  dsimp only at p
  cases b with
  | true =>
    rw [if_pos rfl] at p ⊢
    refine ⟨δ, g2, _, rs.mono ((e1.trans e2).kp rg), rg2, p, fun d3 g3 w H3 e3 rg3 rd3 h3 => ?_⟩
    exact rf' d2 d3 _ u w H3 g3 _ rg3 (rd2.mono (e3.kp rg2)) rd3 (fun b p' => k _ _ _ _ ((e1.trans e2).trans e3) rg3 (.bl b) p') h3
  | false =>
    rw [if_neg Bool.false_ne_true] at p ⊢
    exact k _ _ _ _ (e1.trans e2) rg2 (.bl false) p
theorem pd_chain {op op' : CmpOp} {r r' : RR2} {R R' : R2} (ho : OpR X (compareOp op) R) (rf : RefCmp X.K r R) (ho' : OpR X (compareOp op') R') (rf' : RefCmp X.K r' R') (ha : PE X a (upE X.K ta)) (hb : PE X b (upE X.K tb)) (hc : PE X c (upE X.K tc))
    (hm : lastMarks [op, op'] [b, c] = false := by with_unfolding_all rfl) : PE X (.Compare a [op, op'] [b, c] pos) (upE X.K (dChain r r' ta tb tc)) :=
  PE_weak (pe_chain ho ho' ha hb hc hm) fun _ _ _ ⟨_, _, _, rs, rg, h, k⟩ => chain_up rf rf' rs rg h k
/-! ### truth, and, or, not, if -/
/-- the items of a list or tuple -/
def lstD (g : DG) : DV → Option (List DV)
  | .lst ds => some ds
  | .ref p => match g p with | some (.lst ds) => some ds | _ => none
  | _ => none
def seqD (g : DG) : DV → Option (List DV)
  | .tup ds => some ds
  | .lst ds => some ds
  | .ref p => match g p with | some (.lst ds) => some ds | _ => none
  | .scr ns => some (ns.map .int)
  | _ => none
/-- of a plain tuple, too -/
def seqP (g : DG) : DV → Option (List DV)
  | .tpl ds => some ds
  | x => seqD g x
theorem seqP_of {g : DG} {x : DV} {ds : List DV} (h : seqD g x = some ds) : seqP g x = some ds := by
  cases x with
  | tpl _ => cases h
  | _ => exact h
theorem lstD_of {K : Fg} {H : Hp} {g : DG} {d : DV} {v : V} {ds : List DV} (rg : RG K H g) (r : RD K H d v) (h : lstD g d = some ds) : ∃ a vs, v = .ref a ∧ SqL K H a vs ∧ RDs K H ds vs ∧ Rd H a (.lst vs) := by
  cases r with
  | lst hs hr =>
    cases h
    obtain ⟨o, e⟩ := hs
    exact ⟨_, _, rfl, .inl (.inr ⟨o, e⟩), hr, .inr ⟨o, e⟩⟩
  | ref a =>
    unfold lstD at h
    split at h <;> first | cases h | skip
    all_goals (try (rename_i q; cases q))
    all_goals (split at h <;> first | (cases h; rename_i e; obtain ⟨vs, q, rd⟩ := rg _ _ e; exact ⟨_, vs, rfl, SqL.of q, rd, .inl q⟩) | cases h)
  | _ => cases h
theorem seqD_of {K : Fg} {H : Hp} {g : DG} {d : DV} {v : V} {ds : List DV} (rg : RG K H g) (r : RD K H d v) (h : seqD g d = some ds) : ∃ a vs, v = .ref a ∧ (SqL K H a vs ∨ SqT K H a vs) ∧ RDs K H ds vs := by
  cases r with
  | tup hs hr => cases h; exact ⟨_, _, rfl, .inr (SqT.of hs), hr⟩
  | lst hs hr => cases h; exact ⟨_, _, rfl, .inl hs.sq, hr⟩
  | scr hs => cases h; exact ⟨_, _, rfl, .inl hs.sq, RDs.ofInts _⟩
  | ref a =>
    obtain ⟨a, vs, e, q, r, _⟩ := lstD_of (d := .ref a) rg (.ref a) (show lstD g (.ref a) = some ds from h)
    exact ⟨a, vs, e, .inl q, r⟩
  | _ => cases h
theorem seqP_rd {K : Fg} {H : Hp} {g : DG} {d : DV} {v : V} {ds : List DV} (rg : RG K H g) (r : RD K H d v) (h : seqP g d = some ds) : ∃ a vs, v = .ref a ∧ (SqL K H a vs ∨ SqT K H a vs) ∧ RDs K H ds vs := by
  cases r with
  | tpl hs hr => cases h; exact ⟨_, _, rfl, .inr hs.sq, hr⟩
  | tup hs hr => exact seqD_of rg (.tup hs hr) h
  | lst hs hr => exact seqD_of rg (.lst hs hr) h
  | scr hs => exact seqD_of rg (.scr hs) h
  | ref a => exact seqD_of rg (.ref a) h
  | _ => cases h
theorem seqD_ofX {K : Fg} {H : Hp} {g : DG} {d : DV} {v : V} {ds : List DV} (rg : RG K H g) (r : RD K H d v) (h : seqD g d = some ds) : ∃ a vs, v = .ref a ∧ (SqL K H a vs ∨ H a = some (.tup vs)) ∧ RDs K H ds vs := by
  cases r with
  | tup hs hr => cases h; exact ⟨_, _, rfl, .inr hs, hr⟩
  | lst hs hr => cases h; exact ⟨_, _, rfl, .inl hs.sq, hr⟩
  | scr hs => cases h; exact ⟨_, _, rfl, .inl hs.sq, RDs.ofInts _⟩
  | ref a =>
    obtain ⟨a, vs, e, q, r, _⟩ := lstD_of (d := .ref a) rg (.ref a) (show lstD g (.ref a) = some ds from h)
    exact ⟨a, vs, e, .inl q, r⟩
  | _ => cases h
/-- the truth of a value (texts: told where it is asked) -/
def truD (g : DG) : DV → Option Bool
  | .non => some false
  | .bl b => some b
  | .int i => some (i != 0)
  | .tup ds => some (!ds.isEmpty)
  | .lst ds => some (!ds.isEmpty)
  | .ref p => match g p with | some (.lst ds) => some (!ds.isEmpty) | _ => none
  | .scr ns => some (!ns.isEmpty)
  | .str x => if x.length ≤ 16777216 then some ((x.length : Int) != 0) else none
  | _ => none
theorem truV_of {K : Fg} {H : Hp} {g : DG} {d : DV} {v : V} {k : Bool} (rg : RG K H g) (r : RD K H d v) (h : truD g d = some k) : TruV K v H k := by
  cases r with
  | non => cases h; rfl
  | bl b => cases h; rfl
  | int i => cases h; rfl
  | str x =>
    have h' : (if x.length ≤ 16777216 then some ((x.length : Int) != 0) else none) = some k := h
    split at h'
    · rename_i hl
      cases h'
      exact ⟨by rw [sizeLine_eq]; exact hl, rfl⟩
    · cases h'
  | dK hs hr => cases h
  | dT hs hr => cases h
  | ins hs hr => cases h
  | exc hs hr => cases h
  | lam hs hr => cases h
  | tpl hs hr => cases h
  | @scr _ ns hs => cases h; refine .inl ⟨_, hs.sq, ?_⟩; cases ns <;> rfl
  | ref a =>
    have h' : (match g a with | some (.lst ds) => some (!ds.isEmpty) | _ => none) = some k := h
    split at h'
    · cases h'
      rename_i e
      obtain ⟨vs, q, rd⟩ := rg _ _ e
      refine .inl ⟨_, SqL.of q, ?_⟩
      cases rd <;> rfl
    · cases h'
  | ty n => cases h
  | tup hs hr =>
    cases h
    refine .inr (.inl ⟨_, SqT.of hs, ?_⟩)
    cases hr <;> rfl
  | lst hs hr =>
    cases h
    refine .inl ⟨_, hs.sq, ?_⟩
    cases hr <;> rfl
def dTru (t : TDE) : TDT := fun δ g Q => t δ g fun x g' => match truD g' x with | some b => Q b g' | none => False
theorem pt_truD {e : Expr} {t : TDE} (h : PE X e (upE X.K t)) (he : ∀ whole, isTrue e X.env whole = (do let v ← whole; standAt e.pos; holding [v] (truthy v)) := by intro _; rfl) : PT X e (upT X.K (dTru t)) := by
  refine PT_weak (pt_truth h he) fun σ H Q ⟨δ, g, P, rs, rg, h, k⟩ => ⟨δ, g, _, rs, rg, h, fun d g' v H' e rg' rd p => ?_⟩
  split at p
  · rename_i b eb
    exact ⟨b, truV_of rg' rd eb, k _ _ _ e rg' p⟩
  · exact p.elim
def dAnd (t u : TDT) : TDT := fun δ g Q => t δ g fun c g1 => if c = true then u δ g1 Q else Q false g1
def dOr (t u : TDT) : TDT := fun δ g Q => t δ g fun c g1 => if c = true then Q true g1 else u δ g1 Q
def dNot (t : TDT) : TDT := fun δ g Q => t δ g fun c g1 => Q (!c) g1
variable {tA tB' : TDT} {rest : List Expr}
theorem pwd_and1 (ha : PT X a (upT X.K tA)) : PW X (.BoolOp .And [a] pos) (upT X.K tA) := pw_and1 ha
theorem pwd_or1 (ha : PT X a (upT X.K tA)) : PW X (.BoolOp .Or [a] pos) (upT X.K tA) := pw_or1 ha
theorem pwd_and (ha : PT X a (upT X.K tA)) (hb : PW X (.BoolOp .And (b :: rest) pos) (upT X.K tB')) : PW X (.BoolOp .And (a :: b :: rest) pos) (upT X.K (dAnd tA tB')) := by
  refine PW_weak (pw_and ha hb) fun σ H Q ⟨δ, g, P, rs, rg, h, k⟩ => ⟨δ, g, _, rs, rg, h, fun c g1 H1 e rg1 p => ?_⟩
  cases c with
  | true =>
    rw [if_pos rfl] at p ⊢
    exact ⟨δ, g1, _, rs.mono (e.kp rg), rg1, p, fun b g2 H2 e2 rg2 p2 => k _ _ _ (e.trans e2) rg2 p2⟩
  | false =>
    rw [if_neg Bool.false_ne_true] at p ⊢
    exact k _ _ _ e rg1 p
theorem pwd_or (ha : PT X a (upT X.K tA)) (hb : PW X (.BoolOp .Or (b :: rest) pos) (upT X.K tB')) : PW X (.BoolOp .Or (a :: b :: rest) pos) (upT X.K (dOr tA tB')) := by
  refine PW_weak (pw_or ha hb) fun σ H Q ⟨δ, g, P, rs, rg, h, k⟩ => ⟨δ, g, _, rs, rg, h, fun c g1 H1 e rg1 p => ?_⟩
  cases c with
  | false =>
    rw [if_neg Bool.false_ne_true] at p ⊢
    exact ⟨δ, g1, _, rs.mono (e.kp rg), rg1, p, fun b g2 H2 e2 rg2 p2 => k _ _ _ (e.trans e2) rg2 p2⟩
  | true =>
    rw [if_pos rfl] at p ⊢
    exact k _ _ _ e rg1 p
theorem pwd_pt {e : Expr} {t : TDT} (h : PW X e (upT X.K t)) : PT X e (upT X.K t) := h.pt
theorem pt_notD (ha : PT X a (upT X.K tA)) : PT X (.UnaryOp .Not a pos) (upT X.K (dNot tA)) :=
  PT_weak (pt_not ha) fun σ H Q ⟨δ, g, P, rs, rg, h, k⟩ => ⟨δ, g, _, rs, rg, h, fun c g1 H1 e rg1 p => k _ _ _ e rg1 p⟩
/-- and, or as values: by truth -/
def dAndV (t u : TDE) : TDE := fun δ g Q => t δ g fun x g1 => match truD g1 x with | some k => if k = true then u δ g1 Q else Q x g1 | none => False
def dOrV (t u : TDE) : TDE := fun δ g Q => t δ g fun x g1 => match truD g1 x with | some k => if k = true then Q x g1 else u δ g1 Q | none => False
def dNotV (t : TDE) : TDE := fun δ g Q => t δ g fun x g1 => match truD g1 x with | some b => Q (.bl (!b)) g1 | none => False
theorem pd_one {op} {t : TDE} (h : PE X a (upE X.K t)) : PE X (.BoolOp op [a] pos) (upE X.K t) := pe_one h
theorem pd_and (ha : PE X a (upE X.K ta)) (hb : PE X (.BoolOp .And (b :: rest) pos) (upE X.K tb)) : PE X (.BoolOp .And (a :: b :: rest) pos) (upE X.K (dAndV ta tb)) := by
  refine PE_weak (pe_andT ha hb) fun σ H Q ⟨δ, g, P, rs, rg, h, k⟩ => ⟨δ, g, _, rs, rg, h, fun c g1 v H1 e rg1 rd p => ?_⟩
  split at p
  · rename_i q eb
    refine ⟨q, truV_of rg1 rd eb, ?_⟩
    cases q with
    | true => rw [if_pos rfl] at p ⊢; exact ⟨δ, g1, _, rs.mono (e.kp rg), rg1, p, fun b g2 v2 H2 e2 rg2 rd2 p2 => k _ _ _ _ (e.trans e2) rg2 rd2 p2⟩
    | false => rw [if_neg Bool.false_ne_true] at p ⊢; exact k _ _ _ _ e rg1 rd p
  · exact p.elim
theorem pd_not (ha : PE X a (upE X.K ta)) : PE X (.UnaryOp .Not a pos) (upE X.K (dNotV ta)) := by
  refine PE_weak (pe_notT ha) fun σ H Q ⟨δ, g, P, rs, rg, h, k⟩ => ⟨δ, g, _, rs, rg, h, fun c g1 v H1 e rg1 rd p => ?_⟩
  split at p
  · rename_i b eb
    exact ⟨b, truV_of rg1 rd eb, k _ _ _ _ e rg1 (.bl _) p⟩
  · exact p.elim
def dIfE (c : TDT) (t u : TDE) : TDE := fun δ g Q => c δ g fun b g1 => if b = true then t δ g1 Q else u δ g1 Q
theorem pd_ifExp {c : Expr} (hc : PT X c (upT X.K tA)) (ha : PE X a (upE X.K ta)) (hb : PE X b (upE X.K tb)) : PE X (.IfExp c a b pos) (upE X.K (dIfE tA ta tb)) := by
  refine PE_weak (pe_ifExp hc ha hb) fun σ H Q ⟨δ, g, P, rs, rg, h, k⟩ => ⟨δ, g, _, rs, rg, h, fun c g1 H1 e rg1 p => ?_⟩
  cases c with
  | true =>
    rw [if_pos rfl] at p ⊢
    exact ⟨δ, g1, _, rs.mono (e.kp rg), rg1, p, fun b g2 v2 H2 e2 rg2 rd2 p2 => k _ _ _ _ (e.trans e2) rg2 rd2 p2⟩
  | false =>
    rw [if_neg Bool.false_ne_true] at p ⊢
    exact ⟨δ, g1, _, rs.mono (e.kp rg), rg1, p, fun b g2 v2 H2 e2 rg2 rd2 p2 => k _ _ _ _ (e.trans e2) rg2 rd2 p2⟩
def dUn (r : RR1) (a : TDE) : TDE := fun δ g Q => a δ g fun x g1 => r x g1 fun z => Q z g1
def rrNeg : RR1 := fun x _ P => match x with | .int i => P (.int (-i)) | _ => False
theorem pd_neg (ha : PE X a (upE X.K ta)) : PE X (.UnaryOp .USub a pos) (upE X.K (dUn rrNeg ta)) := by
  refine PE_weak (pe_un un_neg ha) fun σ H Q ⟨δ, g, P, rs, rg, h, k⟩ => ⟨δ, g, _, rs, rg, h, fun c g1 v H1 e rg1 rd p => ?_⟩
  cases c <;> first
    | exact False.elim p
    | (cases rd; exact ⟨_, rfl, k _ _ _ _ e rg1 (.int _) p⟩)

/-! ### arguments, displays -/
def dNil : TDA := fun _ g Q => Q [] g
def dCons (t : TDE) (r : TDA) : TDA := fun δ g Q => t δ g fun x g1 => r δ g1 fun xs g2 => Q (x :: xs) g2
variable {es : List Expr} {te : TDE} {t : TDA} {e : Expr}
theorem pda_nil : PA X [] (upA X.K dNil) := PA_weak pa_nil fun σ H Q ⟨δ, g, P, rs, rg, h, k⟩ => k _ _ _ _ Ext.refl rg .nil h
theorem pda_cons (ha : PE X e (upE X.K te)) (hr : PA X es (upA X.K t)) (hs : starEach (e :: es) X.env = (false, eval e X.env) :: starEach es X.env := by rfl) : PA X (e :: es) (upA X.K (dCons te t)) :=
  PA_weak (pa_cons ha hr hs) fun σ H Q ⟨δ, g, P, rs, rg, h, k⟩ => ⟨δ, g, _, rs, rg, h, fun d g1 v H1 e1 rg1 rd1 h1 => ⟨δ, g1, _, rs.mono (e1.kp rg), rg1, h1, fun ds g2 vs H2 e2 rg2 rd2 h2 =>
    k _ _ _ _ (e1.trans e2) rg2 (.cons (rd1.mono (e2.kp rg1)) rd2) h2⟩⟩
def dTup (t : TDA) : TDE := fun δ g Q => t δ g fun ds g1 => ds.length ≤ sizeLine ∧ Q (.tup ds) g1
/-- a list that no one will change -/
def dLst (t : TDA) : TDE := fun δ g Q => t δ g fun ds g1 => ds.length ≤ sizeLine ∧ Q (.lst ds) g1
/-- a list that will be changed -/
def dLstM (t : TDA) : TDE := fun δ g Q => t δ g fun ds g1 => ds.length ≤ sizeLine ∧ ∀ p, g1 p = none → Q (.ref p) (gup g1 p (.lst ds))
theorem pd_tup {x1} (h : PA X es (upA X.K t)) : PE X (.Tuple es x1 pos) (upE X.K (dTup t)) :=
  PE_weak (pe_tup h) fun σ H Q ⟨δ, g, P, rs, rg, h, k⟩ => ⟨δ, g, _, rs, rg, h, fun ds g1 vs H1 e1 rg1 rd1 h1 => ⟨by rw [← rd1.length]; exact h1.1, fun p hp =>
    tup_new (P := P) rg1 hp rd1 (fun d g' v H' e rg' rd' p' => k d g' v H' (e1.trans e) rg' rd' p') h1.2⟩⟩
theorem pd_lst (h : PA X es (upA X.K t)) : PE X (.List es pos) (upE X.K (dLst t)) :=
  PE_weak (PE_fz (pe_lst h)) fun σ H Q ⟨δ, g, P, rs, rg, h, k⟩ => ⟨δ, g, _, rs, rg, h, fun ds g1 vs H1 e1 rg1 rd1 h1 => ⟨by rw [← rd1.length]; exact h1.1, fun p hp =>
    fz_new (P := P) rg1 hp rd1 (fun d g' v H' e rg' rd' p' => k d g' v H' (e1.trans e) rg' rd' p') h1.2⟩⟩
theorem pd_lstM (h : PA X es (upA X.K t)) : PE X (.List es pos) (upE X.K (dLstM t)) :=
  PE_weak (pe_lst h) fun σ H Q ⟨δ, g, P, rs, rg, h, k⟩ => ⟨δ, g, _, rs, rg, h, fun ds g1 vs H1 e1 rg1 rd1 h1 => ⟨by rw [← rd1.length]; exact h1.1, fun p hp =>
    k _ _ _ _ (e1.trans (Ext.new hp)) (rg1.new hp rd1) (.ref p) (h1.2 p (rg1.none hp))⟩⟩

/-! ### calls -/
/-- a built-in, by values -/
def RefCall (K : Fg) (r : RRs) (R : List V → Hp → VK → Prop) : Prop := ∀ (xs : List DV) (P : DV → Prop) (vs : List V) (H : Hp) (g : DG) (Q : VK), RG K H g → RDs K H xs vs →
  (∀ z w H', Ext g H g H' → RG K H' g → RD K H' z w → P z → Q w H') → r xs g P → R vs H (fz Q)
def dCB (r : RRs) (t : TDA) : TDE := fun δ g Q => t δ g fun xs g1 => r xs g1 fun z => Q z g1
variable {x : Str} {p : Pos}
theorem cb_up {r : RRs} {R : List V → Hp → VK → Prop} {σ : L2.St} {H : Hp} {Q : VK} {K : Fg} (rf : RefCall K r R) (h : upE K (dCB r t) σ H Q) : tCB (fun xs H Q => R xs H (fz Q)) (upA K t) σ H Q := by
  obtain ⟨δ, g, P, rs, rg, h, k⟩ := h
  exact ⟨δ, g, _, rs, rg, h, fun ds g1 vs H1 e1 rg1 rd1 h1 => rf ds _ vs H1 g1 Q rg1 rd1 (fun z w H' e rg' rd' pz => k z g1 w H' (e1.trans e) rg' rd' pz) h1⟩
theorem pd_callB {id : String} {r : RRs} {R : List V → Hp → VK → Prop} (hc : CallR X (.builtin id) R) (rf : RefCall X.K r R) (hm : X.mg x = none) (hv : bootBuiltins x = some (.builtin id)) (ha : PA X (e :: es) (upA X.K t)) (hg : Gl X x := by rfl) (hn : x ≠ "__name__" := by decide) (hdb : (x == ("__debug__" : Str)) = false := by decide)
    (he : starEach (e :: es) X.env = (false, eval e X.env) :: starEach es X.env := by rfl) (hpl : (backTo pos (starEach es X.env)).any (·.1) = false := by rfl) : PE X (.Call (.Name x p) (e :: es) [] pos) (upE X.K (dCB r t)) :=
  PE_weak (pe_callB (CallR_fz hc) hg hm hv ha hn hdb he hpl) fun _ _ _ h => cb_up rf h
theorem pd_callTy {T : String} {r : RRs} {R : List V → Hp → VK → Prop} (hc : CallR X (.type T) R) (rf : RefCall X.K r R) (hm : X.mg x = none) (hv : bootBuiltins x = some (.type T)) (ha : PA X (e :: es) (upA X.K t)) (hg : Gl X x := by rfl) (hn : x ≠ "__name__" := by decide) (hdb : (x == ("__debug__" : Str)) = false := by decide)
    (he : starEach (e :: es) X.env = (false, eval e X.env) :: starEach es X.env := by rfl) (hpl : (backTo pos (starEach es X.env)).any (·.1) = false := by rfl) : PE X (.Call (.Name x p) (e :: es) [] pos) (upE X.K (dCB r t)) :=
  PE_weak (pe_callTy (CallR_fz hc) hg hm hv ha hn hdb he hpl) fun _ _ _ h => cb_up rf h
/-- a def of the text -/
def dCall (sp : SpD) (t : TDA) : TDE := fun δ g Q => t δ g fun xs g1 => sp xs g1 Q
theorem pd_call {CX : CXT} {k : Nat} {f : Addr} {fd : FuncData} {ps : List Str} {sp : SpD} {E : XK} (F : FnOk X.prog X.w X.K X.mg X.base CX k f fd ps (upSp X.K sp)) (hr : Room k X.A) (hm : X.mg x = some (.ref f)) (hk : PySem.W.keepIn X.K (.ref f) = true) (hb : Binds X.K fd ps []) (hx : Passes CX X E)
    (ha : PA X (e :: es) (upA X.K t)) (hg : Gl X x := by rfl) (hdb : (x == ("__debug__" : Str)) = false := by decide) (he : starEach (e :: es) X.env = (false, eval e X.env) :: starEach es X.env := by rfl) (hpl : (backTo pos (starEach es X.env)).any (·.1) = false := by rfl) :
    PE X (.Call (.Name x p) (e :: es) [] pos) (upE X.K (dCall sp t)) := by
  refine PE_weak (pe_call F hr hg hm hk hb .nil hx ha hdb he hpl) fun σ H Q ⟨δ, g, P, rs, rg, h, k⟩ => ⟨δ, g, _, rs, rg, h, fun ds g1 vs H1 e1 rg1 rd1 h1 => ?_⟩
  show upSp X.K sp (vs ++ []) H1 Q E
  rw [List.append_nil]
  exact ⟨ds, g1, P, rd1, rg1, h1, fun d g' v H' e rg' rd' p' => k d g' v H' (e1.trans e) rg' rd' p'⟩
/-! ### subscripts, slices -/
def optD (o : Option DV) (P : DV → Prop) : Prop := match o with | some d => P d | none => False
def ixD : RR2 := fun x y g P => match y with
  | .int i => match seqD g x with | some ds => optD (atI ds i) P | none => False
  | _ => False
theorem atI_rd {K : Fg} {H : Hp} {ds : List DV} {vs : List V} {i : Int} {d : DV} (r : RDs K H ds vs) (h : atI ds i = some d) : ∃ v, atI vs i = some v ∧ RD K H d v := by
  unfold atI at h ⊢
  rw [← r.length]
  cases e : ixN ds.length i with
  | none => rw [e] at h; cases h
  | some j =>
    rw [e] at h
    obtain ⟨v, h1, h2⟩ := r.get (show ds[j]? = some d from h)
    exact ⟨v, h1, h2⟩
theorem pd_ix (ha : PE X a (upE X.K ta)) (hb : PE X b (upE X.K tb)) (hs : PlainIx b := by intro _ _; rfl) : PE X (.Subscript a b pos) (upE X.K (dOp ixD ta tb)) := by
  refine PE_weak (pe_ix ix_seq ha hb hs) fun σ H Q ⟨δ, g, P, rs, rg, h, k⟩ => ⟨δ, g, _, rs, rg, h, fun d g1 v H1 e1 rg1 rd1 h1 => ⟨δ, g1, _, rs.mono (e1.kp rg), rg1, h1, fun d2 g2 u H2 e2 rg2 rd2 h2 => ?_⟩⟩
  have rd1' := rd1.mono (e2.kp rg1)
  unfold ixD at h2
  split at h2 <;> first | exact h2.elim | skip
  cases rd2
  split at h2 <;> first | exact h2.elim | skip
  rename_i ds es
  obtain ⟨p, vs, rfl, hq, hr⟩ := seqD_of rg2 rd1' es
  unfold optD at h2
  split at h2 <;> first | exact h2.elim | skip
  rename_i z ez
  obtain ⟨w, hw, rw'⟩ := atI_rd hr ez
  rcases hq with hq | hq
  · exact .inl ⟨p, vs, _, w, rfl, rfl, hq, hw, k _ _ _ _ (e1.trans e2) rg2 rw' h2⟩
  · exact .inr (.inl ⟨p, vs, _, w, rfl, rfl, hq, hw, k _ _ _ _ (e1.trans e2) rg2 rw' h2⟩)
end
end DL

/-! Deep layer C: statements, targets, loops, comprehensions, defs. -/
namespace DL
open PySem PySem.Spec PyProof.Rows L2
section
variable {X : Cx} {pos : Pos} {st : Stmt} {rest : List Stmt} {t u : TDS} {e : Expr} {te : TDE}
/-! ### statements -/
def dNext : TDS := fun E δ g => E.nx δ g
def dSeq (t u : TDS) : TDS := fun E δ g => t { E with nx := u E } δ g
theorem up_nx {K : Fg} {D : Ends} {σ : L2.St} {H : Hp} (h : upS K dNext D σ H) : D.nx σ H := by
  obtain ⟨δ, g, E, rs, rg, h, k1, _⟩ := h
  exact k1 _ _ _ _ Ext.refl rg rs h
theorem pds_nil : PSs X [] (upS X.K dNext) := PSs_weak pss_nil fun _ _ _ h => up_nx h
/-- the ends behind a further step -/
theorem up_go {K : Fg} {D : Ends} {E : DEnds} {t : TDS} {δ1 : DS} {g g1 : DG} {σ1 : L2.St} {H H1 : Hp} (e : Ext g H g1 H1) (rs : RS K H1 δ1 σ1) (rg : RG K H1 g1) (h : t E δ1 g1)
    (k : (∀ δ' g' σ' H', Ext g H g' H' → RG K H' g' → RS K H' δ' σ' → E.nx δ' g' → D.nx σ' H') ∧ (∀ d g' v H', Ext g H g' H' → RG K H' g' → RD K H' d v → E.rt d g' → D.rt v H') ∧
      (∀ δ' g' σ' H', Ext g H g' H' → RG K H' g' → RS K H' δ' σ' → E.bk δ' g' → D.bk σ' H') ∧ (∀ δ' g' σ' H', Ext g H g' H' → RG K H' g' → RS K H' δ' σ' → E.ct δ' g' → D.ct σ' H')) : upS K t D σ1 H1 :=
  ⟨δ1, g1, E, rs, rg, h, fun _ _ _ _ e' => k.1 _ _ _ _ (e.trans e'), fun _ _ _ _ e' => k.2.1 _ _ _ _ (e.trans e'), fun _ _ _ _ e' => k.2.2.1 _ _ _ _ (e.trans e'), fun _ _ _ _ e' => k.2.2.2 _ _ _ _ (e.trans e')⟩
theorem pds_cons (h1 : PS X st (upS X.K t)) (h2 : PSs X rest (upS X.K u)) : PSs X (st :: rest) (upS X.K (dSeq t u)) :=
  PSs_weak (pss_cons h1 h2) fun D σ H ⟨δ, g, E, rs, rg, h, k1, k2, k3, k4⟩ =>
    ⟨δ, g, { E with nx := u E }, rs, rg, h, fun δ' g' σ' H' e rg' rs' q => up_go e rs' rg' q ⟨k1, k2, k3, k4⟩, k2, k3, k4⟩
theorem pds_one (h1 : PS X st (upS X.K t)) : PSs X [st] (upS X.K t) := pss_one h1
def dBreak : TDS := fun E δ g => E.bk δ g
def dCont : TDS := fun E δ g => E.ct δ g
def dNever : TDS := fun _ _ _ => False
theorem pds_never : PS X st (upS X.K dNever) := PS_weak ps_never fun _ _ _ ⟨_, _, _, _, _, h, _⟩ => h
def dDrop (te : TDE) : TDS := fun E δ g => te δ g fun _ g1 => E.nx δ g1
theorem pds_expr (he : PE X e (upE X.K te)) (hs : swapsWith e none pos.line X.env = pure false := by rfl) : PS X (.Expr e pos) (upS X.K (dDrop te)) :=
  PS_weak (ps_expr he hs) fun D σ H ⟨δ, g, E, rs, rg, h, k⟩ => ⟨δ, g, _, rs, rg, h, fun d g' v H' e rg' rd p => k.1 _ _ _ _ e rg' (rs.mono (e.kp rg)) p⟩
def dRet (te : TDE) : TDS := fun E δ g => te δ g E.rt
theorem pds_ret (he : PE X e (upE X.K te)) : PS X (.Return (some e) pos) (upS X.K (dRet te)) :=
  PS_weak (ps_ret he) fun D σ H ⟨δ, g, E, rs, rg, h, k⟩ => ⟨δ, g, _, rs, rg, h, fun d g' v H' e rg' rd p => k.2.1 _ _ _ _ e rg' rd p⟩
def dRetN : TDS := fun E _ g => E.rt .non g
def dIf (c : TDT) (t u : TDS) : TDS := fun E δ g => c δ g fun b g1 => if b = true then t E δ g1 else u E δ g1
theorem pds_if {c : Expr} {a b : List Stmt} {tc : TDT} (hc : PT X c (upT X.K tc)) (ha : PSs X a (upS X.K t)) (hb : PSs X b (upS X.K u)) : PS X (.If c a b pos) (upS X.K (dIf tc t u)) :=
  PS_weak (ps_if hc ha hb) fun D σ H ⟨δ, g, E, rs, rg, h, k⟩ => ⟨δ, g, _, rs, rg, h, fun b g' H' e rg' p => by
    cases b with
    | true => rw [if_pos rfl] at p ⊢; exact up_go e (rs.mono (e.kp rg)) rg' p k
    | false => rw [if_neg Bool.false_ne_true] at p ⊢; exact up_go e (rs.mono (e.kp rg)) rg' p k⟩

/-! ### targets -/
/-- a name's slot, or a tuple of names -/
inductive Tg where
  | nm (i : Nat)
  | tp (is : List Nat)
  /-- x, (y, ..) -/
  | nq (i : Nat) (js : List Nat)
  /-- (x, ..), y -/
  | qn (is : List Nat) (j : Nat)
def setAll : List Nat → List DV → DS → Option DS
  | [], [], δ => some δ
  | i :: is, d :: ds, δ => setAll is ds (δ.set i (some d))
  | _, _, _ => none
def bindT : Tg → DV → DS → Option DS
  | .nm i, d, δ => some (δ.set i (some d))
  | .tp is, .tup ds, δ => setAll is ds δ
  | .tp _, _, _ => none
  | .nq i js, .tup [a, .tup ds], δ => setAll js ds (δ.set i (some a))
  | .nq _ _, _, _ => none
  | .qn is j, .tup [.tup ds, b], δ => (setAll is ds δ).map fun δ => δ.set j (some b)
  | .qn _ _, _, _ => none
def gAll : List Nat → TGs
  | [] => gNil
  | i :: is => gCons (gName i) (gAll is)
def tgG (K : Fg) : Tg → TG
  | .nm i => gName i
  | .tp is => gTup K is.length (gAll is)
  | .nq i js => gTup K 2 (gCons (gName i) (gCons (gTup K js.length (gAll js)) gNil))
  | .qn is j => gTup K 2 (gCons (gTup K is.length (gAll is)) (gCons (gName j) gNil))
def Tg.ix : Tg → List Nat
  | .nm i => [i]
  | .tp is => is
  | .nq i js => i :: js
  | .qn is j => is ++ [j]
theorem wipe_set {σ : L2.St} {i : Nat} {v : Option V} : ∀ {vs : List Nat}, i ∈ vs → wipe (σ.set i v) vs = wipe σ vs
  | [], h => by cases h
  | w :: vs, h => by
    unfold wipe
    by_cases hw : i = w
    · subst hw
      by_cases hv : i ∈ vs
      · rw [wipe_set hv]
      · rw [wipe_comm hv, List.set_set]
    · have hv : i ∈ vs := by
        rcases List.mem_cons.mp h with h | h
        · exact absurd h hw
        · exact h
      rw [wipe_set hv]
where wipe_comm {σ : L2.St} {i : Nat} {v : Option V} : ∀ {vs : List Nat}, i ∉ vs → wipe (σ.set i v) vs = (wipe σ vs).set i v
  | [], _ => rfl
  | w :: vs, h => by
    unfold wipe
    rw [wipe_comm (fun z => h (List.mem_cons_of_mem _ z)), List.set_comm _ _ (fun z => h (by rw [z]; exact List.mem_cons_self))]
theorem gAll_run {K : Fg} {H : Hp} {Q : L2.St → Hp → Prop} : ∀ {is : List Nat} {ds : List DV} {vs : List V} {δ δ' : DS} {σ : L2.St}, RDs K H ds vs → RS K H δ σ → setAll is ds δ = some δ' →
    (∀ σ', RS K H δ' σ' → (∀ ws, (∀ i ∈ is, i ∈ ws) → wipe σ' ws = wipe σ ws) → Q σ' H) → gAll is vs σ H Q
  | [], _, _, δ, δ', σ, .nil, rs, e, k => by
    cases e
    exact ⟨rfl, k σ rs fun _ _ => rfl⟩
  | i :: is, _, _, δ, δ', σ, .cons r t, rs, e, k => by
    refine ⟨_, _, rfl, ?_⟩
    show gAll is _ (σ.set i _) H Q
    refine gAll_run t (rs.set i r) e fun σ' rs' hw => k σ' rs' fun ws hws => ?_
    rw [hw ws fun j hj => hws j (List.mem_cons_of_mem _ hj)]
    exact wipe_set (hws i List.mem_cons_self)
  | [], _, _, _, _, _, .cons _ _, _, e, _ => by cases e
  | _ :: _, _, _, _, _, _, .nil, _, e, _ => by cases e
theorem setAll_len : ∀ {is : List Nat} {ds : List DV} {δ δ' : DS}, setAll is ds δ = some δ' → ds.length = is.length
  | [], [], _, _, _ => rfl
  | _ :: is, _ :: ds, _, _, e => by rw [List.length_cons, List.length_cons, setAll_len (is := is) (ds := ds) e]
  | [], _ :: _, _, _, e => by cases e
  | _ :: _, [], _, _, e => by cases e
theorem tg_run {K : Fg} {H : Hp} {Q : L2.St → Hp → Prop} {tg : Tg} {d : DV} {v : V} {δ δ' : DS} {σ : L2.St} (r : RD K H d v) (rs : RS K H δ σ) (e : bindT tg d δ = some δ')
    (k : ∀ σ', RS K H δ' σ' → (∀ ws, (∀ i ∈ tg.ix, i ∈ ws) → wipe σ' ws = wipe σ ws) → Q σ' H) : tgG K tg v σ H Q := by
  cases tg with
  | nm i =>
    cases e
    exact k _ (rs.set i r) fun ws hw => wipe_set (hw i (by simp [Tg.ix]))
  | tp is =>
    cases r with
    | tup hs hr =>
      refine ⟨_, _, rfl, SqT.of hs, ?_, gAll_run hr rs e k⟩
      rw [← hr.length]
      exact setAll_len e
    | _ => cases e
  | nq i js =>
    cases r with
    | tup hs hr =>
      cases hr with
      | nil => cases e
      | cons r1 hr =>
        cases hr with
        | nil => cases e
        | cons r2 hr =>
          cases hr with
          | cons r3 hr => cases r2 <;> cases e
          | nil =>
            cases r2 with
            | tup hs2 hr2 =>
              refine ⟨_, _, rfl, SqT.of hs, rfl, _, _, rfl, _, _, rfl, _, _, rfl, SqT.of hs2, ?_, gAll_run hr2 (rs.set i r1) e fun σ' rs' hw => ⟨rfl, k σ' rs' fun ws hws => ?_⟩⟩
              · rw [← hr2.length]
                exact setAll_len e
              · rw [hw ws fun j hj => hws j (List.mem_cons_of_mem _ hj)]
                exact wipe_set (hws i List.mem_cons_self)
            | _ => cases e
    | _ => cases e
  | qn is j =>
    cases r with
    | tup hs hr =>
      cases hr with
      | nil => cases e
      | cons r1 hr =>
        cases hr with
        | nil => cases r1 <;> cases e
        | cons r2 hr =>
          cases hr with
          | cons r3 hr => cases r1 <;> cases e
          | nil =>
            cases r1 with
            | tup hs2 hr2 =>
              simp only [bindT] at e
              obtain ⟨δ1, e1, e2⟩ := Option.map_eq_some_iff.mp e
              subst e2
              refine ⟨_, _, rfl, SqT.of hs, rfl, _, _, rfl, _, _, rfl, SqT.of hs2, ?_, gAll_run hr2 rs e1 fun σ' rs' hw => ⟨_, _, rfl, rfl, k _ (rs'.set j r2) fun ws hws => ?_⟩⟩
              · rw [← hr2.length]
                exact setAll_len e1
              · rw [wipe_set (hws j (List.mem_append_right _ List.mem_cons_self)), hw ws fun i hi => hws i (List.mem_append_left _ hi)]
            | _ => cases e
    | _ => cases e
/-- target = value -/
def dAsg (tg : Tg) (te : TDE) : TDS := fun E δ g => te δ g fun d g1 => match bindT tg d δ with | some δ' => E.nx δ' g1 | none => False
theorem asg_up {K : Fg} {tg : Tg} {D : Ends} {σ : L2.St} {H : Hp} (h : upS K (dAsg tg te) D σ H) : tAsg (upE K te) (tgG K tg) D σ H := by
  obtain ⟨δ, g, E, rs, rg, h, k1, k⟩ := h
  refine ⟨δ, g, _, rs, rg, h, fun d g1 v H1 e rg1 rd p => ?_⟩
  split at p
  · rename_i δ' eb
    exact tg_run rd (rs.mono (e.kp rg)) eb fun σ' rs' _ => k1 _ _ _ _ e rg1 rs' p
  · exact p.elim
theorem pds_set {i : Nat} {x : Str} {pos' : Pos} (hN : X.N.Nodup) (he : PE X e (upE X.K te)) (hi : X.N[i]? = some x := by rfl) (hx : Loc X.env.scope x := by first | exact Or.inl rfl | exact Or.inr rfl) (hs : swapsWith e (some (.Name x pos')) pos.line X.env = pure false := by rfl)
    (hf : X.fn x = true ∨ X.env.scope.names.lookup x = some .local := by first | exact .inl rfl | exact .inr rfl | assumption) : PS X (.Assign [.Name x pos'] e pos) (upS X.K (dAsg (.nm i) te)) :=
  PS_weak (ps_set hN hi hx he hs hf) fun D σ H h => asg_up h
/-- a, b = x, y -/
def dPar (is : List Nat) (ta : TDA) : TDS := fun E δ g => ta δ g fun ds g1 => match setAll is ds δ with | some δ' => E.nx δ' g1 | none => False
theorem setAll_rs {K : Fg} {H : Hp} : ∀ {is : List Nat} {ds : List DV} {vs : List V} {δ δ' : DS} {σ : L2.St}, RDs K H ds vs → RS K H δ σ → setAll is ds δ = some δ' → ∃ σ', σ' = (is.zip vs).foldl (fun s p => s.set p.1 (some p.2)) σ ∧ RS K H δ' σ'
  | [], _, _, _, _, _, .nil, rs, e => by cases e; exact ⟨_, rfl, rs⟩
  | i :: is, d :: ds, v :: vs, δ, δ', σ, .cons r t, rs, e => by
    obtain ⟨s, e1, e2⟩ := setAll_rs (is := is) (δ := δ.set i (some d)) (σ := σ.set i (some v)) t (rs.set i r) e
    exact ⟨s, e1, e2⟩
  | [], _, _, _, _, _, .cons _ _, _, e => by cases e
  | _ :: _, _, _, _, _, _, .nil, _, e => by cases e
theorem pds_par {i j : Nat} {x y : Str} {a b : Expr} {ta : TDA} {px py pt : Pos} {kt k2 pt2} (hc : X.calm = true) (hN : X.N.Nodup) (ha : PA X [a, b] (upA X.K ta)) (hi : X.N[i]? = some x := by rfl) (hj : X.N[j]? = some y := by rfl) (hij : i ≠ j := by decide)
    (hx : X.env.scope.names.lookup x = some .local := by rfl) (hy : X.env.scope.names.lookup y = some .local := by rfl)
    (hw : swappedStores [.Tuple [.Name x px, .Name y py] kt pt] (.Tuple [a, b] k2 pt2) X.env = pure (some [x, y]) := by rfl)
    (hs : swapsWithSole [.Tuple [.Name x px, .Name y py] kt pt] (.Tuple [a, b] k2 pt2) pos.line X.env = pure false := by rfl) :
    PS X (.Assign [.Tuple [.Name x px, .Name y py] kt pt] (.Tuple [a, b] k2 pt2) pos) (upS X.K (dPar [i, j] ta)) := by
  refine PS_weak (ps_par hc hN hi hj hij hx hy ha hw hs) fun D σ H ⟨δ, g, E, rs, rg, h, k1, k⟩ => ⟨δ, g, _, rs, rg, h, fun ds g1 vs H1 e rg1 rd p => ?_⟩
  split at p
  · rename_i δ' es
    have hl := setAll_len es
    have hv : vs.length = 2 := by rw [← rd.length]; exact hl
    match vs, hv with
    | [v, w], _ =>
      obtain ⟨σ', e', rs'⟩ := setAll_rs rd (rs.mono (e.kp rg)) es
      subst e'
      exact ⟨v, w, rfl, k1 _ _ _ _ e rg1 rs' p⟩
  · exact p.elim
/-! ### loops -/
def dLoop (tg : Tg) (tb : TDS) (E : DEnds) : List DV → DS → DG → Prop
  | [], δ, g => E.nx δ g
  | d :: ds, δ, g => match bindT tg d δ with
    | some δ1 => tb { E with nx := dLoop tg tb E ds, ct := dLoop tg tb E ds, bk := E.nx } δ1 g
    | none => False
def dFor (wi : TDI) (tg : Tg) (tb : TDS) : TDS := fun E δ g => wi δ g fun ds g1 => dLoop tg tb E ds δ g1
/-- what a step of a walk leaves -/
theorem step_kp {H H' : Hp} (h : Grw H H') : Kp H H' := by
  rcases h with h | ⟨p, o, h, e⟩ | ⟨p, o, p2, o2, h, h2, n, e⟩
  · subst h; exact Kp.refl
  · subst e; exact Kp.fresh h
  · subst e; exact (Kp.fresh h).trans (Kp.fresh (by rw [upd_ne n]; exact h2))
theorem step_rg {K : Fg} {g : DG} {H H' : Hp} (h : Grw H H') (rg : RG K H g) : RG K H' g := by
  rcases h with h | ⟨p, o, h, e⟩ | ⟨p, o, p2, o2, h, h2, n, e⟩
  · subst h; exact rg
  · subst e; exact rg.fresh h
  · subst e; exact (rg.fresh h).fresh (by rw [upd_ne n]; exact h2)
theorem step_ext {K : Fg} {g : DG} {H H' : Hp} (h : Grw H H') (rg : RG K H g) : Ext g H g H' := by
  rcases h with h | ⟨p, o, h, e⟩ | ⟨p, o, p2, o2, h, h2, n, e⟩
  · subst h; exact Ext.refl
  · subst e; exact Ext.fresh rg h
  · subst e; exact (Ext.fresh rg h).trans (Ext.fresh (rg.fresh h) (by rw [upd_ne n]; exact h2))
theorem pds_for {iter tgx : Expr} {body : List Stmt} {wi : TDI} {tg : Tg} {tb : TDS} (hp : PassesOwn (model X.prog X.w) X.A X.env X.xe) (hc : X.calm = true) (hi : PI X tgx iter (upI X.K wi)) (hg : PG X tgx (tgG X.K tg)) (hb : PSs X body (upS X.K tb))
    (hs : ∀ x, foldedSetIterable iter X.env x = pure x := by intro _; rfl) : PS X (.For tgx iter body [] pos) (upS X.K (dFor wi tg tb)) := by
  refine PS_weak (ps_for hp hc hi hg hb hs) fun D σ H ⟨δ, g, E, rs, rg, h, k1, k2, k3, k4⟩ => ⟨δ, g, _, rs, rg, h, fun ds g1 J H1 e1 rg1 dw p => ?_⟩
  refine ⟨fun i m σ' H' => m = ds.length - i ∧ i ≤ ds.length ∧ ∃ δ' g', Ext g H g' H' ∧ Kp H1 H' ∧ RS X.K H' δ' σ' ∧ RG X.K H' g' ∧ dLoop tg tb E (ds.drop i) δ' g', ⟨ds.length, rfl, Nat.zero_le _, δ, g1, e1, Kp.refl, rs.mono (e1.kp rg), rg1, p⟩, ?_⟩
  rintro i m σ2 H2 ⟨rfl, hi, δ2, g2, e2, kp2, rs2, rg2, q⟩
  by_cases hlt : i < ds.length
  · have hd : ds.drop i = ds[i] :: ds.drop (i + 1) := List.drop_eq_getElem_cons hlt
    rw [hd] at q
    have q' : (match bindT tg ds[i] δ2 with
      | some δ1 => tb { E with nx := dLoop tg tb E (ds.drop (i + 1)), ct := dLoop tg tb E (ds.drop (i + 1)), bk := E.nx } δ1 g2
      | none => False) := q
    refine .inr ⟨dw.goes i H2 hlt kp2, fun σ' H' => ∃ δ' g', Ext g H g' H' ∧ Kp H1 H' ∧ RS X.K H' δ' σ' ∧ RG X.K H' g' ∧ dLoop tg tb E (ds.drop (i + 1)) δ' g', fun σ' H' z => ⟨ds.length - (i + 1), by omega, rfl, hlt, z⟩, fun x H3 y => ?_⟩
    obtain ⟨st, rd⟩ := dw.yields i H2 x H3 ds[i] (by simp [hlt]) kp2 y
    split at q'
    · rename_i δ3 eb
      refine tg_run rd (rs2.mono (step_kp st)) eb fun σ3 rs3 _ => ?_
      have rg3 := step_rg st rg2
      have e3 := step_ext st rg2
      refine ⟨δ3, g2, _, rs3, rg3, q', fun δ' g' σ' H' e rg' rs' z => ?_, fun d g' v H' e rg' rd' z => k2 _ _ _ _ ((e2.trans e3).trans e) rg' rd' z, fun δ' g' σ' H' e rg' rs' z => k1 _ _ _ _ ((e2.trans e3).trans e) rg' rs' z, fun δ' g' σ' H' e rg' rs' z => ?_⟩
      · exact ⟨δ', g', (e2.trans e3).trans e, (kp2.trans (step_kp st)).trans (e.kp rg3), rs', rg', z⟩
      · exact ⟨δ', g', (e2.trans e3).trans e, (kp2.trans (step_kp st)).trans (e.kp rg3), rs', rg', z⟩
    · exact q'.elim
  · have ei : i = ds.length := by omega
    subst ei
    rw [List.drop_length] at q
    exact .inl ⟨dw.stops H2 kp2, k1 _ _ _ _ e2 rg2 rs2 q⟩
def dWh (c : TDT) (tb : TDS) (E : DEnds) : Nat → DS → DG → Prop
  | 0, _, _ => False
  | n + 1, δ, g => c δ g fun b g1 => if b = true then tb { E with nx := dWh c tb E n, ct := dWh c tb E n, bk := E.nx } δ g1 else E.nx δ g1
def dWhile (c : TDT) (tb : TDS) : TDS := fun E δ g => ∃ n, dWh c tb E n δ g
end
end DL

/-! Deep layer D: walks, comprehensions, defs. -/
namespace DL
open PySem PySem.Spec PyProof.Rows L2
section
variable {X : Cx} {pos : Pos} {tgx e e2 : Expr} {te : TDE} {t : TDA}
/-! ### what is walked -/
def wSeq (te : TDE) : TDI := fun δ g R => te δ g fun x g1 => match x with | .tup ds => R ds g1 | .lst ds => R ds g1 | .scr ns => R (ns.map .int) g1 | .tpl ds => R ds g1 | _ => False
theorem dwalk_st {K : Fg} {a : Addr} {H : Hp} {ds : List DV} {vs : List V} (h : ∀ H', Kp H H' → SqL K H' a vs) (r : RDs K H ds vs) : DWalk K (Itl K a) ds H :=
  ⟨fun i H' hi k => ⟨vs, vs[i]'(by rw [← r.length]; exact hi), h _ k, by simp [show i < vs.length by rw [← r.length]; exact hi]⟩,
   fun H' k => ⟨vs, h _ k, by rw [r.length]; exact Nat.le_refl _⟩, fun i H1 x H' d hd k y => by
    obtain ⟨e, y⟩ := y
    subst e
    obtain ⟨v, hv, rv⟩ := r.get hd
    have := y vs (h _ k)
    rw [hv] at this; cases this
    exact ⟨.inl rfl, rv.mono k⟩⟩
theorem dwalk_list {K : Fg} {a : Addr} {H : Hp} {ds : List DV} {vs : List V} (h : FzL K H a vs) (r : RDs K H ds vs) : DWalk K (Itl K a) ds H := dwalk_st (fun _ k => (k.fz h).sq) r
theorem dwalk_tup {K : Fg} {a : Addr} {H : Hp} {ds : List DV} {vs : List V} (h : SqT K H a vs) (r : RDs K H ds vs) : DWalk K (Itt K a) ds H :=
  ⟨fun i H' hi k => ⟨vs, vs[i]'(by rw [← r.length]; exact hi), k.sqT h, by simp [show i < vs.length by rw [← r.length]; exact hi]⟩,
   fun H' k => ⟨vs, k.sqT h, by rw [r.length]; exact Nat.le_refl _⟩, fun i H1 x H' d hd k y => by
    obtain ⟨e, y⟩ := y
    subst e
    obtain ⟨v, hv, rv⟩ := r.get hd
    have := y vs (k.sqT h)
    rw [hv] at this; cases this
    exact ⟨.inl rfl, rv.mono k⟩⟩
def iSeq (K : Fg) (tl : TE) : TI := fun σ H R => tl σ H fun x H1 => ∃ a, x = .ref a ∧ (((∃ xs, SqL K H1 a xs) ∧ R (Itl K a) H1) ∨ ((∃ xs, SqT K H1 a xs) ∧ R (Itt K a) H1))
theorem pi_seq {l : Expr} {tl : TE} (hl : PE X l tl) : PI X tgx l (iSeq X.K tl) := by
  refine ⟨fun pins s σ H R I h => ?_⟩
  refine thn (hl.run pins s σ H _ I h) fun v s1 ⟨x, H1, I1, r1, q1⟩ => ?_
  obtain ⟨a, e, q1⟩ := q1
  subst e
  rcases q1 with ⟨⟨xs, hq⟩, q⟩ | ⟨⟨xs, hq⟩, q⟩
  · have h1 : PI { X with xe := X.xe } tgx l (iList X.K (fun σ H Q => Q (.ref a) H)) → True := fun _ => trivial
    cases r1
    obtain ⟨its, rv, p, hz⟩ := I1.list hq
    refine wpAny_pyIter_list p.isList ?_
    refine ⟨s1.heap.objs.size, [s1.heap.objs.size], _, _, H1, rfl, I1.kept (t' := s1.toks) fun b o e => Heap.get?_push_of_some _ e, turn_list a _, ⟨_, Heap.get?_push_size _ rfl, rfl, rfl⟩, fun b hb => ?_, q⟩
    have e : b = s1.heap.objs.size := by simpa using hb
    subst e
    exact I1.fpOk (Nat.le_refl _) (I1.hok.fresh (Nat.le_refl _))
  · cases r1
    obtain ⟨its, rv, p, hz⟩ := I1.tuple hq
    refine wpAny_pyIter_tuple (show s1.heap.IsTuple a its.toArray from p) ?_
    refine ⟨s1.heap.objs.size, [s1.heap.objs.size], _, _, H1, rfl, I1.kept (t' := s1.toks) fun b o e => Heap.get?_push_of_some _ e, turn_tuple a _, ⟨_, Heap.get?_push_size _ rfl, rfl, rfl⟩, fun b hb => ?_, q⟩
    have e : b = s1.heap.objs.size := by simpa using hb
    subst e
    exact I1.fpOk (Nat.le_refl _) (I1.hok.fresh (Nat.le_refl _))
theorem pid_seq (he : PE X e (upE X.K te)) : PI X tgx e (upI X.K (wSeq te)) := by
  refine PI_weak (pi_seq he) fun σ H R ⟨δ, g, P, rs, rg, h, k⟩ => ⟨δ, g, _, rs, rg, h, fun d g1 v H1 e1 rg1 rd p => ?_⟩
  cases rd with
  | tup hs hr => exact ⟨_, rfl, .inr ⟨⟨_, SqT.of hs⟩, k _ _ _ _ e1 rg1 (dwalk_tup (SqT.of hs) hr) p⟩⟩
  | lst hs hr => exact ⟨_, rfl, .inl ⟨⟨_, hs.sq⟩, k _ _ _ _ e1 rg1 (dwalk_list hs hr) p⟩⟩
  | scr hs => exact ⟨_, rfl, .inl ⟨⟨_, hs.sq⟩, k _ _ _ _ e1 rg1 (dwalk_st (fun _ k => (k.sc hs).sq) (RDs.ofInts _)) p⟩⟩
  | tpl hs hr => exact ⟨_, rfl, .inr ⟨⟨_, hs.sq⟩, k _ _ _ _ e1 rg1 (dwalk_tup hs.sq hr) p⟩⟩
  | _ => exact False.elim p
/-- lo, lo + 1, .. -/
def rangeD (lo : Int) (n : Nat) : List DV := (List.range n).map fun (i : Nat) => DV.int (lo + i)
theorem dwalk_range {K : Fg} {H : Hp} {lo : Int} {n : Nat} : DWalk K (Itr lo n) (rangeD lo n) H := by
  have hl : (rangeD lo n).length = n := by simp [rangeD]
  refine ⟨fun i H' hi _ => by rw [hl] at hi; exact hi, fun H' _ => by rw [hl]; exact Nat.le_refl _, fun i H1 x H' d hd _ y => ?_⟩
  obtain ⟨e, y⟩ := y
  subst e y
  have hi : i < n := by rw [← hl]; exact (List.getElem?_eq_some_iff.mp hd).1
  have : d = .int (lo + i) := by simp [rangeD, hi] at hd; exact hd.symm
  subst this
  exact ⟨.inl rfl, .int _⟩
def rngOk (i j : Int) : Prop := -(2 ^ 62) ≤ i ∧ i < 2 ^ 62 ∧ -(2 ^ 62) ≤ j ∧ j < 2 ^ 62
def one1 (F : DV → DG → Prop) : List DV → DG → Prop := fun xs g => match xs with | [x] => F x g | _ => False
def one2 (F : DV → DV → DG → Prop) : List DV → DG → Prop := fun xs g => match xs with | [x, y] => F x y g | _ => False
def one3 (F : DV → DV → DV → DG → Prop) : List DV → DG → Prop := fun xs g => match xs with | [x, y, z] => F x y z g | _ => False
theorem one1_of {K : Fg} {H : Hp} {F : DV → DG → Prop} {xs : List DV} {vs : List V} {g : DG} (r : RDs K H xs vs) (h : one1 F xs g) : ∃ x v, xs = [x] ∧ vs = [v] ∧ RD K H x v ∧ F x g := by
  match xs, vs, r with
  | [x], [v], .cons r .nil => exact ⟨x, v, rfl, rfl, r, h⟩
  | [], _, _ => exact False.elim h
  | _ :: _ :: _, _, _ => exact False.elim h
theorem one2_of {K : Fg} {H : Hp} {F : DV → DV → DG → Prop} {xs : List DV} {vs : List V} {g : DG} (r : RDs K H xs vs) (h : one2 F xs g) : ∃ x y v u, xs = [x, y] ∧ vs = [v, u] ∧ RD K H x v ∧ RD K H y u ∧ F x y g := by
  match xs, vs, r with
  | [x, y], [v, u], .cons r (.cons r' .nil) => exact ⟨x, y, v, u, rfl, rfl, r, r', h⟩
  | [], _, _ => exact False.elim h
  | [_], _, _ => exact False.elim h
  | _ :: _ :: _ :: _, _, _ => exact False.elim h
theorem one3_of {K : Fg} {H : Hp} {F : DV → DV → DV → DG → Prop} {xs : List DV} {vs : List V} {g : DG} (r : RDs K H xs vs) (h : one3 F xs g) : ∃ x y z v u w, xs = [x, y, z] ∧ vs = [v, u, w] ∧ RD K H x v ∧ RD K H y u ∧ RD K H z w ∧ F x y z g := by
  match xs, vs, r with
  | [x, y, z], [v, u, w], .cons r (.cons r' (.cons r'' .nil)) => exact ⟨x, y, z, v, u, w, rfl, rfl, r, r', r'', h⟩
  | [], _, _ => exact False.elim h
  | [_], _, _ => exact False.elim h
  | [_, _], _, _ => exact False.elim h
  | _ :: _ :: _ :: _ :: _, _, _ => exact False.elim h
def wRng1 (t : TDA) : TDI := fun δ g R => t δ g (one1 fun x g1 => match x with | .int j => rngOk 0 j ∧ R (rangeD 0 j.toNat) g1 | _ => False)
def wRng2 (t : TDA) : TDI := fun δ g R => t δ g (one2 fun x y g1 => match x, y with | .int i, .int j => rngOk i j ∧ R (rangeD i (j - i).toNat) g1 | _, _ => False)
theorem pid_range1 {a : Expr} {p : Pos} (hm : X.mg "range" = none) (ha : PA X [a] (upA X.K t)) (hg : Gl X "range" := by rfl) (hs : starEach [a] X.env = [(false, eval a X.env)] := by rfl) : PI X tgx (.Call (.Name "range" p) [a] [] pos) (upI X.K (wRng1 t)) := by
  refine PI_weak (pi_range1 hg hm ha hs) fun σ H R ⟨δ, g, P, rs, rg, h, k⟩ => ⟨δ, g, _, rs, rg, h, fun xs g1 vs H1 e1 rg1 rd p => ?_⟩
  obtain ⟨x, v, rfl, rfl, r, p⟩ := one1_of rd p
  split at p
  · cases r
    exact ⟨_, rfl, p.1.2.2.1, p.1.2.2.2, k _ _ _ _ e1 rg1 dwalk_range p.2⟩
  · exact p.elim
/-- i, i - 1, .., j + 1 -/
def downD (i : Int) (n : Nat) : List DV := (List.range n).map fun (m : Nat) => DV.int (i + (m : Int) * (-1))
def wRngD (t : TDA) : TDI := fun δ g R => t δ g (one3 fun x y z g1 => match x, y, z with | .int i, .int j, .int c => (rngOk i j ∧ c = -1) ∧ R (downD i (i - j).toNat) g1 | _, _, _ => False)
theorem dwalk_down {K : Fg} {H : Hp} {i : Int} {n : Nat} : DWalk K (Itc i (-1) n) (downD i n) H := by
  have hl : (downD i n).length = n := by simp [downD]
  refine ⟨fun i H' hi _ => by rw [hl] at hi; exact hi, fun H' _ => by rw [hl]; exact Nat.le_refl _, fun m H1 x H' d hd _ y => ?_⟩
  obtain ⟨e, y⟩ := y
  subst e y
  have hi : m < n := by rw [← hl]; exact (List.getElem?_eq_some_iff.mp hd).1
  have : d = .int (i + (m : Int) * (-1)) := by simp [downD, hi] at hd; rw [← hd]; congr 1; omega
  subst this
  exact ⟨.inl rfl, .int _⟩
theorem pid_rangeD {a b c : Expr} {p : Pos} (hm : X.mg "range" = none) (ha : PA X [a, b, c] (upA X.K t)) (hg : Gl X "range" := by rfl)
    (hs : starEach [a, b, c] X.env = (false, eval a X.env) :: starEach [b, c] X.env := by rfl) (hpl : (backTo pos (starEach [b, c] X.env)).any (·.1) = false := by rfl) : PI X tgx (.Call (.Name "range" p) [a, b, c] [] pos) (upI X.K (wRngD t)) := by
  refine PI_weak (pi_range3 hg hm ha hs hpl) fun σ H R ⟨δ, g, P, rs, rg, h, k⟩ => ⟨δ, g, _, rs, rg, h, fun xs g1 vs H1 e1 rg1 rd p => ?_⟩
  obtain ⟨x, y, z, v, u, w, rfl, rfl, r, r', r'', p⟩ := one3_of rd p
  split at p
  · cases r; cases r'; cases r''
    obtain ⟨⟨⟨o1, o2, o3, o4⟩, ec⟩, pp⟩ := p
    subst ec
    exact ⟨_, _, _, _, rfl, RgC.neg o1 o2 o3 o4, k _ _ _ _ e1 rg1 dwalk_down pp⟩
  · exact p.elim
/-- zip of two tuples or two lists -/
def zipD : List DV → List DV → List DV
  | x :: xs, y :: ys => .tup [x, y] :: zipD xs ys
  | _, _ => []
theorem zipD_len : ∀ xs ys : List DV, (zipD xs ys).length = min xs.length ys.length
  | [], _ => by simp [zipD]
  | _ :: _, [] => by simp [zipD]
  | x :: xs, y :: ys => by simp only [zipD, List.length_cons, zipD_len xs ys]; omega
theorem zipD_get : ∀ {xs ys : List DV} {i : Nat} {d : DV}, (zipD xs ys)[i]? = some d → ∃ x y, xs[i]? = some x ∧ ys[i]? = some y ∧ d = .tup [x, y]
  | [], _, _, _, h => by simp [zipD] at h
  | _ :: _, [], _, _, h => by simp [zipD] at h
  | x :: xs, y :: ys, 0, d, h => by simp [zipD] at h; exact ⟨x, y, rfl, rfl, h.symm⟩
  | x :: xs, y :: ys, i + 1, d, h => by
    obtain ⟨x', y', h1, h2, h3⟩ := zipD_get (xs := xs) (ys := ys) (i := i) (by simpa [zipD] using h)
    exact ⟨x', y', by simpa using h1, by simpa using h2, h3⟩
def wZip (t : TDA) : TDI := fun δ g R => t δ g (one2 fun x y g1 => match x, y with
  | .tup xs, .tup ys => R (zipD xs ys) g1
  | .lst xs, .lst ys => R (zipD xs ys) g1
  | .tpl xs, .tup ys => R (zipD xs ys) g1
  | .tpl xs, .tpl ys => R (zipD xs ys) g1
  | _, _ => False)
theorem dwalk_zipL {K : Fg} {H : Hp} {a b : Addr} {xs ys : List DV} {vs us : List V} (ha : FzL K H a vs) (hb : FzL K H b us) (ra : RDs K H xs vs) (rb : RDs K H ys us) : DWalk K (Itz K a b) (zipD xs ys) H := by
  have l1 := ra.length
  have l2 := rb.length
  have hl := zipD_len xs ys
  refine ⟨fun i H' hi k => ?_, fun H' k => ⟨vs, us, (k.fz ha).sq, (k.fz hb).sq, by omega⟩, fun i H1 x H' d hd k y => ?_⟩
  · have h1 : i < vs.length := by omega
    have h2 : i < us.length := by omega
    exact ⟨vs, us, vs[i], us[i], (k.fz ha).sq, (k.fz hb).sq, by simp [h1], by simp [h2]⟩
  · obtain ⟨T, v, u, h1, h2, h3, h4, h5⟩ := y
    obtain ⟨x, y, e1, e2, rfl⟩ := zipD_get hd
    have q1 := h4 vs (k.fz ha).sq
    have q2 := h5 us (k.fz hb).sq
    obtain ⟨v', e1', r1⟩ := ra.get e1
    obtain ⟨u', e2', r2⟩ := rb.get e2
    rw [q1] at e1'; cases e1'
    rw [q2] at e2'; cases e2'
    have kk : Kp H1 H' := by rw [h3]; exact Kp.fresh h2
    refine ⟨.inr ⟨T, _, h2, h3⟩, ?_⟩
    rw [h1]
    refine .tup (by rw [h3]; exact upd_same) (.cons ((r1.mono k).mono kk) (.cons ((r2.mono k).mono kk) .nil))
theorem dwalk_zipT {K : Fg} {H : Hp} {a b : Addr} {xs ys : List DV} {vs us : List V} (ha : SqT K H a vs) (hb : SqT K H b us) (ra : RDs K H xs vs) (rb : RDs K H ys us) : DWalk K (RZ.ItzT K a b) (zipD xs ys) H := by
  have l1 := ra.length
  have l2 := rb.length
  have hl := zipD_len xs ys
  refine ⟨fun i H' hi k => ?_, fun H' k => ⟨vs, us, k.sqT ha, k.sqT hb, by omega⟩, fun i H1 x H' d hd k y => ?_⟩
  · have h1 : i < vs.length := by omega
    have h2 : i < us.length := by omega
    exact ⟨vs, us, vs[i], us[i], k.sqT ha, k.sqT hb, by simp [h1], by simp [h2]⟩
  · obtain ⟨T, v, u, h1, h2, h3, h4, h5⟩ := y
    obtain ⟨x, y, e1, e2, rfl⟩ := zipD_get hd
    have q1 := h4 vs (k.sqT ha)
    have q2 := h5 us (k.sqT hb)
    obtain ⟨v', e1', r1⟩ := ra.get e1
    obtain ⟨u', e2', r2⟩ := rb.get e2
    rw [q1] at e1'; cases e1'
    rw [q2] at e2'; cases e2'
    have kk : Kp H1 H' := by rw [h3]; exact Kp.fresh h2
    refine ⟨.inr ⟨T, _, h2, h3⟩, ?_⟩
    rw [h1]
    refine .tup (by rw [h3]; exact upd_same) (.cons ((r1.mono k).mono kk) (.cons ((r2.mono k).mono kk) .nil))
theorem pid_zip {elts : List Expr} {kk : Nat} {p tpos : Pos} (hm : X.mg "zip" = none) (ha : PA X [e, e2] (upA X.K t)) (hg : Gl X "zip" := by rfl) (hs : starEach [e, e2] X.env = (false, eval e X.env) :: starEach [e2] X.env := by rfl) (hpl : (backTo pos (starEach [e2] X.env)).any (·.1) = false := by rfl) :
    PI X (.Tuple elts kk tpos) (.Call (.Name "zip" p) [e, e2] [] pos) (upI X.K (wZip t)) := by
  refine PI_weak (RZ.pi_zipA hg hm ha hs hpl) fun σ H R ⟨δ, g, P, rs, rg, h, k⟩ => ⟨δ, g, _, rs, rg, h, fun xs g1 vs H1 e1 rg1 rd p => ?_⟩
  obtain ⟨x, y, v, u, rfl, rfl, r, r', p⟩ := one2_of rd p
  split at p
  · cases r with
    | tup hs hr => cases r' with
      | tup hs' hr' => exact ⟨_, _, _, _, rfl, .inr ⟨SqT.of hs, SqT.of hs', k _ _ _ _ e1 rg1 (dwalk_zipT (SqT.of hs) (SqT.of hs') hr hr') p⟩⟩
  · cases r with
    | lst hs hr => cases r' with
      | lst hs' hr' => exact ⟨_, _, _, _, rfl, .inl ⟨hs.sq, hs'.sq, k _ _ _ _ e1 rg1 (dwalk_zipL hs hs' hr hr') p⟩⟩
  · cases r with
    | tpl hs hr => cases r' with
      | tup hs' hr' => exact ⟨_, _, _, _, rfl, .inr ⟨hs.sq, SqT.of hs', k _ _ _ _ e1 rg1 (dwalk_zipT hs.sq (SqT.of hs') hr hr') p⟩⟩
  · cases r with
    | tpl hs hr => cases r' with
      | tpl hs' hr' => exact ⟨_, _, _, _, rfl, .inr ⟨hs.sq, hs'.sq, k _ _ _ _ e1 rg1 (dwalk_zipT hs.sq hs'.sq hr hr') p⟩⟩
  · exact p.elim

/-! ### comprehensions -/
def wipeD (δ : DS) : List Nat → DS
  | [] => δ
  | v :: vs => (wipeD δ vs).set v none
theorem RS.wipe {K : Fg} {H : Hp} {δ : DS} {σ : L2.St} (r : RS K H δ σ) : ∀ vs : List Nat, RS K H (wipeD δ vs) (wipe σ vs)
  | [] => r
  | v :: vs => (RS.wipe r vs).unset v
def dComp (tg : Tg) (own : List Nat) (tt : TDT) (te : TDE) (δ : DS) : List DV → DG → (List DV → DG → Prop) → Prop
  | [], g, Q => Q [] g
  | d :: ds, g, Q => match bindT tg d (wipeD δ own) with
    | some δ2 => tt δ2 g fun b g3 => if b = true then te δ2 g3 fun y g4 => dComp tg own tt te δ ds g4 fun ys g5 => Q (y :: ys) g5 else dComp tg own tt te δ ds g3 Q
    | none => False
/-- the list that comes is changed by no one -/
def dLc (wi : TDI) (tg : Tg) (own : List Nat) (tt : TDT) (te : TDE) : TDE := fun δ g Q => wi δ g fun ds g1 => ds.length ≤ sizeLine ∧ dComp tg own tt te δ ds g1 fun ys g2 => Q (.lst ys) g2
/-- .. may be changed -/
def dLcM (wi : TDI) (tg : Tg) (own : List Nat) (tt : TDT) (te : TDE) : TDE := fun δ g Q => wi δ g fun ds g1 => ds.length ≤ sizeLine ∧ dComp tg own tt te δ ds g1 fun ys g2 => ∀ p, g2 p = none → Q (.ref p) (gup g2 p (.lst ys))
theorem wipe_wipe (σ : L2.St) : ∀ vs : List Nat, wipe (wipe σ vs) vs = wipe σ vs
  | [] => rfl
  | v :: vs => by
    show (wipe ((wipe σ vs).set v none) vs).set v none = (wipe σ vs).set v none
    by_cases h : v ∈ vs
    · rw [wipe_set h, wipe_wipe σ vs]
    · rw [wipe_set.wipe_comm h, wipe_wipe σ vs, List.set_set]
theorem lc_up {K : Fg} {wi : TDI} {tg : Tg} {own : List Nat} {tt : TDT} {tel : TDE} {δ : DS} {g : DG} {σ : L2.St} {H : Hp} {P : List DV → DG → Prop} {Q : VK} (hix : ∀ i ∈ tg.ix, i ∈ own) (rs : RS K H δ σ) (rg : RG K H g)
    (h : wi δ g fun ds g1 => ds.length ≤ sizeLine ∧ dComp tg own tt tel δ ds g1 P)
    (k : ∀ D ys vs g' H', Ext g H g' H' → RG K H' g' → g' D = none → (∀ o, H D = some o → g D = none → ¬ OwnO o → False) → H' D = some (.lst vs) → RDs K H' ys vs → P ys g' → Q (.ref D) H') :
    tLc (upI K wi) (tgG K tg) (upT K tt) (upE K tel) own σ H Q := by
  refine ⟨δ, g, _, rs, rg, h, fun ds g1 J H1 e1 rg1 dw p D hD => ?_⟩
  obtain ⟨hlen, p⟩ := p
  have hD0 : ∀ o, H D = some o → g D = none → ¬ OwnO o → False := fun o q n w => by
    have := (e1 D o q n w).1
    rw [hD] at this; cases this
  have k1 : Kp H1 (upd H1 D (.lst [])) := Kp.fresh hD
  refine ⟨fun i m H' => m = ds.length - i ∧ i ≤ ds.length ∧ Kp H1 H' ∧ ∃ (acc : List DV) (accV : List V) (g' : DG), Ext g H g' H' ∧ RG K H' g' ∧ g' D = none ∧ H' D = some (.lst accV) ∧ RDs K H' acc accV ∧ acc.length ≤ i ∧
    dComp tg own tt tel δ (ds.drop i) g' fun ys g2 => P (acc ++ ys) g2, ⟨ds.length, rfl, Nat.zero_le _, k1, [], [], g1, e1.trans (Ext.fresh rg1 hD), rg1.fresh hD, rg1.none hD, upd_same, .nil, Nat.le_refl _, p⟩, ?_⟩
  rintro i m H2 ⟨rfl, hi, kp2, acc, accV, g2, e2, rg2, gD, hD2, ra, hacc, q⟩
  by_cases hlt : i < ds.length
  · have hd : ds.drop i = ds[i] :: ds.drop (i + 1) := List.drop_eq_getElem_cons hlt
    rw [hd] at q
    have q' : (match bindT tg ds[i] (wipeD δ own) with
      | some δ2 => tt δ2 g2 fun b g3 => if b = true then tel δ2 g3 fun y g4 => dComp tg own tt tel δ (ds.drop (i + 1)) g4 fun ys g5 => P (acc ++ (y :: ys)) g5 else dComp tg own tt tel δ (ds.drop (i + 1)) g3 fun ys g2 => P (acc ++ ys) g2
      | none => False) := q
    refine .inr ⟨dw.goes i H2 hlt kp2, fun H' => Kp H1 H' ∧ ∃ (acc : List DV) (accV : List V) (g' : DG), Ext g H g' H' ∧ RG K H' g' ∧ g' D = none ∧ H' D = some (.lst accV) ∧ RDs K H' acc accV ∧ acc.length ≤ i + 1 ∧
      dComp tg own tt tel δ (ds.drop (i + 1)) g' fun ys g2 => P (acc ++ ys) g2, fun H' z => ⟨ds.length - (i + 1), by omega, rfl, hlt, z⟩, fun x H3 y => ?_⟩
    obtain ⟨st, rd⟩ := dw.yields i H2 x H3 ds[i] (by simp [hlt]) kp2 y
    split at q'
    · rename_i δ3 eb
      have rg3 := step_rg st rg2
      have e3 := step_ext st rg2
      have rs3 : RS K H3 (wipeD δ own) (wipe σ own) := ((rs.mono (e2.kp rg)).mono (step_kp st)).wipe own
      refine tg_run rd rs3 eb fun σ3 rsT hw => ⟨?_, ?_⟩
      · rw [hw own hix]
        exact wipe_wipe σ own
      · have hD3 : H3 D = some (.lst accV) := (e3 D _ hD2 gD fun z => z).1
        refine ⟨δ3, g2, _, rsT, rg3, q', fun b g4 H4 e4 rg4 z => ?_⟩
        have hD4 := e4 D _ hD3 gD fun z => z
        cases b with
        | false =>
          dsimp only
          rw [if_neg Bool.false_ne_true] at z ⊢
          exact ⟨(kp2.trans (step_kp st)).trans (e4.kp rg3), acc, accV, g4, (e2.trans e3).trans e4, rg4, hD4.2, hD4.1, (ra.mono (step_kp st)).mono (e4.kp rg3), by omega, z⟩
        | true =>
          dsimp only
          rw [if_pos rfl] at z ⊢
          refine ⟨δ3, g4, _, rsT.mono (e4.kp rg3), rg4, z, fun y g5 v H5 e5 rg5 rd5 w => ?_⟩
          have hD5 := e5 D _ hD4.1 hD4.2 fun z => z
          have la := ra.length
          refine ⟨accV, hD5.1, by omega, ?_⟩
          have km : Kp H5 (upd H5 D (.lst (accV ++ [v]))) := Kp.mut (by rw [hD5.1]; exact True.intro)
          refine ⟨(((kp2.trans (step_kp st)).trans (e4.kp rg3)).trans (e5.kp rg4)).trans km, acc ++ [y], accV ++ [v], g5, fun a o ha hn hw => ?_, fun a o ha => ?_, hD5.2, upd_same, ?_, by rw [List.length_append, List.length_singleton]; omega, ?_⟩
          · obtain ⟨z1, z2⟩ := ((e2.trans e3).trans (e4.trans e5)) a o ha hn hw
            refine ⟨?_, z2⟩
            rw [upd_ne (fun q => by subst q; exact hD0 o ha hn hw)]
            exact z1
          · have na : a ≠ D := fun q => by subst q; rw [hD5.2] at ha; cases ha
            exact (rg5 a o ha).keep km (upd_ne na)
          · exact ((((ra.mono (step_kp st)).mono (e4.kp rg3)).mono (e5.kp rg4)).mono km).append (.one (rd5.mono km))
          · have hw2 : (fun ys g2 => P (acc ++ [y] ++ ys) g2) = (fun ys g5 => P (acc ++ (y :: ys)) g5) := by
              funext ys g5
              rw [List.append_assoc]
              rfl
            rw [hw2]
            exact w
    · exact q'.elim
  · have ei : i = ds.length := by omega
    subst ei
    rw [List.drop_length] at q
    have q' : P (acc ++ []) g2 := q
    rw [List.append_nil] at q'
    exact .inl ⟨dw.stops H2 kp2, k D acc accV g2 H2 e2 rg2 gD hD0 hD2 ra q'⟩

theorem lock_ext {g g' : DG} {H H' : Hp} {D : Addr} {o : HO} (e : Ext g H g' H') (hD : ∀ o, H D = some o → g D = none → ¬ OwnO o → False) : Ext g H g' (upd H' D o) := fun a u ha hn hw => by
  obtain ⟨z1, z2⟩ := e a u ha hn hw
  exact ⟨by rw [upd_ne (fun q => by subst q; exact hD u ha hn hw)]; exact z1, z2⟩
theorem lock_rg {K : Fg} {g' : DG} {H' : Hp} {D : Addr} {o : HO} {vs : List V} (rg : RG K H' g') (gD : g' D = none) (hD : H' D = some (.lst vs)) : RG K (upd H' D o) g' := fun a u ha => by
  have na : a ≠ D := fun q => by subst q; rw [gD] at ha; cases ha
  exact (rg a u ha).keep (Kp.mut (by rw [hD]; exact True.intro)) (upd_ne na)
variable {elt iter : Expr} {ifs : List Expr} {scope : Scope} {own : List (Str × Nat)} {wi : TDI} {tg : Tg} {tt : TDT} {tel : TDE}
theorem pd_lc (hc : X.calm = true) (hN : X.N.Nodup) (hi : PI X tgx iter (upI X.K wi)) (ok : BlkOk X.N X.env.scope scope own)
    (hg : ∀ (s : Shared) (H : Hp) (C : Addr) (cl : List (Str × Addr)) (fp : List Addr), PG (X.blk s H scope (compEnvC scope cl C X.env) fp) tgx (tgG X.K tg)) (ht : ∀ (s : Shared) (H : Hp) (C : Addr) (cl : List (Str × Addr)) (fp : List Addr), PTs (X.blk s H scope (compEnvC scope cl C X.env) fp) ifs (upT X.K tt))
    (he : ∀ (s : Shared) (H : Hp) (C : Addr) (cl : List (Str × Addr)) (fp : List Addr), PE (X.blk s H scope (compEnvC scope cl C X.env) fp) elt (upE X.K tel)) (hix : ∀ i ∈ tg.ix, i ∈ own.map (·.2) := by decide) (hs : ∀ x, foldedSetIterable iter X.env x = pure x := by intro _; rfl) :
    PE X (.ListComp elt [⟨tgx, iter, ifs, 0⟩] scope pos) (upE X.K (dLc wi tg (own.map (·.2)) tt tel)) :=
  PE_weak (PE_fz (pe_lc hc hN hi ok hg ht he hs)) fun σ H Q ⟨δ, g, P, rs, rg, h, k⟩ => lc_up (P := fun ys g2 => P (.lst ys) g2) hix rs rg h fun D ys vs g' H' e rg' gD hD0 hD rd p =>
    .inr ⟨D, .lst vs, rfl, hD, trivial, fun o => k _ g' _ _ (lock_ext e hD0) (lock_rg rg' gD hD) (.lst ⟨o, upd_same⟩ (rd.mono (Kp.mut (by rw [hD]; exact True.intro)))) p⟩
/-! ### ghost step: a list that no one will change any more is by content from now on -/
def dvOf : DO → DV
  | .lst ds => .lst ds
  | .dK ks ds => .dK ks ds
  | .dT ks ds => .dT ks ds
  | .ins C ds => .ins C (ds.filterMap id)
  | .tbl _ => .non
/-- what may be locked: of an instance all slots are set -/
def frzC : DO → Prop
  | .ins _ ds => ds ≠ [] ∧ ds.all (·.isSome) = true
  | .tbl _ => False
  | _ => True
theorem slots_all {K : Fg} {H : Hp} : ∀ {ds : List (Option DV)} {vs : List (Option V)}, SlD K H ds vs → ds.all (·.isSome) = true → ∃ us : List V, vs = us.map some ∧ RDs K H (ds.filterMap id) us
  | [], [], _, _ => ⟨[], rfl, .nil⟩
  | [], _ :: _, h, _ => by have := h.1; simp at this
  | _ :: _, [], h, _ => by have := h.1; simp at this
  | d :: ds, v :: vs, h, ha => by
    rw [List.all_cons, Bool.and_eq_true] at ha
    obtain ⟨x, rfl⟩ := Option.isSome_iff_exists.mp ha.1
    obtain ⟨u, hu, ru⟩ := h.2 0 x rfl
    have hv : v = some u := Option.some.inj hu
    subst hv
    obtain ⟨us, e, r⟩ := slots_all (ds := ds) (vs := vs) ⟨by have := h.1; simpa using this, fun i d e => by simpa using h.2 (i + 1) d (by simpa using e)⟩ ha.2
    subst e
    exact ⟨u :: us, rfl, .cons ru r⟩
theorem ro_lock {K : Fg} {H : Hp} {p : Addr} {o : DO} (r : RO K H p o) (c : frzC o) : ∃ u, H p = some u ∧ (Mut (some u) ∧ Trk p (some u)) ∧ ∀ od, RD K (upd H p (.frz od u)) (dvOf o) (.ref p) := by
  cases o with
  | lst ds => obtain ⟨vs, e, r⟩ := r; exact ⟨_, e, ⟨trivial, trivial⟩, fun od => .lst ⟨od, upd_same⟩ (r.mono (Kp.mut (by rw [e]; exact True.intro)))⟩
  | dK ks ds => obtain ⟨vs, e, x, r⟩ := r; exact ⟨_, e, ⟨trivial, trivial⟩, fun od => .dK ⟨od, vs, upd_same, x, rfl⟩ (r.mono (Kp.mut (by rw [e]; exact True.intro)))⟩
  | dT ks ds => obtain ⟨vs, e, x, r⟩ := r; exact ⟨_, e, ⟨trivial, trivial⟩, fun od => .dT ⟨od, vs, upd_same, x, rfl⟩ (r.mono (Kp.mut (by rw [e]; exact True.intro)))⟩
  | ins C ds =>
    obtain ⟨dx, vs, ne, h | h, r⟩ := r
    · have := r.1
      rw [h.2, List.length_nil] at this
      exact absurd (List.length_eq_zero_iff.mp this) c.1
    · obtain ⟨us, e, rs⟩ := slots_all r c.2
      subst e
      exact ⟨_, h.1, ⟨trivial, slO_trk⟩, fun od => .ins ⟨od, dx, upd_same, by rw [upd_ne ne]; exact h.2⟩ (rs.mono (Kp.mut (by rw [h.1]; exact slO_trk)))⟩
  | tbl q => exact c.elim
def dFz (i : Nat) (t : TDS) : TDS := fun E δ g => match nth δ i with
  | some (.ref p) => match g p with
    | some o => frzC o ∧ t E (δ.set i (some (dvOf o))) (gdel g p)
    | none => False
  | _ => False
theorem pds_fz (i : Nat) {st : List Stmt} {t : TDS} (h : PSs X st (upS X.K t)) : PSs X st (upS X.K (dFz i t)) := by
  refine ⟨fun pins s σ H D I ⟨δ, g, E, rs, rg, q, k1, k2, k3, k4⟩ => ?_⟩
  unfold dFz at q
  split at q <;> first | exact q.elim | skip
  rename_i p ep
  split at q <;> first | exact q.elim | skip
  rename_i ds eg
  obtain ⟨fc, q⟩ := q
  obtain ⟨vs, hp, mu, rd⟩ := ro_lock (rg p _ eg) fc
  obtain ⟨o, I2⟩ := I.lock hp mu.1
  have km : Kp H (upd H p (.frz o vs)) := Kp.mut (by rw [hp]; exact mu.2)
  have ex : Ext g H (gdel g p) (upd H p (.frz o vs)) := fun a u ha hn _ => by
    have na : a ≠ p := fun z => by rw [z, eg] at hn; cases hn
    exact ⟨by rw [upd_ne na]; exact ha, by unfold gdel; rw [if_neg na]; exact hn⟩
  have rg2 : RG X.K (upd H p (.frz o vs)) (gdel g p) := fun a u ha => by
    unfold gdel at ha
    by_cases na : a = p
    · rw [if_pos na] at ha; cases ha
    · rw [if_neg na] at ha; exact (rg a u ha).keep km (upd_ne na)
  obtain ⟨v, hv, rv⟩ := rs.2 i _ (nth_get ep)
  cases rv
  have rs2 : RS X.K (upd H p (.frz o vs)) (δ.set i (some (dvOf ds))) σ := by
    have z := (rs.mono km).set i (d := dvOf ds) (v := .ref p) (rd o)
    have e : σ.set i (some (.ref p)) = σ := by
      obtain ⟨h1, h2⟩ := List.getElem?_eq_some_iff.mp hv
      rw [← h2]
      exact List.set_getElem_self h1
    rw [e] at z
    exact z
  exact h.run pins s σ _ D I2 ⟨_, _, E, rs2, rg2, q, fun δ' g' σ' H' e => k1 _ _ _ _ (ex.trans e), fun d g' v H' e => k2 _ _ _ _ (ex.trans e), fun δ' g' σ' H' e => k3 _ _ _ _ (ex.trans e), fun δ' g' σ' H' e => k4 _ _ _ _ (ex.trans e)⟩
end

/-! ### defs -/
def startD (N : List Str) (ds : List DV) : DS := ds.map some ++ List.replicate (N.length - ds.length) none
theorem start_rs {K : Fg} {H : Hp} {N : List Str} {ds : List DV} {vs : List V} (r : RDs K H ds vs) : RS K H (startD N ds) (L2.start N vs) := by
  have hl := r.length
  refine ⟨by simp [startD, L2.start, hl], fun i d h => ?_⟩
  unfold startD at h
  unfold L2.start
  by_cases hi : i < ds.length
  · rw [List.getElem?_append_left (by simpa using hi)] at h
    rw [List.getElem?_append_left (by simpa [← hl] using hi)]
    rw [List.getElem?_map] at h
    cases e : ds[i]? with
    | none => rw [e] at h; cases h
    | some x =>
      rw [e] at h
      cases h
      obtain ⟨v, h1, h2⟩ := r.get e
      exact ⟨v, by rw [List.getElem?_map, h1]; rfl, h2⟩
  · rw [List.getElem?_append_right (by simpa using Nat.le_of_not_lt hi)] at h
    have := List.mem_of_getElem? h
    rw [List.mem_replicate] at this
    cases this.2
/-- what a def leaves: garbage is dropped -/
def DRet (P : DV → DG → Prop) : DV → DG → Prop := fun d g => ∃ g', Sub g' g ∧ P d g'
theorem dret {P : DV → DG → Prop} {d : DV} {g : DG} (h : P d g) : DRet P d g := ⟨g, Sub.refl, h⟩
def dEnds (P : DV → DG → Prop) : DEnds := { nx := fun _ g' => DRet P .non g', rt := DRet P }
theorem fun_okD {P : Program} {w : World} {K : Fg} {mg : Str → Option Value} {base : Heap} {x qual : Str} {st : Stmt} {f : Addr} {fd : FuncData} {N ps : List Str} {k : Nat} {sp : SpD} (F : Fun K x qual st f fd) (S : FnScope N ps (defScope st))
    (len : ∀ ds g Q, sp ds g Q → ds.length = ps.length)
    (hbody : ∀ (cdv : Value) (A : Around) (outer : List Env) (s : Shared) (H : Hp) (E : XK), Room k (A.deeper (envOfC qual (defScope st) s.heap.objs.size f cdv)) →
      ∃ t : TDS, PSs (cxOf CX0 P w K mg base N qual (defScope st) f cdv A outer s H E).nox (defBody st) (upS K t) ∧ ∀ ds g Q, sp ds g Q → t (dEnds Q) (startD N ds) g) :
    FnOk P w K mg base CX0 (k + 1) f fd ps (upSp K sp) := by
  refine F.ok S (fun vs H Q E ⟨ds, g, R, rd, rg, h, _⟩ => by rw [← rd.length]; exact len _ _ _ h) fun cdv A outer s H vs Q E hr ⟨ds, g, R, rd, rg, h, k⟩ => ?_
  obtain ⟨t, ht, hq⟩ := hbody cdv A outer s H E hr
  refine ⟨_, ht, startD N ds, g, dEnds R, start_rs rd, rg, hq ds g R h, fun δ' g' σ' H' e rg' _ z => ?_, fun d g' v H' e rg' rv z => ?_, fun _ _ _ _ _ _ _ z => z, fun _ _ _ _ _ _ _ z => z⟩
  · obtain ⟨g2, su, z⟩ := z
    exact k _ g2 _ _ (su.ext e) (su.rg rg') .non z
  · obtain ⟨g2, su, z⟩ := z
    exact k _ g2 _ _ (su.ext e) (su.rg rg') rv z
end DL

/-! Deep layer E: operators and built-ins over contents. -/
namespace DL
open PySem PySem.Spec PyProof.Rows L2

/-! ### content as data -/
mutual
def DV.py : DV → PyData
  | .non => .none
  | .bl b => .bool b
  | .int i => .int i
  | .str x => .str x
  | .tup ds => .tuple (pyAll ds)
  | .lst ds => .list (pyAll ds)
  | .ref _ => .none
  | .ty _ => .none
  | .scr _ => .none
  | .dK _ _ => .none
  | .dT _ _ => .none
  | .ins _ _ => .none
  | .exc _ _ _ _ => .none
  | .lam _ _ _ _ _ => .none
  | .tpl ds => .tuple (pyAll ds)
def pyAll : List DV → List PyData
  | [] => []
  | d :: ds => d.py :: pyAll ds
end
mutual
/-- no address, no class within -/
def DV.pl : DV → Bool
  | .tup ds => plAll ds
  | .lst ds => plAll ds
  | .ref _ => false
  | .ty _ => false
  | .scr _ => false
  | .dK _ _ => false
  | .dT _ _ => false
  | .ins _ _ => false
  | .exc _ _ _ _ => false
  | .lam _ _ _ _ _ => false
  | .tpl ds => plAll ds
  | _ => true
def plAll : List DV → Bool
  | [] => true
  | d :: ds => d.pl && plAll ds
end
mutual
theorem RD.dp {K : Fg} {H : Hp} : ∀ {d : DV} {v : V}, RD K H d v → d.pl = true → Dp K H v d.py
  | _, _, .non, _ => .non
  | _, _, .bl b, _ => .bl b
  | _, _, .int i, _ => .int i
  | _, _, .str x, _ => .str x
  | _, _, .ref a, h => by cases h
  | _, _, .ty n, h => by cases h
  | _, _, .scr _, h => by cases h
  | _, _, .dK _ _, h => by cases h
  | _, _, .dT _ _, h => by cases h
  | _, _, .ins _ _, h => by cases h
  | _, _, .tup hs r, h => .tup (SqT.of hs) (RDs.dp r h)
  | _, _, .lst hs r, h => .lst hs.sq (RDs.dp r h)
  | _, _, .exc _ _, h => by cases h
  | _, _, .lam _ _, h => by cases h
  | _, _, .tpl hs r, h => .tup hs.sq (RDs.dp r h)
theorem RDs.dp {K : Fg} {H : Hp} : ∀ {ds : List DV} {vs : List V}, RDs K H ds vs → plAll ds = true → DpAll K H vs (pyAll ds)
  | _, _, .nil, _ => .nil
  | _, _, .cons r t, h => by
    rw [plAll, Bool.and_eq_true] at h
    exact .cons (RD.dp r h.1) (RDs.dp t h.2)
end
/-- == of content -/
def eqD (x y : DV) : Bool := PyData.eqv x.py y.py
def okD (x : DV) : Bool := x.pl && SeqAt.shaped x.py

section
variable {X : Cx}
/-! ### arithmetic -/
def rrAdd : RR2 := fun x y g P => match x, y with
  | .int i, .int j => P (.int (i + j))
  | .str i, .str j => i.length + j.length ≤ sizeLine ∧ P (.str (i ++ j))
  | .tup xs, .tup ys => xs.length + ys.length ≤ sizeLine ∧ P (.tup (xs ++ ys))
  | .lst xs, .lst ys => xs.length + ys.length ≤ sizeLine ∧ P (.lst (xs ++ ys))
  | _, _ => False
theorem Inv.lstR {pins : List (Addr × Obj)} {σ : L2.St} {H : Hp} {s : Shared} {l : Addr} {xs : List V} (I : Inv X pins σ H s) (h : Rd H l (.lst xs)) : xs.length ≤ sizeLine ∧ ∃ (its : List Value) (n : Nat), Vals xs its ∧ xs.length = its.length ∧ s.heap.get? l = some { cls := .type "list", data := .seq its.toArray n } := by
  obtain ⟨z, its, n, r, e⟩ := h.ok I.hok
  exact ⟨z, its, n, r, r.length, e⟩
def rCatF : R2 := fun x y H Q => ∃ l b xs zs, x = .ref l ∧ y = .ref b ∧ Rd H l (.lst xs) ∧ Rd H b (.lst zs) ∧ xs.length + zs.length ≤ sizeLine ∧ ∀ p, H p = none → Q (.ref p) (upd H p (.lst (xs ++ zs)))
theorem op_catF : OpR X (binaryOp .Add) rCatF := by
  intro pins s σ H x y v u Q I rx ry h
  obtain ⟨l, b, xs, zs, rfl, rfl, hH, hB, hz, q⟩ := h
  cases rx
  cases ry
  obtain ⟨z, its, n, r, hl, e⟩ := Inv.lstR I hH
  obtain ⟨z2, its2, n2, r2, hl2, e2⟩ := Inv.lstR I hB
  refine PySem.P.add_list e e2 ?_ (by rw [List.size_toArray, List.size_toArray]; omega)
  have ea : its.toArray ++ its2.toArray = (its ++ its2).toArray := by simp
  rw [ea]
  exact ⟨.ref _, _, I.lnew (t' := s.toks) (r.append r2) (by rw [List.length_append]; omega), rfl, q _ I.fresh⟩
theorem fz_lift {g : DG} {H : Hp} {Q : VK} {P : DV → Prop} {K : Fg} (rg : RG K H g) (k : ∀ z w H', Ext g H g H' → RG K H' g → RD K H' z w → P z → Q w H') {ds : List DV} {vs : List V} (rd : RDs K H ds vs) (h : P (.lst ds)) (p : Addr) (hp : H p = none) :
    fz Q (.ref p) (upd H p (.lst vs)) := .inr ⟨p, .lst vs, rfl, upd_same, trivial, fun o => by
  rw [upd_upd]
  exact k _ _ _ (Ext.fresh rg hp) (rg.fresh hp) (.lst ⟨o, upd_same⟩ (rd.mono (Kp.fresh hp))) h⟩
theorem tup_lift {g : DG} {H : Hp} {Q : VK} {P : DV → Prop} {K : Fg} (rg : RG K H g) (k : ∀ z w H', Ext g H g H' → RG K H' g → RD K H' z w → P z → Q w H') {ds : List DV} {vs : List V} (rd : RDs K H ds vs) (h : P (.tup ds)) (p : Addr) (hp : H p = none) :
    fz Q (.ref p) (upd H p (.tup vs)) := .inl (k _ _ _ (Ext.fresh rg hp) (rg.fresh hp) (.tup upd_same (rd.mono (Kp.fresh hp))) h)
def RAdd (K : Fg) : R2 := fun x y H Q => (rI0 (fun i j => .int (i + j)) x y H Q ∨ (∃ i j, x = .str i ∧ y = .str j ∧ i.length + j.length ≤ sizeLine ∧ Q (.str (i ++ j)) H)) ∨ (rCatA K x y H Q ∨ rCatF x y H Q)
theorem op_addD : OpR X (binaryOp .Add) (RAdd X.K) := (op_add.or op_add_str).or (op_catA.or op_catF)
theorem ref_add {K : Fg} : RefOp K rrAdd (RAdd K) := by
  intro x y P v u H g Q rg rx ry k h
  unfold rrAdd at h
  split at h
  · cases rx; cases ry
    exact .inl (.inl ⟨_, _, rfl, rfl, .inl (k _ _ H Ext.refl rg (.int _) h)⟩)
  · cases rx; cases ry
    exact .inl (.inr ⟨_, _, rfl, rfl, h.1, .inl (k _ _ H Ext.refl rg (.str _) h.2)⟩)
  · cases rx with
    | tup hs hr =>
    cases ry with
    | tup hs' hr' =>
    rename_i ds es a vs b us
    refine .inr (.inl ⟨_, _, vs, us, rfl, rfl, SqT.of hs, SqT.of hs', by rw [← hr.length, ← hr'.length]; exact h.1, fun e => ?_, fun ne e => ?_, fun _ _ p hp => tup_lift rg k (hr.append hr') h.2 p hp⟩)
    · subst e
      cases hr
      exact .inl (k _ _ H Ext.refl rg (.tup hs' hr') h.2)
    · subst e
      cases hr'
      refine .inl (k _ _ H Ext.refl rg (.tup hs hr) ?_)
      have := h.2
      rw [List.append_nil] at this
      exact this
  · cases rx with
    | lst hs hr =>
    cases ry with
    | lst hs' hr' =>
    obtain ⟨o, e⟩ := hs
    obtain ⟨o', e'⟩ := hs'
    exact .inr (.inr ⟨_, _, _, _, rfl, rfl, .inr ⟨o, e⟩, .inr ⟨o', e'⟩, by rw [← hr.length, ← hr'.length]; exact h.1, fun p hp => fz_lift rg k (hr.append hr') h.2 p hp⟩)
  · exact h.elim
/-- two ints under a condition -/
def rrI (C : Int → Int → Prop) (f : Int → Int → DV) : RR2 := fun x y _ P => match x, y with
  | .int i, .int j => C i j ∧ P (f i j)
  | _, _ => False
theorem ref_rI {K : Fg} {C : Int → Int → Prop} {f : Int → Int → Int} : RefOp K (rrI C fun i j => .int (f i j)) (rI C fun i j => .int (f i j)) := by
  intro x y P v u H g Q rg rx ry k h
  unfold rrI at h
  split at h
  · cases rx; cases ry
    exact ⟨_, _, rfl, rfl, h.1, .inl (k _ _ H Ext.refl rg (.int _) h.2)⟩
  · exact h.elim
def TT2 (_ _ : Int) : Prop := True
theorem op_subC : OpR X (binaryOp .Sub) (rI TT2 fun i j => .int (i - j)) := fun pins s σ H x y v u Q I rx ry ⟨i, j, h1, h2, _, q⟩ => op_sub pins s σ H x y v u Q I rx ry ⟨i, j, h1, h2, q⟩
abbrev rrSub : RR2 := rrI TT2 fun i j => .int (i - j)
abbrev rrMul : RR2 := rrI CMulW fun i j => .int (i * j)
abbrev rrFdiv : RR2 := rrI CDivW fun i j => .int (i / j)
abbrev rrMod : RR2 := rrI (fun _ j => 0 < j) fun i j => .int (i % j)
def CPowW (i j : Int) : Prop := 0 ≤ j ∧ (Builtin.Int.intBits i : Int) * j ≤ 2 ^ 27
theorem op_powW : OpR X (binaryOp .Pow) (rI CPowW fun i j => .int (i ^ j.toNat)) := opI fun _ _ _ _ _ _ _ hc q => PyProof.Rows.pow_int hc.1 hc.2 q
abbrev rrPow : RR2 := rrI CPowW fun i j => .int (i ^ j.toNat)
variable {pos : Pos} {a b : Expr} {ta tb : TDE}
theorem pd_add (ha : PE X a (upE X.K ta)) (hb : PE X b (upE X.K tb)) : PE X (.BinOp a .Add b pos) (upE X.K (dOp rrAdd ta tb)) := pd_op op_addD ref_add ha hb
theorem pd_sub (ha : PE X a (upE X.K ta)) (hb : PE X b (upE X.K tb)) : PE X (.BinOp a .Sub b pos) (upE X.K (dOp rrSub ta tb)) := pd_op op_subC ref_rI ha hb
theorem pd_fdiv (ha : PE X a (upE X.K ta)) (hb : PE X b (upE X.K tb)) : PE X (.BinOp a .FloorDiv b pos) (upE X.K (dOp rrFdiv ta tb)) := pd_op op_fdivW ref_rI ha hb
theorem pd_mod (ha : PE X a (upE X.K ta)) (hb : PE X b (upE X.K tb)) : PE X (.BinOp a .Mod b pos) (upE X.K (dOp rrMod ta tb)) := pd_op op_mod ref_rI ha hb
theorem pd_pow (ha : PE X a (upE X.K ta)) (hb : PE X b (upE X.K tb)) : PE X (.BinOp a .Pow b pos) (upE X.K (dOp rrPow ta tb)) := pd_op op_powW ref_rI ha hb
theorem pd_mulI (ha : PE X a (upE X.K ta)) (hb : PE X b (upE X.K tb)) : PE X (.BinOp a .Mult b pos) (upE X.K (dOp rrMul ta tb)) := pd_op op_mulW ref_rI ha hb

/-! ### comparisons -/
def rrCmp (f : Int → Int → Bool) : RR2 := fun x y _ P => match x, y with
  | .int i, .int j => P (.bl (f i j))
  | _, _ => False
theorem ref_cmp {K : Fg} {f : Int → Int → Bool} : RefCmp K (rrCmp f) (rI0 fun i j => .bl (f i j)) := by
  intro x y P v u H g Q rg rx ry k h
  unfold rrCmp at h
  split at h
  · cases rx; cases ry
    exact ⟨_, _, rfl, rfl, k _ h⟩
  · exact h.elim
def rrEq : RR2 := fun x y _ P => okD x = true ∧ okD y = true ∧ P (.bl (eqD x y))
def rrNe : RR2 := fun x y _ P => okD x = true ∧ okD y = true ∧ P (.bl (!eqD x y))
theorem ref_eq {K : Fg} : RefCmp K rrEq (rEqD K) := by
  intro x y P v u H g Q rg rx ry k ⟨h1, h2, h⟩
  unfold okD at h1 h2
  rw [Bool.and_eq_true] at h1 h2
  exact ⟨_, _, rx.dp h1.1, ry.dp h2.1, h1.2, h2.2, k _ h⟩
theorem ref_ne {K : Fg} : RefCmp K rrNe (rNeD K) := by
  intro x y P v u H g Q rg rx ry k ⟨h1, h2, h⟩
  unfold okD at h1 h2
  rw [Bool.and_eq_true] at h1 h2
  exact ⟨_, _, rx.dp h1.1, ry.dp h2.1, h1.2, h2.2, k _ h⟩
def rrIsN : RR2 := fun x y _ P => match y with | .non => P (.bl (match x with | .non => true | _ => false)) | _ => False
def rrNotN : RR2 := fun x y _ P => match y with | .non => P (.bl (match x with | .non => false | _ => true)) | _ => False
theorem ref_isN {K : Fg} : RefCmp K rrIsN (fun x y H Q => y = .non ∧ Q (.bl (decide (x = .non))) H) := by
  intro x y P v u H g Q rg rx ry k h
  unfold rrIsN at h
  split at h
  · cases ry
    refine ⟨rfl, ?_⟩
    cases rx <;> exact k _ h
  · exact h.elim
theorem ref_notN {K : Fg} : RefCmp K rrNotN (fun x y H Q => y = .non ∧ Q (.bl (!decide (x = .non))) H) := by
  intro x y P v u H g Q rg rx ry k h
  unfold rrNotN at h
  split at h
  · cases ry
    refine ⟨rfl, ?_⟩
    cases rx <;> exact k _ h
  · exact h.elim

/-! ### built-ins -/
def intsD : List DV → Option (List Int)
  | [] => some []
  | .int i :: ds => (intsD ds).map (i :: ·)
  | _ :: _ => none
theorem intsD_map : ∀ ns : List Int, intsD (ns.map DV.int) = some ns
  | [] => rfl
  | n :: ns => by rw [List.map_cons, intsD, intsD_map ns]; rfl
theorem intsD_of : ∀ {ds : List DV} {ns : List Int}, intsD ds = some ns → ds = ns.map DV.int
  | [], _, h => by cases h; rfl
  | d :: ds, ns, h => by
    cases d <;> first
      | (rename_i i; rw [intsD] at h
         cases e : intsD ds with
         | none => rw [e] at h; cases h
         | some ms => rw [e] at h; cases h; rw [intsD_of e]; rfl)
      | cases h
def blsD : List DV → Option (List Bool)
  | [] => some []
  | .bl i :: ds => (blsD ds).map (i :: ·)
  | _ :: _ => none
theorem blsD_of : ∀ {ds : List DV} {ns : List Bool}, blsD ds = some ns → ds = ns.map DV.bl
  | [], _, h => by cases h; rfl
  | d :: ds, ns, h => by
    cases d <;> first
      | (rename_i i; rw [blsD] at h
         cases e : blsD ds with
         | none => rw [e] at h; cases h
         | some ms => rw [e] at h; cases h; rw [blsD_of e]; rfl)
      | cases h
def rr1 (f : DV → DG → (DV → Prop) → Prop) : RRs := fun xs g P => match xs with | [x] => f x g P | _ => False
def rr2 (f : DV → DV → DG → (DV → Prop) → Prop) : RRs := fun xs g P => match xs with | [x, y] => f x y g P | _ => False
theorem rr1_of {K : Fg} {H : Hp} {f : DV → DG → (DV → Prop) → Prop} {xs : List DV} {vs : List V} {g : DG} {P : DV → Prop} (r : RDs K H xs vs) (h : rr1 f xs g P) : ∃ x v, xs = [x] ∧ vs = [v] ∧ RD K H x v ∧ f x g P := by
  match xs, vs, r with
  | [x], [v], .cons r .nil => exact ⟨x, v, rfl, rfl, r, h⟩
  | [], _, _ => exact False.elim h
  | _ :: _ :: _, _, _ => exact False.elim h
theorem rr2_of {K : Fg} {H : Hp} {f : DV → DV → DG → (DV → Prop) → Prop} {xs : List DV} {vs : List V} {g : DG} {P : DV → Prop} (r : RDs K H xs vs) (h : rr2 f xs g P) : ∃ x y v u, xs = [x, y] ∧ vs = [v, u] ∧ RD K H x v ∧ RD K H y u ∧ f x y g P := by
  match xs, vs, r with
  | [x, y], [v, u], .cons r (.cons r' .nil) => exact ⟨x, y, v, u, rfl, rfl, r, r', h⟩
  | [], _, _ => exact False.elim h
  | [_], _, _ => exact False.elim h
  | _ :: _ :: _ :: _, _, _ => exact False.elim h
def rrLen : RRs := rr1 fun x g P => match seqP g x with | some ds => P (.int ds.length) | none => False
theorem ref_len {K : Fg} : RefCall K rrLen (fun xs H Q => ∃ p ys, xs = [.ref p] ∧ (SqL K H p ys ∨ SqT K H p ys) ∧ Q (.int ys.length) H) := by
  intro xs P vs H g Q rg r k h
  obtain ⟨x, v, rfl, rfl, rx, h⟩ := rr1_of r h
  split at h
  · rename_i ds e
    obtain ⟨a, us, rfl, hq, hr⟩ := seqP_rd rg rx e
    exact ⟨a, us, rfl, hq, .inl (by rw [← hr.length]; exact k _ _ H Ext.refl rg (.int _) h)⟩
  · exact h.elim
def rrInt : RRs := rr1 fun x _ P => match x with | .int i => P (.int i) | .bl b => P (.int (if b then 1 else 0)) | _ => False
theorem ref_int {K : Fg} : RefCall K rrInt (fun xs H Q => (∃ i, xs = [.int i] ∧ Q (.int i) H) ∨ ∃ k, xs = [.bl k] ∧ Q (.int (if k then 1 else 0)) H) := by
  intro xs P vs H g Q rg r k h
  obtain ⟨x, v, rfl, rfl, rx, h⟩ := rr1_of r h
  split at h
  · cases rx; exact .inl ⟨_, rfl, .inl (k _ _ H Ext.refl rg (.int _) h)⟩
  · cases rx; exact .inr ⟨_, rfl, .inl (k _ _ H Ext.refl rg (.int _) h)⟩
  · exact h.elim
def rrAbs : RRs := rr1 fun x _ P => match x with | .int i => P (.int (if i < 0 then -i else i)) | _ => False
theorem ref_abs {K : Fg} : RefCall K rrAbs (fun xs H Q => ∃ i, xs = [.int i] ∧ Q (.int (if i < 0 then -i else i)) H) := by
  intro xs P vs H g Q rg r k h
  obtain ⟨x, v, rfl, rfl, rx, h⟩ := rr1_of r h
  split at h
  · cases rx; exact ⟨_, rfl, .inl (k _ _ H Ext.refl rg (.int _) h)⟩
  · exact h.elim
def rrII (f : Int → Int → Int) : RRs := rr2 fun x y _ P => match x, y with | .int i, .int j => P (.int (f i j)) | _, _ => False
theorem ref_II {K : Fg} {f : Int → Int → Int} : RefCall K (rrII f) (fun xs H Q => ∃ i j, xs = [.int i, .int j] ∧ Q (.int (f i j)) H) := by
  intro xs P vs H g Q rg r k h
  obtain ⟨x, y, v, u, rfl, rfl, rx, ry, h⟩ := rr2_of r h
  split at h
  · cases rx; cases ry; exact ⟨_, _, rfl, .inl (k _ _ H Ext.refl rg (.int _) h)⟩
  · exact h.elim
def rrSum : RRs := rr1 fun x g P => match lstD g x with | some ds => (match intsD ds with | some ns => P (.int ns.sum) | none => False) | none => False
theorem ref_sum {K : Fg} : RefCall K rrSum (rSum K) := by
  intro xs P vs H g Q rg r k h
  obtain ⟨x, v, rfl, rfl, rx, h⟩ := rr1_of r h
  split at h
  · rename_i ds e
    split at h
    · rename_i ns e2
      obtain ⟨a, us, rfl, hq, hr, _⟩ := lstD_of rg rx e
      rw [intsD_of e2] at hr
      rw [hr.ints] at hq
      exact ⟨a, ns, rfl, hq, .inl (k _ _ H Ext.refl rg (.int _) h)⟩
    · exact h.elim
  · exact h.elim
def rrBs (f : List Bool → Bool) : RRs := rr1 fun x g P => match lstD g x with | some ds => (match blsD ds with | some ns => P (.bl (f ns)) | none => False) | none => False
theorem ref_bs {K : Fg} {f : List Bool → Bool} : RefCall K (rrBs f) (fun vs H Q => ∃ (a : Addr) (bs : List Bool), vs = [V.ref a] ∧ SqL K H a (bs.map V.bl) ∧ Q (.bl (f bs)) H) := by
  intro xs P vs H g Q rg r k h
  obtain ⟨x, v, rfl, rfl, rx, h⟩ := rr1_of r h
  split at h
  · rename_i ds e
    split at h
    · rename_i ns e2
      obtain ⟨a, us, rfl, hq, hr, _⟩ := lstD_of rg rx e
      rw [blsD_of e2] at hr
      rw [hr.bls] at hq
      exact ⟨a, ns, rfl, hq, .inl (k _ _ H Ext.refl rg (.bl _) h)⟩
    · exact h.elim
  · exact h.elim
def rrTuple : RRs := rr1 fun x g P => match seqD g x with | some ds => P (.tup ds) | none => False
theorem ref_tuple {K : Fg} : RefCall K rrTuple (fun xs H Q => ∃ p ys, xs = [.ref p] ∧ ((SqL K H p ys ∧ ∀ l, H l = none → Q (.ref l) (upd H l (.tup ys))) ∨ (SqT K H p ys ∧ Q (.ref p) H))) := by
  intro xs P vs H g Q rg r k h
  obtain ⟨x, v, rfl, rfl, rx, h⟩ := rr1_of r h
  split at h
  · rename_i ds e
    obtain ⟨a, us, rfl, hq, hr⟩ := seqD_ofX rg rx e
    rcases hq with hq | hq
    · exact ⟨a, us, rfl, .inl ⟨hq, fun p hp => tup_lift rg k hr h p hp⟩⟩
    · exact ⟨a, us, rfl, .inr ⟨SqT.of hq, .inl (k _ _ H Ext.refl rg (.tup hq hr) h)⟩⟩
  · exact h.elim
def rrList : RRs := rr1 fun x g P => match seqD g x with | some ds => P (.lst ds) | none => False
theorem ref_list {K : Fg} : RefCall K rrList (fun xs H Q => ∃ p ys, xs = [.ref p] ∧ (SqL K H p ys ∨ SqT K H p ys) ∧ ∀ l, H l = none → Q (.ref l) (upd H l (.lst ys))) := by
  intro xs P vs H g Q rg r k h
  obtain ⟨x, v, rfl, rfl, rx, h⟩ := rr1_of r h
  split at h
  · rename_i ds e
    obtain ⟨a, us, rfl, hq, hr⟩ := seqD_of rg rx e
    exact ⟨a, us, rfl, hq, fun p hp => fz_lift rg k hr h p hp⟩
  · exact h.elim
end
end DL

/-! Deep layer F: methods of lists, slices, sorted, isinstance, stars. -/
namespace DL
open PySem PySem.Spec PyProof.Rows L2
section
variable {X : Cx} {pos apos cpos : Pos} {o e : Expr} {es : List Expr} {to te : TDE} {t : TDA} {name : Str} {id : String} {R : V → List V → Hp → VK → Prop}
/-! ### methods of lists -/
abbrev RRm := DV → List DV → DG → (DV → DG → Prop) → Prop
def dMt (r : RRm) (to : TDE) (t : TDA) : TDE := fun δ g Q => to δ g fun x g1 => (lstD g1 x).isSome = true ∧ t δ g1 fun xs g2 => r x xs g2 Q
def dMt0 (r : RRm) (to : TDE) : TDE := fun δ g Q => to δ g fun x g1 => (lstD g1 x).isSome = true ∧ r x [] g1 Q
def RefMt (K : Fg) (r : RRm) (R : V → List V → Hp → VK → Prop) : Prop := ∀ (x : DV) (xs : List DV) (P : DV → DG → Prop) (v : V) (vs : List V) (H : Hp) (g : DG) (Q : VK), RG K H g → RD K H x v → RDs K H xs vs →
  (∀ z g' w H', Ext g H g' H' → RG K H' g' → RD K H' z w → P z g' → Q w H') → r x xs g P → R v vs H Q
theorem lst_tyV {K : Fg} {H : Hp} {g : DG} {x : DV} {v : V} (rg : RG K H g) (r : RD K H x v) (h : (lstD g x).isSome = true) : tyV K "list" v H := by
  cases e : lstD g x with
  | none => rw [e] at h; cases h
  | some ds =>
    obtain ⟨a, vs, rfl, hq, _⟩ := lstD_of rg r e
    exact Or.inl ⟨rfl, vs, hq⟩
theorem pd_bm {r : RRm} (slot : Slot "list" name id) (hty : typeOf (.builtin id) = pure (.type "method_descriptor")) (hm : MtR X id R) (rf : RefMt X.K r R) (ho : PE X o (upE X.K to)) (ha : PA X (e :: es) (upA X.K t))
    (hbase : attributeBase o name X.env (eval o X.env) = eval o X.env := by rfl)
    (hfew : ((backTo cpos (starEach (e :: es) X.env)).all (fun x => !x.1) && (backToKw cpos (keywordEach [] X.env)).all (fun x => x.1.isSome)
      && decide ((e :: es).length + ([] : List Keyword).length + (if ([] : List Keyword).isEmpty then 0 else 1) < 30)) = true := by rfl)
    (hline : (apos.endLine == cpos.line) = true := by rfl) (hs : starEach (e :: es) X.env = (false, eval e X.env) :: starEach es X.env := by rfl) (hplain : (backTo cpos (starEach es X.env)).any (·.1) = false := by rfl) :
    PE X (.Call (.Attribute o name apos) (e :: es) [] cpos) (upE X.K (dMt r to t)) :=
  PE_weak (pe_bm PySem.F.plainAttrs_list slot hty hm ho ha hbase hfew hline hs hplain) fun σ H Q ⟨δ, g, P, rs, rg, h, k⟩ => ⟨δ, g, _, rs, rg, h, fun d g1 v H1 e1 rg1 rd1 h1 =>
    ⟨lst_tyV rg1 rd1 h1.1, δ, g1, _, rs.mono (e1.kp rg), rg1, h1.2, fun xs g2 vs H2 e2 rg2 rd2 h2 => rf d xs P v vs H2 g2 Q rg2 (rd1.mono (e2.kp rg1)) rd2 (fun z g' w H' e rg' rd' p => k z g' w H' ((e1.trans e2).trans e) rg' rd' p) h2⟩⟩
/-- a list that is changed: what stands at it, then what follows -/
def atL (x : DV) (g : DG) (F : Addr → List DV → Prop) : Prop := match x with | .ref p => (match g p with | some (.lst ds) => F p ds | _ => False) | _ => False
theorem atL_of {K : Fg} {H : Hp} {g : DG} {x : DV} {v : V} {F : Addr → List DV → Prop} (rg : RG K H g) (r : RD K H x v) (h : atL x g F) : ∃ p ds vs, x = .ref p ∧ v = .ref p ∧ g p = some (.lst ds) ∧ H p = some (.lst vs) ∧ RDs K H ds vs ∧ F p ds := by
  unfold atL at h
  split at h
  · cases r
    split at h
    · rename_i e
      obtain ⟨vs, q, rd⟩ := rg _ _ e
      exact ⟨_, _, vs, rfl, rfl, e, q, rd, h⟩
    · exact h.elim
  · exact h.elim
def rmAppend : RRm := fun x xs g P => match xs with | [y] => atL x g fun p ds => ds.length < sizeLine ∧ P .non (gup g p (.lst (ds ++ [y]))) | _ => False
theorem ref_append {K : Fg} : RefMt K rmAppend rAppend := by
  intro x xs P v vs H g Q rg rx rxs k h
  unfold rmAppend at h
  split at h
  · obtain ⟨u, rfl, ru⟩ := rxs.inj1
    obtain ⟨p, ds, ws, rfl, rfl, eg, eh, rd, hl, h⟩ := atL_of rg rx h
    exact ⟨p, ws, u, rfl, rfl, eh, by rw [← rd.length]; exact hl, k _ _ _ _ (Ext.set eg) (rg.set eg (rd.append (.one ru))) .non h⟩
  · exact h.elim
def rmExtend : RRm := fun x xs g P => match xs with | [y] => (match y with | .lst es => atL x g fun p ds => ds.length + es.length ≤ sizeLine ∧ P .non (gup g p (.lst (ds ++ es))) | _ => False) | _ => False
def rmPop : RRm := fun x xs g P => match xs with | [] => atL x g fun p ds => (match ds[ds.length - 1]? with | some y => P y (gup g p (.lst ds.dropLast)) | none => False) | _ => False
theorem pd_append (ho : PE X o (upE X.K to)) (ha : PA X [e] (upA X.K t)) (hbase : attributeBase o "append" X.env (eval o X.env) = eval o X.env := by rfl)
    (hfew : ((backTo cpos (starEach [e] X.env)).all (fun x => !x.1) && (backToKw cpos (keywordEach [] X.env)).all (fun x => x.1.isSome)
      && decide ([e].length + ([] : List Keyword).length + (if ([] : List Keyword).isEmpty then 0 else 1) < 30)) = true := by rfl)
    (hline : (apos.endLine == cpos.line) = true := by rfl) (hs : starEach [e] X.env = (false, eval e X.env) :: starEach [] X.env := by rfl) : PE X (.Call (.Attribute o "append" apos) [e] [] cpos) (upE X.K (dMt rmAppend to t)) :=
  pd_bm PySem.F.slot_list_append PySem.F.type_list_append mt_append ref_append ho ha hbase hfew hline hs rfl
/-- xs[i] = e -/
def dSetI (te to ti : TDE) : TDS := fun E δ g => te δ g fun y g1 => to δ g1 fun x g2 => ti δ g2 fun i g3 => match i with
  | .int k => atL x g3 fun p ds => (match ixN ds.length k with | some j => E.nx δ (gup g3 p (.lst (ds.set j y))) | none => False)
  | _ => False
theorem pds_setI {i : Expr} {ti : TDE} {spos : Pos} (he : PE X e (upE X.K te)) (ho : PE X o (upE X.K to)) (hi : PE X i (upE X.K ti))
    (ha : ∀ v, assign (.Subscript o i spos) X.env v = (do
      let ov ← holding [v] (eval o X.env)
      let iv ← holding [v, ov] (eval i X.env)
      standAt spos
      holding [v, ov, iv] (setItem ov iv v)
      release [v, ov, iv] []) := by intro _; rfl) (hs : swapsWithSole [.Subscript o i spos] e pos.line X.env = pure false := by rfl) (hw : swappedStores [.Subscript o i spos] e X.env = pure none := by rfl)
    (h1 : (assignEach [.Subscript o i spos] X.env).map (·.2) = [assign (.Subscript o i spos) X.env] := by rfl) : PS X (.Assign [.Subscript o i spos] e pos) (upS X.K (dSetI te to ti)) :=
  PS_weak (ps_asg he (pg_sub ho hi set_list ha) hs hw h1) fun D σ H ⟨δ, g, E, rs, rg, h, k1, _⟩ => ⟨δ, g, _, rs, rg, h, fun y g1 v H1 e1 rg1 rd1 h1 => ⟨δ, g1, _, rs.mono (e1.kp rg), rg1, h1, fun x g2 u H2 e2 rg2 rd2 h2 =>
    ⟨δ, g2, _, rs.mono ((e1.trans e2).kp rg), rg2, h2, fun z g3 w H3 e3 rg3 rd3 h3 => by
      split at h3
      · cases rd3
        obtain ⟨p, ds, ws, rfl, rfl, eg, eh, rd, h3⟩ := atL_of rg3 (rd2.mono (e3.kp rg2)) h3
        split at h3
        · rename_i j ej
          rw [rd.length] at ej
          have km : Kp H3 (upd H3 p (.lst (ws.set j v))) := Kp.mut (by rw [eh]; exact True.intro)
          exact ⟨p, ws, _, j, rfl, rfl, eh, ej, k1 _ _ _ _ ((e1.trans e2).trans (e3.trans (Ext.set eg))) (rg3.set eg (rd.set ((rd1.mono (e2.kp rg1)).mono (e3.kp rg2)) j)) ((rs.mono ((e1.trans (e2.trans e3)).kp rg)).mono km) h3⟩
        · exact h3.elim
      · exact h3.elim⟩⟩⟩

/-! ### slices -/
abbrev TDO := DS → DG → (Option Int → DG → Prop) → Prop
def upO (K : Fg) (t : TDO) : TO := fun σ H Q => ∃ δ g P, RS K H δ σ ∧ RG K H g ∧ t δ g P ∧ ∀ b g' H', Ext g H g' H' → RG K H' g' → P b g' → Q b H'
def dNoPart : TDO := fun _ g Q => Q none g
def dPart (t : TDE) : TDO := fun δ g Q => t δ g fun x g1 => match x with | .int i => Q (some i) g1 | _ => False
theorem PO_weak {X : Cx} {e : Option Expr} {t t' : TO} (h : PO X e t) (w : ∀ σ H Q, t' σ H Q → t σ H Q) : PO X e t' := ⟨fun pins s σ H Q I q => h.run pins s σ H Q I (w σ H Q q)⟩
theorem pod_none : PO X none (upO X.K dNoPart) := PO_weak po_none fun σ H Q ⟨δ, g, P, rs, rg, h, k⟩ => k _ _ _ Ext.refl rg h
theorem pod_some (h : PE X e (upE X.K te)) : PO X (some e) (upO X.K (dPart te)) := PO_weak (po_some h) fun σ H Q ⟨δ, g, P, rs, rg, h, k⟩ => ⟨δ, g, _, rs, rg, h, fun d g1 v H1 e1 rg1 rd p => by
  split at p
  · cases rd; exact ⟨_, rfl, k _ _ _ e1 rg1 p⟩
  · exact p.elim⟩
/-- the slice of a list of contents -/
def cutD (xs : List DV) (lo hi : Option Int) : List DV := (xs.drop (HT.sIx xs.length 0 lo)).take (HT.sIx xs.length xs.length hi - HT.sIx xs.length 0 lo)
theorem cut_rd {K : Fg} {H : Hp} {ds : List DV} {vs : List V} (r : RDs K H ds vs) (lo hi : Option Int) : RDs K H (cutD ds lo hi) (cutV vs lo hi) := by
  unfold cutD cutV
  rw [r.length]
  exact (r.drop _).take _
def dSl (te : TDE) (tl th : TDO) : TDE := fun δ g Q => te δ g fun x g1 => tl δ g1 fun lo g2 => th δ g2 fun hi g3 => match x with
  | .tup ds => Q (.tup (cutD ds lo hi)) g3
  | .lst ds => Q (.lst (cutD ds lo hi)) g3
  | .scr ns => Q (.lst (cutD (ns.map .int) lo hi)) g3
  | .ref p => (match g3 p with | some (.lst ds) => Q (.lst (cutD ds lo hi)) g3 | _ => False)
  | .tpl ds => (HT.sIx ds.length 0 lo = 0 ∧ HT.sIx ds.length ds.length hi = ds.length → Q (.tpl ds) g3) ∧ (¬ (HT.sIx ds.length 0 lo = 0 ∧ HT.sIx ds.length ds.length hi = ds.length) → Q (.tup (cutD ds lo hi)) g3)
  | _ => False
theorem pd_slice {lo hi : Option Expr} {tl th : TDO} {p2 : Pos} (he : PE X e (upE X.K te)) (hl : PO X lo (upO X.K tl)) (hu : PO X hi (upO X.K th)) : PE X (.Subscript e (.Slice lo hi none p2) pos) (upE X.K (dSl te tl th)) := by
  refine PE_weak (pe_slice ((SlR_fz sl_list).or (SlR_fz sl_tupA)) he hl hu) fun σ H Q ⟨δ, g, P, rs, rg, h, k⟩ => ⟨δ, g, _, rs, rg, h, fun x g1 v H1 e1 rg1 rd1 h1 => ⟨δ, g1, _, rs.mono (e1.kp rg), rg1, h1, fun l g2 H2 e2 rg2 h2 =>
    ⟨δ, g2, _, rs.mono ((e1.trans e2).kp rg), rg2, h2, fun u g3 H3 e3 rg3 h3 => ?_⟩⟩⟩
  have rd3 := (rd1.mono (e2.kp rg1)).mono (e3.kp rg2)
  have ee := (e1.trans e2).trans e3
  have kk : ∀ z w H', Ext g3 H3 g3 H' → RG X.K H' g3 → RD X.K H' z w → P z g3 → Q w H' := fun z w H' e rg' rd' p => k z g3 w H' (ee.trans e) rg' rd' p
  split at h3
  · cases rd3 with
    | tup hs hr =>
      refine .inr ⟨_, _, rfl, SqT.of hs, fun hw => .inl ?_, fun hw p hp => tup_lift (P := fun z => P z g3) rg3 kk (cut_rd hr l u) h3 p hp⟩
      refine k _ _ _ _ ee rg3 (.tup hs ?_) h3
      unfold cutD
      rw [← hr.length] at hw
      rw [hw.1, hw.2, List.drop_zero, Nat.sub_zero, List.take_length]
      exact hr
  · cases rd3 with
    | lst hs hr => exact .inl ⟨_, _, rfl, hs.sq, fun p hp => fz_lift (P := fun z => P z g3) rg3 kk (cut_rd hr l u) h3 p hp⟩
  · cases rd3 with
    | scr hs => exact .inl ⟨_, _, rfl, hs.sq, fun p hp => fz_lift (P := fun z => P z g3) rg3 kk (cut_rd (RDs.ofInts _) l u) h3 p hp⟩
  · cases rd3
    split at h3
    · rename_i eg
      obtain ⟨vs, q, rd⟩ := rg3 _ _ eg
      exact .inl ⟨_, _, rfl, SqL.of q, fun p hp => fz_lift (P := fun z => P z g3) rg3 kk (cut_rd rd l u) h3 p hp⟩
    · exact h3.elim
  · cases rd3 with
    | tpl hs hr =>
      rw [hr.length] at h3
      exact .inr ⟨_, _, rfl, hs.sq, fun hw => .inl (k _ _ _ _ ee rg3 (.tpl hs hr) (h3.1 hw)), fun hw p hp => tup_lift (P := fun z => P z g3) rg3 kk (cut_rd hr l u) (h3.2 hw) p hp⟩
  · exact h3.elim

/-! ### stars in displays -/
def dStar (te : TDE) (t : TDA) : TDA := fun δ g Q => te δ g fun x g1 => match seqD g1 x with | some ds => t δ g1 fun xs g2 => Q (ds ++ xs) g2 | none => False
theorem pda_star {p : Pos} (he : PE X e (upE X.K te)) (hr : PA X es (upA X.K t)) (hs : starEach (.Starred e p :: es) X.env = (true, eval e X.env) :: starEach es X.env := by rfl) : PA X (.Starred e p :: es) (upA X.K (dStar te t)) := by
  refine PA_weak (StX.pa_star he hr hs) fun σ H Q ⟨δ, g, P, rs, rg, h, k⟩ => ⟨δ, g, _, rs, rg, h, fun x g1 v H1 e1 rg1 rd1 h1 => ?_⟩
  split at h1
  · rename_i ds ed
    obtain ⟨a, vs, rfl, hq, hr⟩ := seqD_of rg1 rd1 ed
    exact ⟨a, vs, rfl, hq.symm, δ, g1, _, rs.mono (e1.kp rg), rg1, h1, fun xs g2 us H2 e2 rg2 rd2 h2 => k _ _ _ _ (e1.trans e2) rg2 ((hr.mono (e2.kp rg1)).append rd2) h2⟩
  · exact h1.elim

/-! ### isinstance -/
def tyNm (g : DG) : DV → Option String
  | .non => some "NoneType"
  | .bl _ => some "bool"
  | .int _ => some "int"
  | .str _ => some "str"
  | .tup _ => some "tuple"
  | .lst _ => some "list"
  | .ref p => (match g p with | some (.lst _) => some "list" | some (.dK _ _) => some "dict" | some (.dT _ _) => some "dict" | _ => none)
  | .ty _ => none
  | .scr _ => none
  | .dK _ _ => some "dict"
  | .dT _ _ => some "dict"
  | .ins _ _ => none
  | .exc _ _ _ _ => none
  | .lam _ _ _ _ _ => none
  | .tpl _ => some "tuple"
def isiN (a T : String) : Option Bool := if T ∈ ["int", "bool", "tuple", "str", "list", "dict"] then some (a == T || (a == "bool" && T == "int")) else none
theorem isiN_kit : ∀ a ∈ ["NoneType", "bool", "int", "str", "tuple", "list", "dict"], ∀ T ∈ ["int", "bool", "tuple", "str", "list", "dict"], kitB a T = some (a == T || (a == "bool" && T == "int")) := by decide +kernel
/-- a value's type, a locked dict of tuple keys too -/
def TyY (K : Fg) (H : Hp) (v : V) (t : Value) : Prop := TyX K H v t ∨ ∃ a o kvs, v = .ref a ∧ H a = some (.frz o (.dT kvs)) ∧ t = .type "dict"
theorem kitY_of {X : Cx} {pins : List (Addr × Obj)} {σ : L2.St} {H : Hp} {s : Shared} {x : V} {u t : Value} (I : Inv X pins σ H s) (rx : RelV x u) (ty : TyY X.K H x t) : ∃ P : Heap → Prop, PySem.W.KitX X.K u t P ∧ P s.heap ∧ u ≠ .builtin "__main__.__loader__#opaque" := by
  rcases ty with ty | ⟨a, ob, kvs, ex, ea, et⟩
  · exact kit_of I rx ty
  · subst ex et
    cases (show u = Value.ref a from rx)
    obtain ⟨_, _, _, xs, _, o, es, ep, h1, h2, _⟩ := (show ObjOk X.prog X.w H s.heap a (.frz ob (.dT kvs)) from I.hok a _ ea)
    exact ⟨_, PySem.W.kitx_dict, ⟨o, h1, h2.1⟩, fun z => nomatch z⟩
def rIsiY (K : Fg) : List V → Hp → VK → Prop := fun xs H Q => ∃ (x c : V) (t u : Value) (b : Bool), xs = [x, c] ∧ ClsV c u ∧ TyY K H x t ∧ PySem.W.kitOne K t u = some b ∧ Q (.bl b) H
theorem call_isiY {X : Cx} : CallR X (.builtin "isinstance") (rIsiY X.K) := by
  intro pins s σ H xs us Q I r h
  obtain ⟨x, c, t, u, b, rfl, k, ty, e, q⟩ := h
  obtain ⟨u1, u2, rfl, r1, r2⟩ := vals2 r
  have e2 := k.eq r2
  subst e2
  obtain ⟨P, Z, p, hx⟩ := kitY_of I r1 ty
  exact PySem.W.kia_one Z I.kIn p e hx fun tk => ⟨.bl b, H, I.tok tk, rfl, q⟩
theorem tyNm_of {K : Fg} {H : Hp} {g : DG} {x : DV} {v : V} {a : String} (rg : RG K H g) (r : RD K H x v) (h : tyNm g x = some a) : a ∈ ["NoneType", "bool", "int", "str", "tuple", "list", "dict"] ∧ TyY K H v (.type a) := by
  cases r with
  | non => cases h; exact ⟨by decide, .inl <| .base .non⟩
  | bl b => cases h; exact ⟨by decide, .inl <| .base (.bl b)⟩
  | int i => cases h; exact ⟨by decide, .inl <| .base (.int i)⟩
  | str z => cases h; exact ⟨by decide, .inl <| .base (.str z)⟩
  | ty n => cases h
  | scr _ => cases h
  | ref p =>
    have h' : (match g p with | some (.lst _) => some "list" | some (.dK _ _) => some "dict" | some (.dT _ _) => some "dict" | _ => none) = some a := h
    split at h'
    · cases h'
      rename_i o e
      obtain ⟨vs, q, _⟩ := rg _ _ e
      exact ⟨by decide, .inl <| .base (.lst q)⟩
    · cases h'
      rename_i e
      obtain ⟨vs, q, _⟩ := rg _ _ e
      exact ⟨by decide, .inl <| .base (.dK q)⟩
    · cases h'
      rename_i e
      obtain ⟨vs, q, _⟩ := rg _ _ e
      exact ⟨by decide, .inl <| .base (.dT q)⟩
    · cases h'
  | ins hs hr => cases h
  | exc hs hr => cases h
  | lam hs hr => cases h
  | tpl hs hr =>
    cases h
    obtain ⟨o, hs, _⟩ := hs
    exact ⟨by decide, .inl <| .fTuple hs⟩
  | dK hs hr =>
    cases h
    obtain ⟨o, kvs, hs, _⟩ := hs
    exact ⟨by decide, .inl <| .fDict hs⟩
  | dT hs hr =>
    cases h
    obtain ⟨o, kvs, hs, _⟩ := hs
    exact ⟨by decide, .inr ⟨_, o, kvs, rfl, hs, rfl⟩⟩
  | tup hs hr =>
    cases h
    exact ⟨by decide, .inl <| .base (.tup hs)⟩
  | lst hs hr =>
    cases h
    obtain ⟨o, hs⟩ := hs
    exact ⟨by decide, .inl <| .base (.frz hs)⟩
def rrIsi : RRs := rr2 fun x y g P => match y with | .ty T => (match tyNm g x with | some a => (match isiN a T with | some b => P (.bl b) | none => False) | none => False) | _ => False
theorem ref_isi {K : Fg} : RefCall K rrIsi (rIsiY K) := by
  intro xs P vs H g Q rg r k h
  obtain ⟨x, y, v, u, rfl, rfl, rx, ry, h⟩ := rr2_of r h
  split at h
  · cases ry
    split at h
    · rename_i a ea
      split at h
      · rename_i b eb
        obtain ⟨ma, ty⟩ := tyNm_of rg rx ea
        unfold isiN at eb
        split at eb
        · rename_i mT
          cases eb
          exact ⟨v, _, _, _, _, rfl, .ty _, ty, kit_ty (isiN_kit a ma _ mT), .inl (k _ _ H Ext.refl rg (.bl _) h)⟩
        · cases eb
      · exact h.elim
    · exact h.elim
  · exact h.elim
end
end DL

/-! Deep layer G: what the printed derivations and the readings lean on. -/
namespace DL
open PySem PySem.Spec PyProof.Rows L2
section
variable {X : Cx} {pos : Pos}
def dYes : TDT := fun _ g Q => Q true g
theorem ptsd_nil : PTs X [] (upT X.K dYes) := ⟨fun pins s σ H Q I ⟨δ, g, P, rs, rg, h, k⟩ => pts_nil.run pins s σ H Q I (k _ _ _ Ext.refl rg h)⟩
theorem ptsd_one {c : Expr} {t : TDT} (h : PT X c (upT X.K t)) : PTs X [c] (upT X.K t) := pts_one h
theorem pgd_nm {i : Nat} {x : Str} (hN : X.N.Nodup) (hi : X.N[i]? = some x := by rfl) (hx : Loc X.env.scope x := by first | exact Or.inl rfl | exact Or.inr rfl) (hf : X.fn x = true ∨ X.env.scope.names.lookup x = some .local := by first | exact .inl rfl | exact .inr rfl) : PG X (.Name x pos) (tgG X.K (.nm i)) := pg_name hN hi hx hf
theorem pgd_tp {es : List Expr} {k : Nat} {is : List Nat} (hc : X.calm = true) (h : PGs X es (gAll is)) (hn : (assignEach es X.env).length = is.length := by rfl) (hst : (assignEach es X.env).findIdx? (·.1) = none := by rfl) : PG X (.Tuple es k pos) (tgG X.K (.tp is)) := pg_tup hc h hn hst
theorem pgd_nil : PGs X [] (gAll []) := pgs_nil
theorem pgd_cons {i : Nat} {is : List Nat} {e : Expr} {es : List Expr} (h1 : PG X e (tgG X.K (.nm i))) (h2 : PGs X es (gAll is)) (hs : (assignEach (e :: es) X.env).map (·.2) = assign e X.env :: (assignEach es X.env).map (·.2) := by rfl) : PGs X (e :: es) (gAll (i :: is)) := pgs_cons h1 h2 hs
/-! ### sorted -/
def dleD (a b : DV) : Bool := !W.dataLt b.py a.py
def SortOk (ds : List DV) : Prop := plAll ds = true ∧ W.AllAlike (ds.map DV.py) ∧ W.Sortable (ds.map DV.py) ∧ ∀ d ∈ ds, d.py.depth ≤ 60
def rrSorted : RRs := rr1 fun x g P => match lstD g x with | some ds => SortOk ds ∧ P (.lst (ds.mergeSort dleD)) | none => False
def RSortD (K : Fg) : List V → Hp → VK → Prop := fun vs H Q => ∃ (a : Addr) (L : List (DV × V)), vs = [.ref a] ∧ SqL K H a (L.map Prod.snd) ∧ (∀ p ∈ L, RD K H p.1 p.2) ∧ SortOk (L.map Prod.fst) ∧
  ∀ p, H p = none → Q (.ref p) (upd H p (.lst ((L.mergeSort fun a b => dleD a.1 b.1).map Prod.snd)))
theorem each_L {K : Fg} {H : Hp} : ∀ {L : List (DV × V)} {its : List Value}, Vals (L.map Prod.snd) its → W.EachIs (fun (u : Value) (b : DV × V) => RelV b.2 u) its L
  | [], _, r => by cases r; exact .nil
  | _ :: _, _, r => by
    cases r with
    | cons r1 r2 => exact .cons r1 (each_L (K := K) (H := H) r2)
theorem vals_L : ∀ {L : List (DV × V)} {its : List Value}, W.EachIs (fun (u : Value) (b : DV × V) => RelV b.2 u) its L → Vals (L.map Prod.snd) its
  | _, _, .nil => .nil
  | _, _, .cons r1 r2 => .cons r1 (vals_L r2)
theorem reads_L {pins : List (Addr × Obj)} {σ : L2.St} {H : Hp} {s : Shared} (I : Inv X pins σ H s) : ∀ {L : List (DV × V)} {its : List Value}, (∀ p ∈ L, RD X.K H p.1 p.2) → plAll (L.map Prod.fst) = true → Vals (L.map Prod.snd) its →
    W.EachIs (fun (u : Value) (b : DV × V) => ∃ as, Reads s.heap u b.1.py as) its L
  | [], _, _, _, r => by cases r; exact .nil
  | b :: L, _, hr, hp, r => by
    cases r with
    | cons r1 r2 =>
      rw [List.map_cons, plAll, Bool.and_eq_true] at hp
      exact .cons (Dp.reads I _ _ _ ((hr b List.mem_cons_self).dp hp.1) r1) (reads_L I (fun p hp => hr p (List.mem_cons_of_mem _ hp)) hp.2 r2)
theorem cr_sortedD (hu : X.A.units + 64 < cLine) : CallR X (.builtin "sorted") (RSortD X.K) := by
  intro pins s σ H vs us Q I r h
  obtain ⟨a, L, rfl, hq, hr, ⟨s1, s2, s3, s4⟩, q⟩ := h
  rw [Vals.ref1 r]
  obtain ⟨its, rv, pl, hz⟩ := I.list hq
  have hlen : its.length = L.length := by rw [← rv.length, List.length_map]
  have e1 : L.map (fun b : DV × V => b.1.py) = (L.map Prod.fst).map DV.py := by rw [List.map_map]; rfl
  have hL : L.length ≤ sizeLine := by rw [List.length_map] at hz; exact hz
  refine PySem.W.sorted_data (bs := L) (enc := fun b : DV × V => b.1.py) (R := fun u b => RelV b.2 u) pl.isList (each_L (K := X.K) (H := H) rv) (reads_L I hr s1 rv) (by rw [e1]; exact s2) (by rw [e1]; exact s3) hL ?_ ?_
  · intro b hb
    have := s4 b.1 (List.mem_map.mpr ⟨b, hb, rfl⟩)
    omega
  · intro out ho eo
    have ev := vals_L eo
    rw [show PySem.W.dataLe false (fun b : DV × V => b.1.py) = fun a b => dleD a.1 b.1 from PySem.W.dataLe_eq false _] at ev
    obtain ⟨c, hc⟩ := sortedAll_at s.heap its (List.toArray out)
    have hn : H (s.heap.objs.size + 1) = none := I.hok.fresh (Nat.le_succ _)
    refine ⟨.ref _, _, I.laid (t' := s.toks) (fun _ _ z => sortedAll_old z) (Nat.le_succ _) (?_ : ObjOk X.prog X.w _ _ _ (.lst _)), rfl, q _ hn⟩
    exact ⟨by rw [List.length_map, List.length_mergeSort]; exact hL, out, c, ev, hc⟩
theorem zip_rd {K : Fg} {H : Hp} : ∀ {ds : List DV} {vs : List V}, RDs K H ds vs → (ds.zip vs).map Prod.fst = ds ∧ (ds.zip vs).map Prod.snd = vs ∧ ∀ p ∈ ds.zip vs, RD K H p.1 p.2
  | _, _, .nil => ⟨rfl, rfl, fun _ h => by cases h⟩
  | d :: _, v :: _, .cons r t => by
    obtain ⟨h1, h2, h3⟩ := zip_rd t
    refine ⟨by rw [List.zip_cons_cons, List.map_cons, h1], by rw [List.zip_cons_cons, List.map_cons, h2], fun p hp => ?_⟩
    rw [List.zip_cons_cons] at hp
    rcases List.mem_cons.mp hp with e | e
    · subst e; exact r
    · exact h3 p e
theorem rds_pairs {K : Fg} {H : Hp} : ∀ {L : List (DV × V)}, (∀ p ∈ L, RD K H p.1 p.2) → RDs K H (L.map Prod.fst) (L.map Prod.snd)
  | [], _ => .nil
  | b :: L, h => .cons (h b List.mem_cons_self) (rds_pairs fun p hp => h p (List.mem_cons_of_mem _ hp))
theorem ref_sorted {K : Fg} : RefCall K rrSorted (RSortD K) := by
  intro xs P vs H g Q rg r k h
  obtain ⟨x, v, rfl, rfl, rx, h⟩ := rr1_of r h
  split at h
  · rename_i ds e
    obtain ⟨a, us, rfl, hq, hr, _⟩ := lstD_of rg rx e
    obtain ⟨z1, z2, z3⟩ := zip_rd hr
    refine ⟨a, ds.zip us, rfl, by rw [z2]; exact hq, z3, by rw [z1]; exact h.1, fun p hp => ?_⟩
    have hm : ((ds.zip us).mergeSort fun a b => dleD a.1 b.1).map Prod.fst = ds.mergeSort dleD := by
      rw [List.map_mergeSort (s := dleD) (fun _ _ _ _ => rfl), z1]
    refine fz_lift rg k (ds := ds.mergeSort dleD) ?_ h.2 p hp
    rw [← hm]
    exact rds_pairs fun p hp => z3 p (List.mem_mergeSort.mp hp)
  · exact h.elim
end

/-! ### promises by the number of arguments -/
def sp1 (f : DV → DG → (DV → DG → Prop) → Prop) : SpD := fun ds g P => match ds with | [a] => f a g P | _ => False
def sp2 (f : DV → DV → DG → (DV → DG → Prop) → Prop) : SpD := fun ds g P => match ds with | [a, b] => f a b g P | _ => False
def sp3 (f : DV → DV → DV → DG → (DV → DG → Prop) → Prop) : SpD := fun ds g P => match ds with | [a, b, c] => f a b c g P | _ => False
def sp4 (f : DV → DV → DV → DV → DG → (DV → DG → Prop) → Prop) : SpD := fun ds g P => match ds with | [a, b, c, d] => f a b c d g P | _ => False
theorem sp1_of {f} {ds : List DV} {g : DG} {P : DV → DG → Prop} (h : sp1 f ds g P) : ∃ a, ds = [a] ∧ f a g P := by
  match ds, h with
  | [a], h => exact ⟨a, rfl, h⟩
theorem sp2_of {f} {ds : List DV} {g : DG} {P : DV → DG → Prop} (h : sp2 f ds g P) : ∃ a b, ds = [a, b] ∧ f a b g P := by
  match ds, h with
  | [a, b], h => exact ⟨a, b, rfl, h⟩
theorem sp3_of {f} {ds : List DV} {g : DG} {P : DV → DG → Prop} (h : sp3 f ds g P) : ∃ a b c, ds = [a, b, c] ∧ f a b c g P := by
  match ds, h with
  | [a, b, c], h => exact ⟨a, b, c, rfl, h⟩
theorem sp4_of {f} {ds : List DV} {g : DG} {P : DV → DG → Prop} (h : sp4 f ds g P) : ∃ a b c d, ds = [a, b, c, d] ∧ f a b c d g P := by
  match ds, h with
  | [a, b, c, d], h => exact ⟨a, b, c, d, rfl, h⟩
theorem len1 {f} {ds : List DV} {g : DG} {P : DV → DG → Prop} (h : sp1 f ds g P) : ds.length = 1 := by obtain ⟨_, rfl, _⟩ := sp1_of h; rfl
theorem len2 {f} {ds : List DV} {g : DG} {P : DV → DG → Prop} (h : sp2 f ds g P) : ds.length = 2 := by obtain ⟨_, _, rfl, _⟩ := sp2_of h; rfl
theorem len3 {f} {ds : List DV} {g : DG} {P : DV → DG → Prop} (h : sp3 f ds g P) : ds.length = 3 := by obtain ⟨_, _, _, rfl, _⟩ := sp3_of h; rfl
theorem len4 {f} {ds : List DV} {g : DG} {P : DV → DG → Prop} (h : sp4 f ds g P) : ds.length = 4 := by obtain ⟨_, _, _, _, rfl, _⟩ := sp4_of h; rfl

/-! ### a def of the module -/
structure Dfn (K : Fg) (mg : Str → Option Value) (x : Str) (st : Stmt) (ps : List Str) (f : Addr) (fd : FuncData) : Prop where
  fn : Fun K x x st f fd
  at_ : mg x = some (.ref f)
  bd : Binds K fd ps []

/-! ### comprehensions whose parts change nothing -/
/-- no test -/
theorem comp_map {tg : Tg} {own : List Nat} {te : TDE} {δ : DS} {g : DG} {f : DV → DV} : ∀ {ds : List DV} {Q : List DV → DG → Prop},
    (∀ d ∈ ds, ∃ δ2, bindT tg d (wipeD δ own) = some δ2 ∧ ∀ Q2 : DV → DG → Prop, Q2 (f d) g → te δ2 g Q2) → Q (ds.map f) g → dComp tg own dYes te δ ds g Q
  | [], Q, _, hq => hq
  | d :: ds, Q, h, hq => by
    obtain ⟨δ2, e, he⟩ := h d List.mem_cons_self
    unfold dComp
    rw [e]
    dsimp only [dYes]
    rw [if_pos rfl]
    exact he _ (comp_map (fun d hd => h d (List.mem_cons_of_mem _ hd)) hq)
/-- a test -/
theorem comp_fil {tg : Tg} {own : List Nat} {tt : TDT} {te : TDE} {δ : DS} {g : DG} {p : DV → Bool} {f : DV → DV} : ∀ {ds : List DV} {Q : List DV → DG → Prop},
    (∀ d ∈ ds, ∃ δ2, bindT tg d (wipeD δ own) = some δ2 ∧ (∀ Q' : Bool → DG → Prop, Q' (p d) g → tt δ2 g Q') ∧ (p d = true → ∀ Q2 : DV → DG → Prop, Q2 (f d) g → te δ2 g Q2)) → Q ((ds.filter p).map f) g → dComp tg own tt te δ ds g Q
  | [], Q, _, hq => hq
  | d :: ds, Q, h, hq => by
    obtain ⟨δ2, e, ht, he⟩ := h d List.mem_cons_self
    unfold dComp
    rw [e]
    refine ht _ ?_
    cases hp : p d with
    | true =>
      rw [if_pos rfl]
      refine he hp _ (comp_fil (fun d hd => h d (List.mem_cons_of_mem _ hd)) ?_)
      rw [List.filter_cons_of_pos hp] at hq
      exact hq
    | false =>
      rw [if_neg Bool.false_ne_true]
      refine comp_fil (fun d hd => h d (List.mem_cons_of_mem _ hd)) ?_
      rw [List.filter_cons_of_neg (by rw [hp]; exact Bool.false_ne_true)] at hq
      exact hq
end DL

/-! Deep layer H: t[::-1], dicts. -/
namespace L2.HT
open PySem PySem.Spec PyProof.Rows
section
variable {P : Program} {u : World} {A : Around} {E : Value → Shared → Prop} {s : Shared}
theorem adj_down (n : Nat) : Builtin.Slice.sliceAdjust none none (-1) (n : Int) = ((n : Int) - 1, -1) := by
  unfold Builtin.Slice.sliceAdjust
  simp
theorem plc_down (n : Nat) : Builtin.Slice.slicePlaces ((n : Int) - 1) (-1) (-1) = n := by
  unfold Builtin.Slice.slicePlaces
  simp only [show ¬ ((-1 : Int) > 0) from by decide, if_false]
  split <;> simp <;> omega
theorem pick_down (xs : Array Value) : ((List.range xs.size).filterMap fun (m : Nat) => xs[((xs.size : Int) - 1 + (m : Int) * (-1)).toNat]?).toArray = xs.toList.reverse.toArray := by
  congr 1
  have e : (List.range xs.size).filterMap (fun (m : Nat) => xs[((xs.size : Int) - 1 + (m : Int) * (-1)).toNat]?) = ((List.range xs.size).map fun k => xs.size - 1 - k).filterMap (xs[·]?) := by
    rw [List.filterMap_map]
    have z : ∀ (l : List Nat), (∀ m ∈ l, m < xs.size) → l.filterMap (fun (m : Nat) => xs[((xs.size : Int) - 1 + (m : Int) * (-1)).toNat]?) = l.filterMap ((xs[·]?) ∘ fun k => xs.size - 1 - k) := by
      intro l
      induction l with
      | nil => intro _; rfl
      | cons m r ih =>
        intro h
        have hm := h m List.mem_cons_self
        have e : ((xs.size : Int) - 1 + (m : Int) * (-1)).toNat = xs.size - 1 - m := by omega
        rw [List.filterMap_cons, List.filterMap_cons, e, ih fun k hk => h k (List.mem_cons_of_mem _ hk)]
        rfl
    exact z _ fun m hm => List.mem_range.mp hm
  rw [e, PySem.W.krv_range, List.filterMap_reverse, PySem.W.krv_all]
theorem tup_down {t sl : Addr} {items : Array Value} {vl vu vs : Value} {Q : Value → Shared → Prop} (ht : IsTup s.heap t items) (hs : s.heap.IsSliceOf sl vl vu vs) (pl : IsPart vl none) (pu : IsPart vu none) (ps : IsPart vs (some (-1)))
    (h : Q (.ref s.heap.objs.size) { s with heap := s.heap.push { cls := .type "tuple", data := .seq items.toList.reverse.toArray } }) (hsz : items.size ≤ sizeLine) : wpAny (model P u) A (getItem (.ref t) (.ref sl)) Q E s := by
  have htake : sizeOk (.seq items.toList.reverse.toArray) := by
    show items.toList.reverse.toArray.size ≤ sizeLine
    rw [List.size_toArray, List.length_reverse, Array.length_toList]
    exact hsz
  obtain ⟨os, hos, hcs, hds⟩ := id hs
  have hTs : s.TypeIs (.ref sl) "slice" := ⟨os, hos, hcs⟩
  unfold getItem
  try with_reducible refine wpAny_holding ?_
  first | refine wpAny_bind (wpAny_pure ?_) | skip
  refine wpAny_bind (wpAny_sequenceKey ht.typeIs (by decide) ?_)
  refine wpAny_bind (wpAny_callSpecial?_slot (name := Str.ofString "__getitem__") ht.typeIs PyProof.Rows.slot_tuple_getitem
    (wpAny_call_entry PyProof.Rows.slot_tuple_getitem ht.typeIs entry_tuple_getitem ?_ (args_tuple_getitem _ _)))
  show wpAny _ _ (Builtin.Tuple.tupleItemsOf (.ref t) >>= _) _ _ s
  refine wpAny_bind (tupleItemsOf_ ht ?_)
  refine wpAny_bind (wpAny_typeOf hTs ?_)
  rw [if_pos (by decide)]
  refine wpAny_bind (m := Builtin.Slice.sliceApplied _ _) ?_
  unfold Builtin.Slice.sliceApplied Builtin.Slice.sliceFields
  refine wpAny_bind (wpAny_bind (wpAny_field hos hds (x := vl) rfl (wpAny_bind (wpAny_field hos hds (x := vu) rfl (wpAny_bind (wpAny_field hos hds (x := vs) rfl (wpAny_pure ?_)))))))
  refine wpAny_bind (_root_.HT.slicePart_ ps ?_)
  show wpAny _ _ (if ((-1 : Int) == 0) = true then _ else _) _ _ s
  rw [if_neg (by decide)]
  refine wpAny_bind (_root_.HT.slicePart_ pl (wpAny_bind (_root_.HT.slicePart_ pu (wpAny_bind (wpAny_pure ?_)))))
  show wpAny _ _ (match Builtin.Slice.sliceAdjust none none (-1) (items.size : Int) with | (lo, hi) => pure (lo, (-1 : Int), Builtin.Slice.slicePlaces lo hi (-1))) _ _ s
  rw [adj_down]
  show wpAny _ _ (pure ((items.size : Int) - 1, (-1 : Int), Builtin.Slice.slicePlaces ((items.size : Int) - 1) (-1) (-1))) _ _ s
  rw [plc_down]
  refine wpAny_pure ?_
  show wpAny _ _ (if (((items.size : Int) - 1) == 0 && (-1 : Int) == 1 && items.size == items.size) = true then _ else _) _ _ s
  rw [if_neg (by simp), pick_down]
  first
    | exact wpAny_bind (m := Builtin.Tuple.tupleExact _) (wpAny_newObj_type (wpAny_pure ⟨_, rfl, wpAny_pure h⟩) htake)
    | exact wpAny_bind (m := Builtin.Tuple.tupleExact _) (wpAny_newObj_type (wpAny_bind (wpAny_pure (wpAny_pure ⟨_, rfl, wpAny_pure h⟩))) htake)
    | exact wpAny_bind (wpAny_bind (m := Builtin.Tuple.tupleExact _) (wpAny_newObj_type (wpAny_pure (wpAny_pure ⟨_, rfl, wpAny_pure h⟩)) htake))
    | exact wpAny_bind (wpAny_bind (m := Builtin.Tuple.tupleExact _) (wpAny_newObj_type (wpAny_pure ⟨_, rfl, wpAny_pure h⟩) htake))
end
end L2.HT
namespace DL
open PySem PyProof.Rows PySem.Spec L2
section
variable {X : Cx} {pos : Pos} {e o i value : Expr} {te td ty tv : TDE}
/-! ### x[::-1] -/
def tRevA (K : Fg) (t : TE) : TE := fun σ H Q => t σ H fun x H1 => ∃ a xs, x = .ref a ∧ ((SqL K H1 a xs ∧ ∀ p, H1 p = none → Q (.ref p) (upd H1 p (.lst xs.reverse))) ∨ (SqT K H1 a xs ∧ ∀ p, H1 p = none → Q (.ref p) (upd H1 p (.tup xs.reverse))))
theorem pe_revAny {t : TE} {k : Nat} {p1 p2 p3 : Pos} (he : PE X e t) : PE X (.Subscript e (.Slice none none (some (.UnaryOp .USub (.Constant (.int 1) k p1) p2)) p3) pos) (tRevA X.K t) := by
  refine ⟨fun pinz s σ H Q I0 h => ?_⟩
  refine Subscript_ (thn (he.run pinz s σ H _ I0 h) fun v s1 ⟨x, H1, J1, r1, q1⟩ => ?_)
  obtain ⟨a, xs, ex, q⟩ := q1
  subst ex
  cases r1
  have hst : PO X (some (.UnaryOp .USub (.Constant (.int 1) k p1) p2)) (tPart (tUn (rU fun i => .int (-i)) (tC (.int 1)))) := po_some (pe_un un_neg pe_int)
  refine wpAny_Slice (thn (po_none.run pinz s1 σ H1 (fun o H2 => o = none ∧ H2 = H1) J1 ⟨rfl, rfl⟩) fun vl s2 ⟨l, H2, J2, pl, el, e2⟩ => ?_)
  subst el e2
  refine thn (po_none.run pinz s2 σ H2 (fun o H3 => o = none ∧ H3 = H2) J2 ⟨rfl, rfl⟩) fun vu s3 ⟨u, H3, J3, pu, eu, e3⟩ => ?_
  subst eu e3
  refine thn (hst.run pinz s3 σ H3 (fun o H4 => o = some (-1) ∧ H4 = H3) J3 ⟨1, rfl, -1, rfl, rfl, rfl⟩) fun vs s4 ⟨o, H4, J4, ps, eo, e4⟩ => ?_
  subst eo e4
  have J5 : Inv X pinz σ H4 { s4 with heap := s4.heap.push { cls := .type "slice", data := .fields #[vl, vu, vs] } } := J4.kept (t' := s4.toks) fun b ob z => Heap.get?_push_of_some _ z
  show wpAny (model X.prog X.w) X.A (subscriptTail e (.Slice none none (some (.UnaryOp .USub (.Constant (.int 1) k p1) p2)) p3) (.ref a) (.ref s4.heap.objs.size)) (EP X pinz σ Q) X.xe { s4 with heap := s4.heap.push { cls := .type "slice", data := .fields #[vl, vu, vs] } }
  rcases q with ⟨hx, q⟩ | ⟨hx, q⟩
  · obtain ⟨itz, r, ht, hz⟩ := J5.list hx
    refine tail_any (ops := [.ref a, .ref s4.heap.objs.size]) ht.isList.typeIs (PySem.slot_list_getitem.lookup) ?_ (by with_unfolding_all rfl)
    refine wpAny_getItem_list_slice ht.isList (Heap.IsSliceOf.new _ vl vu vs) pl pu ps (by decide) ?_ (by have := r.length; rw [List.size_toArray]; omega)
    rw [PySem.W.krv_pick]
    refine ⟨.ref _, _, J5.laid (t' := s4.toks) (o := .lst xs.reverse) (fun b ob z => Heap.get?_push_of_some _ z) (Nat.le_refl _) ?_, rfl, q _ (J5.hok.fresh (Nat.le_refl _))⟩
    exact ⟨by rw [List.length_reverse]; exact hz, _, 0, r.reverse, Heap.get?_push_size _ rfl⟩
  · obtain ⟨itz, r, ht, hz⟩ := J5.tuple hx
    refine tail_any (ops := [.ref a, .ref s4.heap.objs.size]) ht.typeIs (PyProof.Rows.slot_tuple_getitem.lookup) ?_ (by with_unfolding_all rfl)
    refine L2.HT.tup_down ht (Heap.IsSliceOf.new _ vl vu vs) pl pu ps ?_ (by have := r.length; rw [List.size_toArray]; omega)
    refine ⟨.ref _, _, J5.laid (t' := s4.toks) (o := .tup xs.reverse) (fun b ob z => Heap.get?_push_of_some _ z) (Nat.le_refl _) ?_, rfl, q _ (J5.hok.fresh (Nat.le_refl _))⟩
    exact ⟨by rw [List.length_reverse]; exact hz, _, r.reverse, IsTup.new _ _⟩
def dRev (te : TDE) : TDE := fun δ g Q => te δ g fun x g1 => match x with
  | .tup ds => Q (.tup ds.reverse) g1
  | .lst ds => Q (.lst ds.reverse) g1
  | .scr ns => Q (.lst (ns.map DV.int).reverse) g1
  | .ref p => (match g1 p with | some (.lst ds) => Q (.lst ds.reverse) g1 | _ => False)
  | _ => False
theorem pd_rev {k : Nat} {p1 p2 p3 : Pos} (he : PE X e (upE X.K te)) : PE X (.Subscript e (.Slice none none (some (.UnaryOp .USub (.Constant (.int 1) k p1) p2)) p3) pos) (upE X.K (dRev te)) := by
  refine PE_weak (PE_fz (pe_revAny he)) fun σ H Q ⟨δ, g, P, rs, rg, h, k⟩ => ⟨δ, g, _, rs, rg, h, fun x g1 v H1 e1 rg1 rd1 h1 => ?_⟩
  have kk : ∀ d g' v H', Ext g1 H1 g' H' → RG X.K H' g' → RD X.K H' d v → P d g' → Q v H' := fun d g' v H' e => k d g' v H' (e1.trans e)
  split at h1
  · cases rd1 with
    | tup hs hr => exact ⟨_, _, rfl, .inr ⟨SqT.of hs, fun p hp => .inl (tup_new rg1 hp hr.reverse kk h1)⟩⟩
  · cases rd1 with
    | lst hs hr => exact ⟨_, _, rfl, .inl ⟨hs.sq, fun p hp => fz_new rg1 hp hr.reverse kk h1⟩⟩
  · cases rd1 with
    | scr hs => exact ⟨_, _, rfl, .inl ⟨hs.sq, fun p hp => fz_new rg1 hp (RDs.ofInts _).reverse kk h1⟩⟩
  · cases rd1
    split at h1
    · rename_i eg
      obtain ⟨vs, q, rd⟩ := rg1 _ _ eg
      exact ⟨_, _, rfl, .inl ⟨SqL.of q, fun p hp => fz_new rg1 hp rd.reverse kk h1⟩⟩
    · exact h1.elim
  · exact h1.elim

/-! ### dicts: keys -/
def keyK : DV → Option Key
  | .int i => some (.inl i)
  | .str x => some (.inr x)
  | _ => none
theorem keyK_of {K : Fg} {H : Hp} {d : DV} {v : V} {k : Key} (r : RD K H d v) (h : keyK d = some k) : v = kV k := by
  cases r <;> first | (cases h; rfl) | cases h
def putKs {κ : Type} [DecidableEq κ] (ks : List κ) (k : κ) : List κ := if k ∈ ks then ks else ks ++ [k]
def setD {κ : Type} [DecidableEq κ] : List κ → List DV → κ → DV → List DV
  | k' :: ks, e :: ds, k, d => (if k' = k then d else e) :: setD ks ds k d
  | _, _, _, _ => []
def putDs {κ : Type} [DecidableEq κ] (ks : List κ) (ds : List DV) (k : κ) (d : DV) : List DV := if k ∈ ks then setD ks ds k d else ds ++ [d]
theorem setD_rd {κ : Type} [DecidableEq κ] {K : Fg} {H : Hp} {k : κ} {d : DV} {v : V} (r : RD K H d v) : ∀ {kvs : List (κ × V)} {ds : List DV}, RDs K H ds (kvs.map (·.2)) →
    RDs K H (setD (kvs.map (·.1)) ds k d) ((kvs.map fun kv => if kv.1 = k then (kv.1, v) else kv).map (·.2))
  | [], _, h => by cases h; exact .nil
  | p :: t, _, h => by
    cases h with
    | cons h1 h2 =>
      rw [List.map_cons, List.map_cons, List.map_cons]
      unfold setD
      refine .cons ?_ (setD_rd r h2)
      by_cases z : p.1 = k
      · rw [if_pos z, if_pos z]; exact r
      · rw [if_neg z, if_neg z]; exact h1
theorem putK_rd {κ : Type} [DecidableEq κ] {K : Fg} {H : Hp} {k : κ} {d : DV} {v : V} {kvs : List (κ × V)} {ds : List DV} (r : RD K H d v) (rd : RDs K H ds (kvs.map (·.2))) :
    (putK kvs k v).map (·.1) = putKs (kvs.map (·.1)) k ∧ RDs K H (putDs (kvs.map (·.1)) ds k d) ((putK kvs k v).map (·.2)) := by
  unfold putK putKs putDs
  have hm : (kvs.any fun kv => decide (kv.1 = k)) = true ↔ k ∈ kvs.map (·.1) := by
    simp [List.any_eq_true]
  by_cases z : k ∈ kvs.map (·.1)
  · rw [if_pos (hm.mpr z), if_pos z, if_pos z]
    refine ⟨?_, setD_rd r rd⟩
    rw [List.map_map]
    refine List.map_congr_left fun p _ => ?_
    show (if p.1 = k then (p.1, v) else p).1 = p.1
    split <;> rfl
  · rw [if_neg (fun y => z (hm.mp y)), if_neg z, if_neg z, List.map_append, List.map_append]
    exact ⟨rfl, rd.append (.one r)⟩
/-! ### {} -/
def dNewF : TDE := fun _ g Q => Q (.dK [] []) g
theorem pd_newF : PE X (.Dict [] [] pos) (upE X.K dNewF) := PE_weak (PE_fz pe_dnewK) fun σ H Q ⟨δ, g, P, rs, rg, h, k⟩ p hp => .inr ⟨p, .dK [], rfl, upd_same, trivial, fun o => by
  rw [upd_upd]
  exact k _ g _ _ (Ext.fresh rg hp) (rg.fresh hp) (.dK ⟨o, [], upd_same, rfl, rfl⟩ .nil) h⟩
/-! ### d[k] = v -/
/-! ### sorted(d), its keys ints -/
/-! ### answers that are new things to be changed -/
variable {x : Str} {p : Pos} {es : List Expr} {t : TDA}
/-! ### tuple(range(n)), list(range(n)) -/
theorem rgV_rd {K : Fg} {H : Hp} (n : Int) : RDs K H (rangeD 0 n.toNat) (rgV 0 n) := by
  have e1 : rangeD 0 n.toNat = ((List.range n.toNat).map fun (i : Nat) => (0 : Int) + i).map DV.int := by rw [List.map_map]; rfl
  have e2 : rgV 0 n = ((List.range n.toNat).map fun (i : Nat) => (0 : Int) + i).map V.int := by rw [List.map_map]; unfold rgV; rw [Int.sub_zero]; rfl
  rw [e1, e2]
  exact RDs.ofInts _
def dTupRg (ta : TDE) : TDE := fun δ g Q => ta δ g fun x g1 => match x with | .int n => (0 ≤ n ∧ n ≤ 16777216) ∧ Q (.tup (rangeD 0 n.toNat)) g1 | _ => False
theorem pd_tupRg {a : Expr} {ta : TDE} {p p2 q : Pos} (hm : X.mg "tuple" = none) (hm2 : X.mg "range" = none) (ha : PE X a (upE X.K ta)) (hc : X.calm = true := by rfl) (hg : Gl X "tuple" := by rfl) (hg2 : Gl X "range" := by rfl)
    (na : starEach [a] X.env = (false, eval a X.env) :: starEach [] X.env := by rfl) (na2 : starEach [.Call (.Name "range" p2) [a] [] q] X.env = (false, eval (.Call (.Name "range" p2) [a] [] q) X.env) :: starEach [] X.env := by rfl) :
    PE X (.Call (.Name "tuple" p) [.Call (.Name "range" p2) [a] [] q] [] pos) (upE X.K (dTupRg ta)) := by
  refine PE_weak (pe_tupRg hc hg hm (prg_1 hg2 hm2 ha na) na2) fun σ H Q ⟨δ, g, P, rs, rg, h, k⟩ => ⟨δ, g, _, rs, rg, h, fun x g1 v H1 e1 rg1 rd1 h1 => ?_⟩
  split at h1
  · rename_i n
    cases rd1
    exact ⟨n, rfl, RgOk.of_le (by omega) h1.1.2 (by omega) h1.1.1, fun p hp => tup_new rg1 hp (rgV_rd n) (fun d g' v H' e => k d g' v H' (e1.trans e)) h1.2⟩
  · exact h1.elim
end
end DL

/-! Deep layer S: set(list of ints), sorted(set(list)). -/
namespace L2
open PyProof.Rows PySem.Spec PySem
/-- an empty set's object -/
abbrev sNew (u : World) : Obj := { cls := .type "set", dict := none, data := .set #[] 0 (.fresh 0 0 (!u.params.followText "set-order")) }
section
variable {P : Program} {u : World} {A : Around} {E : Value → Shared → Prop} {s : Shared}
end
end L2
namespace DL
open PyProof.Rows PySem.Spec PySem L2
section
variable {X : Cx} {pos : Pos} {a : Expr} {ta : TDE}
end
end DL

/-! Deep layer T: small facts for readings. -/
namespace DL
open PySem L2
theorem atI_c0 (a : DV) (l : List DV) : atI (a :: l) 0 = some a := atI_nat (j := 0) rfl
theorem atI_c1 (a b : DV) (l : List DV) : atI (a :: b :: l) 1 = some b := atI_nat (j := 1) rfl
theorem atI_c2 (a b c : DV) (l : List DV) : atI (a :: b :: c :: l) 2 = some c := atI_nat (j := 2) rfl
theorem ixN_30 : ixN 3 0 = some 0 := by decide
theorem ixN_31 : ixN 3 1 = some 1 := by decide
theorem ixN_32 : ixN 3 2 = some 2 := by decide

theorem powW {i j : Int} (h : 0 ≤ j ∧ (Builtin.Int.intBits i : Int) * j ≤ 2 ^ 27) : CPowW i j := h
end DL

/-! Deep layer R: reading a derivation step by step, from the head on. -/
namespace DL
open PySem L2
section
variable {δ δ' : DS} {g : DG} {E : DEnds} {Q : DV → DG → Prop} {QB : Bool → DG → Prop} {QA : List DV → DG → Prop} {P : DV → Prop} {a b c : TDE} {ta : TDA} {t u : TDS} {x y d : DV} {ds es : List DV} {tc tc2 : TDT} {i j : Int} {p : Addr}
theorem rd_seq {n bk ct : DS → DG → Prop} {r : DV → DG → Prop} (h : t ⟨u ⟨n, r, bk, ct⟩, r, bk, ct⟩ δ g) : dSeq t u ⟨n, r, bk, ct⟩ δ g := h
theorem rd_seqE (h : t ⟨u ⟨fun _ g' => DRet Q .non g', DRet Q, (dEnds Q).bk, (dEnds Q).ct⟩, DRet Q, (dEnds Q).bk, (dEnds Q).ct⟩ δ g) : dSeq t u (dEnds Q) δ g := h
theorem rd_next (h : E.nx δ g) : dNext E δ g := h
theorem rd_nx {f bk ct : DS → DG → Prop} {rt : DV → DG → Prop} (h : f δ g) : (DEnds.mk f rt bk ct).nx δ g := h
theorem rd_bk {f bk ct : DS → DG → Prop} {rt : DV → DG → Prop} (h : bk δ g) : (DEnds.mk f rt bk ct).bk δ g := h
theorem rd_ct {f bk ct : DS → DG → Prop} {rt : DV → DG → Prop} (h : ct δ g) : (DEnds.mk f rt bk ct).ct δ g := h
theorem rd_rt {f bk ct : DS → DG → Prop} {rt : DV → DG → Prop} (h : rt d g) : (DEnds.mk f rt bk ct).rt d g := h
theorem rd_rtE (h : DRet Q d g) : (dEnds Q).rt d g := h
theorem rd_nxE (h : DRet Q .non g) : (dEnds Q).nx δ g := h
theorem rd_drop (h : a δ g fun _ g1 => E.nx δ g1) : dDrop a E δ g := h
theorem rd_ret (h : a δ g fun d g1 => E.rt d g1) : dRet a E δ g := h
theorem rd_dif (h : tc δ g fun k g1 => if k = true then t E δ g1 else u E δ g1) : dIf tc t u E δ g := h
def asgK (tg : Tg) (E : DEnds) (δ : DS) (d : DV) (g : DG) : Prop := match bindT tg d δ with | some δ' => E.nx δ' g | none => False
theorem rd_asg {tg : Tg} (h : a δ g fun d g1 => asgK tg E δ d g1) : dAsg tg a E δ g := h
theorem rd_asgK {tg : Tg} (e : bindT tg d δ = some δ') (h : E.nx δ' g) : asgK tg E δ d g := by unfold asgK; rw [e]; exact h
def parK (is : List Nat) (E : DEnds) (δ : DS) (ds : List DV) (g : DG) : Prop := match setAll is ds δ with | some δ' => E.nx δ' g | none => False
theorem rd_par {is : List Nat} (h : ta δ g fun d g1 => parK is E δ d g1) : dPar is ta E δ g := h
theorem rd_parK {is : List Nat} (e : setAll is ds δ = some δ') (h : E.nx δ' g) : parK is E δ ds g := by unfold parK; rw [e]; exact h
theorem rd_for {wi : TDI} {tg : Tg} (h : wi δ g fun ds g1 => dLoop tg t E ds δ g1) : dFor wi tg t E δ g := h
theorem rd_loop {tg : Tg} {n bk ct : DS → DG → Prop} {r : DV → DG → Prop} (e : bindT tg d δ = some δ') (h : t ⟨dLoop tg t ⟨n, r, bk, ct⟩ ds, r, n, dLoop tg t ⟨n, r, bk, ct⟩ ds⟩ δ' g) : dLoop tg t ⟨n, r, bk, ct⟩ (d :: ds) δ g := by unfold dLoop; rw [e]; exact h
theorem rd_fz {n : Nat} (e : nth δ n = some (.ref p)) (e2 : g p = some (.lst ds)) (h : t E (δ.set n (some (.lst ds))) (gdel g p)) : dFz n t E δ g := by unfold dFz; rw [e]; dsimp only; rw [e2]; exact ⟨trivial, h⟩
theorem rd_var {n : Nat} (e : nth δ n = some d) (h : Q d g) : dVar n δ g Q := by unfold dVar; rw [e]; exact h
theorem rd_c (h : Q d g) : dC d δ g Q := h
theorem rd_op {r : RR2} (h : a δ g fun x g1 => b δ g1 fun y g2 => r x y g2 fun z => Q z g2) : dOp r a b δ g Q := h
theorem rd_un {r : RR1} (h : a δ g fun x g1 => r x g1 fun z => Q z g1) : dUn r a δ g Q := h
def bK (Q : Bool → DG → Prop) (d : DV) (g : DG) : Prop := match d with | .bl c => Q c g | _ => False
theorem rd_b (h : a δ g fun d g1 => bK QB d g1) : dB a δ g QB := h
theorem rd_bK {k : Bool} (h : QB k g) : bK QB (.bl k) g := h
def tK (Q : Bool → DG → Prop) (d : DV) (g : DG) : Prop := match truD g d with | some b => Q b g | none => False
theorem rd_tru (h : a δ g fun d g1 => tK QB d g1) : dTru a δ g QB := h
theorem rd_tKb {k : Bool} (h : QB k g) : tK QB (.bl k) g := h
theorem rd_and (h : tc δ g fun k g1 => if k = true then tc2 δ g1 QB else QB false g1) : dAnd tc tc2 δ g QB := h
theorem rd_or (h : tc δ g fun k g1 => if k = true then QB true g1 else tc2 δ g1 QB) : dOr tc tc2 δ g QB := h
theorem rd_not (h : tc δ g fun k g1 => QB (!k) g1) : dNot tc δ g QB := h
def tvK (F : Bool → DV → DG → Prop) (x : DV) (g : DG) : Prop := match truD g x with | some k => F k x g | none => False
theorem rd_tvKb {F : Bool → DV → DG → Prop} {k : Bool} (h : F k (.bl k) g) : tvK F (.bl k) g := h
theorem rd_andV (h : a δ g fun x g1 => tvK (fun k x g1 => if k = true then b δ g1 Q else Q x g1) x g1) : dAndV a b δ g Q := h
theorem rd_notV (h : a δ g fun x g1 => tvK (fun k _ g1 => Q (.bl (!k)) g1) x g1) : dNotV a δ g Q := h
theorem rd_ifE (h : tc δ g fun k g1 => if k = true then a δ g1 Q else b δ g1 Q) : dIfE tc a b δ g Q := h
theorem rd_nil (h : QA [] g) : dNil δ g QA := h
theorem rd_cons (h : a δ g fun x g1 => ta δ g1 fun xs g2 => QA (x :: xs) g2) : dCons a ta δ g QA := h
def zK (Q : List DV → DG → Prop) (ds : List DV) (g : DG) : Prop := ds.length ≤ sizeLine ∧ Q ds g
theorem rd_zK (e : ds.length ≤ 16777216) (h : QA ds g) : zK QA ds g := ⟨by rw [sizeLine_eq]; exact e, h⟩
theorem rd_tup (h : ta δ g fun ds g1 => zK (fun ds g1 => Q (.tup ds) g1) ds g1) : dTup ta δ g Q := h
theorem rd_lst (h : ta δ g fun ds g1 => zK (fun ds g1 => Q (.lst ds) g1) ds g1) : dLst ta δ g Q := h
theorem rd_lstM (h : ta δ g fun ds g1 => zK (fun ds g1 => ∀ p, g1 p = none → Q (.ref p) (gup g1 p (.lst ds))) ds g1) : dLstM ta δ g Q := h
theorem rd_cb {r : RRs} (h : ta δ g fun xs g1 => r xs g1 fun z => Q z g1) : dCB r ta δ g Q := h
theorem rd_call {sp : SpD} (h : ta δ g fun xs g1 => sp xs g1 Q) : dCall sp ta δ g Q := h
theorem rd_sp1 {f : DV → DG → (DV → DG → Prop) → Prop} (h : f x g Q) : sp1 f [x] g Q := h
theorem rd_sp2 {f : DV → DV → DG → (DV → DG → Prop) → Prop} (h : f x y g Q) : sp2 f [x, y] g Q := h
theorem rd_sp3 {f : DV → DV → DV → DG → (DV → DG → Prop) → Prop} (h : f x y d g Q) : sp3 f [x, y, d] g Q := h
theorem rd_len (e : seqD g x = some ds) (h : P (.int ds.length)) : rrLen [x] g P := by unfold rrLen rr1; dsimp only; rw [seqP_of e]; exact h
theorem rd_int (h : P (.int i)) : rrInt [.int i] g P := h
theorem rd_intb {k : Bool} (h : P (.int (if k then 1 else 0))) : rrInt [.bl k] g P := h
theorem rd_abs (h : P (.int (if i < 0 then -i else i))) : rrAbs [.int i] g P := h
theorem rd_ii {f : Int → Int → Int} (h : P (.int (f i j))) : rrII f [.int i, .int j] g P := h
theorem rd_sum {ns : List Int} (e : lstD g x = some ds) (e2 : intsD ds = some ns) (h : P (.int ns.sum)) : rrSum [x] g P := by unfold rrSum rr1; dsimp only; rw [e]; dsimp only; rw [e2]; exact h
theorem rd_bs {f : List Bool → Bool} {bs : List Bool} (e : lstD g x = some ds) (e2 : blsD ds = some bs) (h : P (.bl (f bs))) : rrBs f [x] g P := by unfold rrBs rr1; dsimp only; rw [e]; dsimp only; rw [e2]; exact h
theorem rd_tuple (e : seqD g x = some ds) (h : P (.tup ds)) : rrTuple [x] g P := by unfold rrTuple rr1; dsimp only; rw [e]; exact h
theorem rd_list (e : seqD g x = some ds) (h : P (.lst ds)) : rrList [x] g P := by unfold rrList rr1; dsimp only; rw [e]; exact h
theorem rd_sorted (e : lstD g x = some ds) (c : SortOk ds) (h : P (.lst (ds.mergeSort dleD))) : rrSorted [x] g P := by unfold rrSorted rr1; dsimp only; rw [e]; exact ⟨c, h⟩
theorem rd_isi {T s : String} {k : Bool} (e : tyNm g x = some s) (e2 : isiN s T = some k) (h : P (.bl k)) : rrIsi [x, .ty T] g P := by unfold rrIsi rr2; dsimp only; rw [e]; dsimp only; rw [e2]; exact h
theorem rd_add (h : P (.int (i + j))) : rrAdd (.int i) (.int j) g P := h
theorem rd_sub (h : P (.int (i - j))) : rrSub (.int i) (.int j) g P := ⟨trivial, h⟩
theorem rd_rI {C : Int → Int → Prop} {f : Int → Int → DV} (c : C i j) (h : P (f i j)) : rrI C f (.int i) (.int j) g P := ⟨c, h⟩
theorem rd_cmp {f : Int → Int → Bool} (h : P (.bl (f i j))) : rrCmp f (.int i) (.int j) g P := h
theorem rd_eq (c : okD x = true) (c2 : okD y = true) (h : P (.bl (eqD x y))) : rrEq x y g P := ⟨c, c2, h⟩
theorem rd_ne (c : okD x = true) (c2 : okD y = true) (h : P (.bl (!eqD x y))) : rrNe x y g P := ⟨c, c2, h⟩
theorem rd_ix (e : seqD g x = some ds) (e2 : atI ds i = some d) (h : P d) : ixD x (.int i) g P := by unfold ixD; dsimp only; rw [e]; dsimp only; unfold optD; rw [e2]; exact h
def setK (E : DEnds) (δ : DS) (y x i : DV) (g : DG) : Prop := match i with
  | .int k => atL x g fun p ds => (match ixN ds.length k with | some j => E.nx δ (gup g p (.lst (ds.set j y))) | none => False)
  | _ => False
theorem rd_setI (h : a δ g fun y g1 => b δ g1 fun x g2 => c δ g2 fun i g3 => setK E δ y x i g3) : dSetI a b c E δ g := h
theorem rd_set30 {a b c y : DV} (e : g p = some (.lst [a, b, c])) (h : E.nx δ (gup g p (.lst [y, b, c]))) : setK E δ y (.ref p) (.int 0) g := by
  unfold setK; dsimp only; unfold atL; dsimp only; rw [e]; dsimp only; rw [show ixN [a, b, c].length 0 = some 0 from ixN_30]; exact h
theorem rd_set32 {a b c y : DV} (e : g p = some (.lst [a, b, c])) (h : E.nx δ (gup g p (.lst [a, b, y]))) : setK E δ y (.ref p) (.int 2) g := by
  unfold setK; dsimp only; unfold atL; dsimp only; rw [e]; dsimp only; rw [show ixN [a, b, c].length 2 = some 2 from ixN_32]; exact h
theorem rd_mt {r : RRm} (h : a δ g fun x g1 => (lstD g1 x).isSome = true ∧ ta δ g1 fun xs g2 => r x xs g2 Q) : dMt r a ta δ g Q := h
theorem rd_some (e : lstD g x = some ds) {R : Prop} (h : R) : (lstD g x).isSome = true ∧ R := ⟨by rw [e]; rfl, h⟩
theorem rd_append (e : g p = some (.lst ds)) (c : ds.length < 16777216) (h : Q .non (gup g p (.lst (ds ++ [y])))) : rmAppend (.ref p) [y] g Q := by unfold rmAppend; dsimp only; unfold atL; dsimp only; rw [e]; exact ⟨by rw [sizeLine_eq]; exact c, h⟩
def rvK (Q : DV → DG → Prop) (x : DV) (g : DG) : Prop := match x with
  | .tup ds => Q (.tup ds.reverse) g
  | .lst ds => Q (.lst ds.reverse) g
  | .scr ns => Q (.lst (ns.map DV.int).reverse) g
  | .ref p => (match g p with | some (.lst ds) => Q (.lst ds.reverse) g | _ => False)
  | _ => False
def chnK (r' : RR2) (c : TDE) (δ : DS) (Q : DV → DG → Prop) (y z : DV) (g2 : DG) : Prop := match z with
  | .bl k => if k = true then c δ g2 fun u g3 => r' y u g3 fun w => Q w g3 else Q (.bl false) g2
  | _ => False
theorem rd_chain {r r' : RR2} (h : a δ g fun x g1 => b δ g1 fun y g2 => r x y g2 fun z => chnK r' c δ Q y z g2) : dChain r r' a b c δ g Q := h
theorem rd_chnK {r' : RR2} {k : Bool} (h : if k = true then c δ g fun u g3 => r' y u g3 fun w => Q w g3 else Q (.bl false) g) : chnK r' c δ Q y (.bl k) g := h
theorem rd_ng (h : P (.int (-i))) : rrNeg (.int i) g P := h
theorem rd_rev (h : a δ g fun x g1 => rvK Q x g1) : dRev a δ g Q := h
theorem rd_rvT (h : Q (.tup ds.reverse) g) : rvK Q (.tup ds) g := h
theorem rd_rvL (h : Q (.lst ds.reverse) g) : rvK Q (.lst ds) g := h
theorem rd_newF (h : Q (.dK [] []) g) : dNewF δ g Q := h
theorem rd_addT (c : ds.length + es.length ≤ 16777216) (h : P (.tup (ds ++ es))) : rrAdd (.tup ds) (.tup es) g P := ⟨by rw [sizeLine_eq]; exact c, h⟩
theorem rd_addL (c : ds.length + es.length ≤ 16777216) (h : P (.lst (ds ++ es))) : rrAdd (.lst ds) (.lst es) g P := ⟨by rw [sizeLine_eq]; exact c, h⟩
def trK (F : List DV → DV) (Q : DV → DG → Prop) (x : DV) (g1 : DG) : Prop := match x with | .int n => (0 ≤ n ∧ n ≤ 16777216) ∧ Q (F (rangeD 0 n.toNat)) g1 | _ => False
theorem rd_tupRg (h : a δ g fun x g1 => trK .tup Q x g1) : dTupRg a δ g Q := h
theorem rd_trK {F : List DV → DV} (c : 0 ≤ i ∧ i ≤ 16777216) (h : Q (F (rangeD 0 i.toNat)) g) : trK F Q (.int i) g := ⟨c, h⟩
theorem rd_lc {wi : TDI} {tg : Tg} {own : List Nat} {tt : TDT} (h : wi δ g fun ds g1 => zK (fun ds g1 => dComp tg own tt a δ ds g1 fun ys g2 => Q (.lst ys) g2) ds g1) : dLc wi tg own tt a δ g Q := h
theorem rd_yes (h : QB true g) : dYes δ g QB := h
def wsK (R : List DV → DG → Prop) (x : DV) (g : DG) : Prop := match x with | .tup ds => R ds g | .lst ds => R ds g | .scr ns => R (ns.map .int) g | .tpl ds => R ds g | _ => False
theorem rd_wseq (h : a δ g fun x g1 => wsK QA x g1) : wSeq a δ g QA := h
theorem rd_wsT (h : QA ds g) : wsK QA (.tup ds) g := h
theorem rd_wsL (h : QA ds g) : wsK QA (.lst ds) g := h
theorem rd_wsS {ns : List Int} (h : QA (ns.map .int) g) : wsK QA (.scr ns) g := h
theorem rd_wzip (h : ta δ g (one2 fun x y g1 => match x, y with
  | .tup xs, .tup ys => QA (zipD xs ys) g1
  | .lst xs, .lst ys => QA (zipD xs ys) g1
  | .tpl xs, .tup ys => QA (zipD xs ys) g1
  | .tpl xs, .tpl ys => QA (zipD xs ys) g1
  | _, _ => False)) : wZip ta δ g QA := h
theorem rd_zipT (h : QA (zipD ds es) g) : one2 (fun x y g1 => match x, y with
  | .tup xs, .tup ys => QA (zipD xs ys) g1
  | .lst xs, .lst ys => QA (zipD xs ys) g1
  | .tpl xs, .tup ys => QA (zipD xs ys) g1
  | .tpl xs, .tpl ys => QA (zipD xs ys) g1
  | _, _ => False) [.tup ds, .tup es] g := h
def rgK (R : List DV → DG → Prop) (xs : List DV) (g1 : DG) : Prop := one1 (fun x g1 => match x with | .int j => rngOk 0 j ∧ R (rangeD 0 j.toNat) g1 | _ => False) xs g1
theorem rd_rng1 (h : ta δ g fun xs g1 => rgK QA xs g1) : wRng1 ta δ g QA := h
theorem rd_rng1K (c : j < 2 ^ 62 ∧ -(2 ^ 62) ≤ j) (h : QA (rangeD 0 j.toNat) g) : rgK QA [.int j] g := ⟨⟨by decide, by decide, c.2, c.1⟩, h⟩
def slK (Q : DV → DG → Prop) (x : DV) (lo hi : Option Int) (g3 : DG) : Prop := match x with
  | .tup ds => Q (.tup (cutD ds lo hi)) g3
  | .lst ds => Q (.lst (cutD ds lo hi)) g3
  | .scr ns => Q (.lst (cutD (ns.map .int) lo hi)) g3
  | .ref p => (match g3 p with | some (.lst ds) => Q (.lst (cutD ds lo hi)) g3 | _ => False)
  | .tpl ds => (HT.sIx ds.length 0 lo = 0 ∧ HT.sIx ds.length ds.length hi = ds.length → Q (.tpl ds) g3) ∧ (¬ (HT.sIx ds.length 0 lo = 0 ∧ HT.sIx ds.length ds.length hi = ds.length) → Q (.tup (cutD ds lo hi)) g3)
  | _ => False
theorem rd_sl {lo hi : TDO} (h : a δ g fun x g1 => lo δ g1 fun lo g2 => hi δ g2 fun hi g3 => slK Q x lo hi g3) : dSl a lo hi δ g Q := h
theorem rd_slT {lo hi : Option Int} (h : Q (.tup (cutD ds lo hi)) g) : slK Q (.tup ds) lo hi g := h
theorem rd_slS {ns : List Int} {lo hi : Option Int} (h : Q (.lst (cutD (ns.map .int) lo hi)) g) : slK Q (.scr ns) lo hi g := h
theorem rd_slL {lo hi : Option Int} (h : Q (.lst (cutD ds lo hi)) g) : slK Q (.lst ds) lo hi g := h
theorem rd_nopart {QO : Option Int → DG → Prop} (h : QO none g) : dNoPart δ g QO := h
def ptK (Q : Option Int → DG → Prop) (x : DV) (g : DG) : Prop := match x with | .int i => Q (some i) g | _ => False
theorem rd_part {QO : Option Int → DG → Prop} (h : a δ g fun x g1 => ptK QO x g1) : dPart a δ g QO := h
theorem rd_ptK {QO : Option Int → DG → Prop} (h : QO (some i) g) : ptK QO (.int i) g := h
def stK (t : TDA) (Q : List DV → DG → Prop) (δ : DS) (x : DV) (g1 : DG) : Prop := match seqD g1 x with | some ds => t δ g1 fun xs g2 => Q (ds ++ xs) g2 | none => False
theorem rd_star (h : a δ g fun x g1 => stK ta QA δ x g1) : dStar a ta δ g QA := h
theorem rd_stK (e : seqD g x = some ds) (h : ta δ g fun xs g2 => QA (ds ++ xs) g2) : stK ta QA δ x g := by unfold stK; rw [e]; exact h
theorem rd_loopI {tg : Tg} {n bk ct : DS → DG → Prop} {r : DV → DG → Prop} (I : Nat → DS → DG → Prop) : ∀ {ds : List DV} {δ : DS} {g : DG}, I ds.length δ g →
    (∀ d ∈ ds, ∀ (k : Nat) (δ : DS) (g : DG) (f : DS → DG → Prop), (∀ δ g, I k δ g → f δ g) → I (k + 1) δ g → ∃ δ1, bindT tg d δ = some δ1 ∧ t ⟨f, r, n, f⟩ δ1 g) →
    (∀ δ g, I 0 δ g → n δ g) → dLoop tg t ⟨n, r, bk, ct⟩ ds δ g
  | [], δ, g, h0, _, he => he _ _ h0
  | d :: ds, δ, g, h0, hs, he => by
    obtain ⟨δ1, e, h⟩ := hs d List.mem_cons_self ds.length δ g (dLoop tg t ⟨n, r, bk, ct⟩ ds) (fun δ g hi => rd_loopI I hi (fun d hd => hs d (List.mem_cons_of_mem _ hd)) he) h0
    exact rd_loop e h
theorem rd_loopY {tg : Tg} {n bk ct : DS → DG → Prop} {r : DV → DG → Prop} (I : Nat → DS → DG → Prop) : ∀ {ds : List DV} {m : Nat} {δ : DS} {g : DG}, I m δ g →
    (∀ i d, ds[i]? = some d → ∀ (δ : DS) (g : DG) (f : DS → DG → Prop), (∀ δ g, I (m + i + 1) δ g → f δ g) → I (m + i) δ g → ∃ δ1, bindT tg d δ = some δ1 ∧ t ⟨f, r, n, f⟩ δ1 g) →
    (∀ δ g, I (m + ds.length) δ g → n δ g) → dLoop tg t ⟨n, r, bk, ct⟩ ds δ g
  | [], m, δ, g, h0, _, he => he _ _ h0
  | d :: ds, m, δ, g, h0, hs, he => by
    obtain ⟨δ1, e, h⟩ := hs 0 d rfl δ g (dLoop tg t ⟨n, r, bk, ct⟩ ds) (fun δ g hi => rd_loopY (m := m + 1) I hi (fun i d hd => by
      have z := hs (i + 1) d (by simpa using hd)
      rw [show m + (i + 1) = m + 1 + i by omega] at z
      exact z) (fun δ g hi => he δ g (by rw [List.length_cons, show m + (ds.length + 1) = m + 1 + ds.length by omega]; exact hi))) h0
    exact rd_loop e h
/-- by places -/
theorem rd_loopX {tg : Tg} {n bk ct : DS → DG → Prop} {r : DV → DG → Prop} (I : Nat → DS → DG → Prop) {ds : List DV} {δ : DS} {g : DG} (h0 : I 0 δ g)
    (hs : ∀ i d, ds[i]? = some d → ∀ (δ : DS) (g : DG) (f : DS → DG → Prop), (∀ δ g, I (i + 1) δ g → f δ g) → I i δ g → ∃ δ1, bindT tg d δ = some δ1 ∧ t ⟨f, r, n, f⟩ δ1 g)
    (he : ∀ δ g, I ds.length δ g → n δ g) : dLoop tg t ⟨n, r, bk, ct⟩ ds δ g :=
  rd_loopY (m := 0) I h0 (fun i d hd => by rw [Nat.zero_add]; exact hs i d hd) (by rw [Nat.zero_add]; exact he)
def rgKD (R : List DV → DG → Prop) (xs : List DV) (g1 : DG) : Prop := one3 (fun x y z g1 => match x, y, z with | .int i, .int j, .int c => (rngOk i j ∧ c = -1) ∧ R (downD i (i - j).toNat) g1 | _, _, _ => False) xs g1
theorem rd_rngD (h : ta δ g fun xs g1 => rgKD QA xs g1) : wRngD ta δ g QA := h
theorem rd_rngDK (c : rngOk i j) (h : QA (downD i (i - j).toNat) g) : rgKD QA [.int i, .int j, .int (-1)] g := ⟨⟨c, rfl⟩, h⟩
theorem rd_itei {c : Prop} [Decidable c] {A B : Prop} (h1 : c → A) (h2 : ¬c → B) : if decide c = true then A else B := by
  by_cases k : c
  · rw [if_pos (decide_eq_true k)]; exact h1 k
  · rw [if_neg (by simpa using k)]; exact h2 k
theorem rd_iteb {k : Bool} {A B : Prop} (h1 : k = true → A) (h2 : k = false → B) : if k = true then A else B := by
  cases k
  · exact h2 rfl
  · exact h1 rfl
theorem rd_itet {A B : Prop} (h1 : A) : if true = true then A else B := h1
theorem rd_itef {A B : Prop} (h1 : B) : if false = true then A else B := h1
theorem rd_itnt {A B : Prop} (h1 : B) : if (!true) = true then A else B := h1
theorem rd_itnf {A B : Prop} (h1 : A) : if (!false) = true then A else B := h1
end
theorem rangeD_len (lo : Int) (n : Nat) : (rangeD lo n).length = n := by simp only [rangeD, List.length_map, List.length_range]
theorem rangeD_at {n j : Nat} {d : DV} (h : (rangeD 0 n)[j]? = some d) : j < n ∧ d = .int (j : Int) := by
  have hl := (List.getElem?_eq_some_iff.mp h).1
  rw [rangeD_len] at hl
  refine ⟨hl, ?_⟩
  simp only [rangeD, List.getElem?_map, List.getElem?_range hl] at h
  have z := Option.some.inj h
  rw [← z]
  show DV.int (0 + (j : Int)) = _
  rw [Int.zero_add]
theorem downD_len (i : Int) (n : Nat) : (downD i n).length = n := by simp only [downD, List.length_map, List.length_range]
theorem downD_at {i : Int} {n j : Nat} {d : DV} (h : (downD i n)[j]? = some d) : j < n ∧ d = .int (i - (j : Int)) := by
  have hl := (List.getElem?_eq_some_iff.mp h).1
  rw [downD_len] at hl
  refine ⟨hl, ?_⟩
  simp only [downD, List.getElem?_map, List.getElem?_range hl] at h
  have z := Option.some.inj h
  rw [← z]
  show DV.int (i + (j : Int) * (-1)) = _
  congr 1
  omega
theorem seqD_ref {g : DG} {p : Addr} {ds : List DV} (e : g p = some (.lst ds)) : seqD g (.ref p) = some ds := by unfold seqD; dsimp only; rw [e]
theorem lstD_ref {g : DG} {p : Addr} {ds : List DV} (e : g p = some (.lst ds)) : lstD g (.ref p) = some ds := by unfold lstD; dsimp only; rw [e]
theorem seqD_up {g : DG} {p : Addr} {ds : List DV} : seqD (gup g p (.lst ds)) (.ref p) = some ds := seqD_ref gup_same
theorem lstD_up {g : DG} {p : Addr} {ds : List DV} : lstD (gup g p (.lst ds)) (.ref p) = some ds := lstD_ref gup_same
end DL

/-! Deep layer Z: the start of a law. -/
namespace DL
open PySem PySem.Spec PyProof.Rows L2
end DL

/-! Deep layer I: math.comb, while read by a measure. -/
namespace DL
open PySem PySem.Spec PyProof.Rows L2
section
variable {X : Cx} {x : Str} {p pos : Pos} {e : Expr} {es : List Expr} {t : TDA}
end
end DL

/-! Deep layer J: instances of classes with slots: what is read of them, what their own methods say. -/
namespace DL
open PySem PySem.Spec PyProof.Rows L2
/-- an instance with slots, as it is made or locked -/
def InsH (K : Fg) (H : Hp) (a C : Addr) (vs : List (Option V)) : Prop := (∃ dx, SlX.Slt H a C dx vs) ∨ FzI K H a C vs
section
variable {X : Cx} {CX : CXT} {pinz : List (Addr × Obj)} {σ : L2.St} {H : Hp} {s : Shared} {a C p g : Addr} {vs : List (Option V)} {f m : Str} {i n : Nat} {sp : Sp} {EX : XK} {v : V} {A : Around} {E : Value → Shared → Prop}
theorem ins_inst (J : Inv X pinz σ H s) (h : InsH X.K H a C vs) : ∃ (dx : Addr) (sl : Array (Option Value)) (od : Obj), SlX.SlR vs sl ∧ PySem.W.InstAt s.heap a { PySem.W.instObj C dx with slots := sl } C (some od) ∧ ∀ f, PySem.W.lookIn f od = some Option.none := by
  rcases h with ⟨dx, h⟩ | ⟨ob, dx, h1, h2⟩
  · obtain ⟨sl, od, r, z⟩ := SlX.slt_inst J h
    exact ⟨dx, sl, od, r, z⟩
  · obtain ⟨_, ⟨sl, e, r⟩, _, _⟩ := J.hok a _ h1
    obtain ⟨mA, n, r2⟩ := J.hok dx _ h2
    obtain ⟨od, ho, hl⟩ := lookIn_ns n
    exact ⟨dx, sl, od, r, ⟨e, rfl, rfl, ho⟩, fun f => by rw [hl f]; exact congrArg some (RelO.none_of (r2 f))⟩
/-! ### e.f -/
theorem ins_get {b : Bool} {Q : Value → Shared → Prop} (J : Inv X pinz σ H s) (h : InsH X.K H a C vs) (c : SlX.SCls X.K C) (t : SlX.Slot1 X.K C f p i) (l : vs[i]? = some (some v)) (q : ∀ u s', Inv X pinz σ H s' → RelV v u → Q u s') :
    wpAny (model X.prog X.w) A (getAttr (.ref a) f b) Q E s := by
  obtain ⟨dx, sl, od, r, I0, _⟩ := ins_inst J h
  obtain ⟨u, eu, ru⟩ := r i v l
  obtain ⟨m, hF⟩ := J.fr
  refine PySem.W.get_slot hF J.mod.kin I0 (c.get f) c.ic t.at_ t.get t.tk t.ix (v := u) ?_ (handed_of ru) (q u _ (J.tok _) ru)
  show (sl[i]?).join = some u
  rw [eu]
  rfl
def tInsF (K : Fg) (C : Addr) (i : Nat) (t : TE) : TE := fun σ H Q => t σ H fun x H1 => ∃ a vs v, x = .ref a ∧ InsH K H1 a C vs ∧ vs[i]? = some (some v) ∧ Q v H1
theorem pe_insF {e : Expr} {pos : Pos} {t : TE} (he : PE X e t) (c : SlX.SCls X.K C) (k : SlX.Slot1 X.K C f p i) (hb : attributeBase e f X.env (eval e X.env) = eval e X.env := by rfl) : PE X (.Attribute e f pos) (tInsF X.K C i t) := by
  refine ⟨fun pinz s σ H Q J h => ?_⟩
  refine attr_of hb (thn (he.run pinz s σ H _ J h) fun u s1 ⟨x, H1, J1, rx, a, vs, v, ex, hs, l, q⟩ => ?_)
  subst ex
  obtain rfl : u = Value.ref a := rx
  exact ins_get J1 hs c k l fun u' s2 J2 ru => ⟨v, H1, J2, ru, q⟩
/-! ### e.f, a property -/
/-! ### o.m(..) -/
/-! ### isinstance(x, T), x an instance -/
def rInsIsi (K : Fg) (C : Addr) (u : Value) (b : Bool) : List V → Hp → VK → Prop := fun xs H Q => ∃ (a : Addr) (vs : List (Option V)) (c : V), xs = [V.ref a, c] ∧ RelV c u ∧ (∀ w, RelV c w → w = u) ∧ InsH K H a C vs ∧ Q (.bl b) H
theorem cr_insIsi {u : Value} {b : Bool} (hc : SlX.SCls X.K C) (hi : SlX.SIsi X.K C) (hk : PySem.W.kitOne X.K (.ref C) u = some b) : CallR X (.builtin "isinstance") (rInsIsi X.K C u b) := by
  intro pinz s σ H xs us Q J r h
  obtain ⟨a, vs, c, rfl, rc, one, hsl, q⟩ := h
  obtain ⟨u1, u2, rfl, r1, r2⟩ := r.two
  cases (show u1 = Value.ref a from r1)
  cases one _ r2
  obtain ⟨dx, sl, od, _, I0, _⟩ := ins_inst J hsl
  exact PySem.W.kia_one (OwX.kitx_slt hc.ic (hc.get _) hi.ca hi.cn hi.ct hi.cm) J.kIn I0 hk (fun z => nomatch z) fun tk => ⟨.bl b, H, J.tok _, rfl, q⟩
/-! ### len(x), bool(x), y in x by the class's own methods -/
end
end DL

/-! Deep layer K: instances by content. -/
namespace DL
open PySem PySem.Spec PyProof.Rows L2
theorem FnOk_r0 {P : Program} {w : World} {K : Fg} {mg : Str → Option Value} {base : Heap} {CX : CXT} {k : Nat} {f : Addr} {fd : FuncData} {ps : List Str} {sp : Sp} (F : FnOk P w K mg base CX k f fd ps sp) (hb : Binds K fd ps []) :
    FnR P w K mg base CX k f sp := (F.raw hb .nil).imp fun vs H Q E h => by rw [List.append_nil]; exact h
/-! ### the slots of a value -/
def slD (g : DG) (C : Addr) : DV → Option (List (Option DV))
  | .ins C' ds => if C' = C then some (ds.map some) else none
  | .ref p => match g p with | some (.ins C' ds) => if C' = C then some ds else none | _ => none
  | _ => none
theorem slD_of {K : Fg} {H : Hp} {g : DG} {C : Addr} {d : DV} {v : V} {ds : List (Option DV)} (rg : RG K H g) (r : RD K H d v) (h : slD g C d = some ds) : ∃ a vs, v = .ref a ∧ InsH K H a C vs ∧ SlD K H ds vs := by
  cases r with
  | @ins a C' vs es hs hr =>
    have h' : (if C' = C then some (es.map some) else none) = some ds := h
    split at h'
    · rename_i e
      subst e
      cases h'
      refine ⟨_, _, rfl, .inr hs, by rw [List.length_map, List.length_map]; exact hr.length, fun i d e => ?_⟩
      rw [List.getElem?_map] at e
      cases q : es[i]? with
      | none => rw [q] at e; cases e
      | some z =>
        rw [q] at e
        cases e
        obtain ⟨v, h1, h2⟩ := hr.get q
        exact ⟨v, by rw [List.getElem?_map, h1]; rfl, h2⟩
    · cases h'
  | ref a =>
    have h' : (match g a with | some (.ins C' ds) => if C' = C then some ds else none | _ => none) = some ds := h
    split at h'
    · rename_i C' es eg
      split at h'
      · rename_i e
        subst e
        cases h'
        obtain ⟨dx, vs, _, q, rd⟩ := rg _ _ eg
        exact ⟨_, vs, rfl, .inl ⟨dx, q⟩, rd⟩
      · cases h'
    · cases h'
  | _ => cases h
theorem slD_ins {g : DG} {C : Addr} {ds : List DV} : slD g C (.ins C ds) = some (ds.map some) := if_pos rfl
theorem slD_ref {g : DG} {C p : Addr} {ds : List (Option DV)} (e : g p = some (.ins C ds)) : slD g C (.ref p) = some ds := by unfold slD; dsimp only; rw [e]; exact if_pos rfl
section
variable {X : Cx} {CX : CXT} {C p q : Addr} {f m : Str} {i n : Nat} {sp : SpD} {E : XK} {e o : Expr} {es : List Expr} {pos apos : Pos} {t : TDE} {ta : TDA}
/-! ### e.f -/
def dFld (C : Addr) (i : Nat) (t : TDE) : TDE := fun δ g Q => t δ g fun x g1 => match slD g1 C x with | some ds => (match nth ds i with | some d => Q d g1 | none => False) | none => False
theorem pd_fld (c : SlX.SCls X.K C) (k : SlX.Slot1 X.K C f p i) (he : PE X e (upE X.K t)) (hb : attributeBase e f X.env (eval e X.env) = eval e X.env := by rfl) : PE X (.Attribute e f pos) (upE X.K (dFld C i t)) := by
  refine PE_weak (pe_insF he c k hb) fun σ H Q ⟨δ, g, P, rs, rg, h, kk⟩ => ⟨δ, g, _, rs, rg, h, fun x g1 v H1 e1 rg1 rd1 h1 => ?_⟩
  split at h1
  · rename_i ds es
    split at h1
    · rename_i d ed
      obtain ⟨a, vs, rfl, hi, hs⟩ := slD_of rg1 rd1 es
      obtain ⟨u, hu, ru⟩ := hs.2 i d (nth_get ed)
      exact ⟨a, vs, u, rfl, hi, hu, kk _ _ _ _ e1 rg1 ru h1⟩
    · exact h1.elim
  · exact h1.elim
/-! ### e.f, a property -/
/-! ### o.m(..) -/
/-! ### self.f = v -/
def putO (i : Nat) (d : DV) (ds : List (Option DV)) : List (Option DV) := (ds ++ List.replicate (i + 1 - ds.length) none).set i (some d)
theorem SlD.put {K : Fg} {H : Hp} {ds : List (Option DV)} {vs : List (Option V)} {d : DV} {v : V} (h : SlD K H ds vs) (i : Nat) (r : RD K H d v) : SlD K H (putO i d ds) (SlX.putS i v vs) := by
  have hl := h.1
  refine ⟨by unfold putO SlX.putS; simp only [List.length_set, List.length_append, List.length_replicate]; rw [hl], fun j e he => ?_⟩
  by_cases hj : j = i
  · subst hj
    refine ⟨v, SlX.putS_get _ _ _, ?_⟩
    unfold putO at he
    rw [List.getElem?_set_self (by simp only [List.length_append, List.length_replicate]; omega)] at he
    cases he
    exact r
  · unfold putO at he
    rw [List.getElem?_set_ne (Ne.symm hj)] at he
    by_cases hk : j < ds.length
    · rw [List.getElem?_append_left hk] at he
      obtain ⟨u, h1, h2⟩ := h.2 j e he
      exact ⟨u, (SlX.putS_ne hj).mpr h1, h2⟩
    · rw [List.getElem?_append_right (by omega), List.getElem?_replicate] at he
      split at he <;> cases he
/-- each instance has its own dict -/
def OwnsOk (H : Hp) : Prop := ∀ a C dx fs, H a = some (.ins C dx fs) → dx ≠ a ∧ H dx = some (.own a)
theorem owns_of {pins : List (Addr × Obj)} {σ : L2.St} {H : Hp} {s : Shared} (I : Inv X pins σ H s) : OwnsOk H := fun a C dx fs e => by
  obtain ⟨mA, O, _, _, _, h⟩ := L2.ins_get I.hok e
  exact ⟨O.ne, h⟩
def sInsS (K : Fg) (C : Addr) (i : Nat) (ta tv : TE) : TS := fun D σ H => tv σ H fun y H1 => ta σ H1 fun x H2 => OwnsOk H2 → ∃ a dx vs, x = .ref a ∧ SlX.Slt H2 a C dx vs ∧ D.nx σ (SlX.slH H2 a C dx (SlX.putS i y vs))
theorem ps_insS {value : Expr} {to tv : TE} {pos' : Pos} (c : SlX.SCls X.K C) (k : SlX.Slot1 X.K C f p i) (ha : PE X o to) (hv : PE X value tv) (hs : swapsWith value (some (.Attribute o f pos')) pos.line X.env = pure false := by rfl) : PS X (.Assign [.Attribute o f pos'] value pos) (sInsS X.K C i to tv) := by
  refine ⟨fun pins s σ H D I h => ?_⟩
  refine plainObj_wpAny_Assign_Attribute (thn (hv.run pins s σ H _ I h) fun u s1 ⟨y, H1, I1, ry, q⟩ => thn (ha.run pins s1 σ H1 _ I1 q) fun ov s2 ⟨x, H2, I2, rx, w⟩ => ?_) hs
  obtain ⟨a, dx, vs, ex, hsl, q2⟩ := w (owns_of I2)
  subst ex
  obtain rfl : ov = Value.ref a := rx
  exact SlX.setslot_ok I2 hsl c k ry fun s3 I3 => ⟨σ, _, I3, q2⟩
theorem slt_dict {H : Hp} {a C dx : Addr} {vs : List (Option V)} (w : OwnsOk H) (h : SlX.Slt H a C dx vs) : H dx = some (.own a) ∨ H dx = some (.xd []) := by
  rcases h with ⟨h, _⟩ | ⟨_, h⟩
  · exact .inl (w _ _ _ _ h).2
  · exact .inr h
theorem slt_mut {H : Hp} {a C dx : Addr} {vs : List (Option V)} (h : SlX.Slt H a C dx vs) : Mut (H a) := by
  rcases h with ⟨h, _⟩ | ⟨h, _⟩ <;> (rw [h]; exact trivial)
theorem slt_trk {H : Hp} {a C dx : Addr} {vs : List (Option V)} (h : SlX.Slt H a C dx vs) : Trk a (H a) := by
  rcases h with ⟨h, _⟩ | ⟨h, _⟩
  · rw [h]; exact trivial
  · rw [h]; exact slO_trk
theorem slH_kp {H : Hp} {a C dx : Addr} {vs vs' : List (Option V)} (w : OwnsOk H) (h : SlX.Slt H a C dx vs) (ne : dx ≠ a) : Kp H (SlX.slH H a C dx vs') := by
  have m := slt_mut h
  have hd := slt_dict w h
  have na : ∀ b u, H b = some u → ¬ Mut (some u) → b ≠ a := fun b u e n z => by subst z; rw [e] at m; exact n m
  have nd : ∀ b u, H b = some u → (∀ x, u ≠ .own x) → u ≠ .xd [] → b ≠ dx := fun b u e n1 n2 z => by
    subst z
    rcases hd with hd | hd
    · rw [hd] at e; cases e; exact n1 _ rfl
    · rw [hd] at e; cases e; exact n2 rfl
  refine ⟨fun b xs e => ?_, fun b o u e => ?_, fun b fs e => ?_, fun b n e => ?_⟩
  rotate_left 3
  · have hb : b ≠ a := fun z => by
      subst z
      have t := slt_trk h
      rw [e] at t
      exact t n rfl
    rw [SlX.slH_ne hb (nd b _ e (fun _ z => by unfold LamX.CodeO at z; cases z) fun z => by unfold LamX.CodeO at z; cases z)]; exact e
  · rw [SlX.slH_ne (na b _ e fun z => z) (nd b _ e (fun _ z => nomatch z) fun z => nomatch z)]; exact e
  · rw [SlX.slH_ne (na b _ e fun z => z) (nd b _ e (fun _ z => nomatch z) fun z => nomatch z)]; exact e
  · have hb := na b _ e fun z => z
    by_cases hx : b = dx
    · subst hx
      have hfs : fs = [] := by
        rcases hd with hd | hd
        · rw [hd] at e; cases e
        · rw [hd] at e; cases e; rfl
      subst hfs
      unfold SlX.slH
      rw [upd_ne hb, upd_same]
    · rw [SlX.slH_ne hb hx]; exact e
theorem RG.slot {K : Fg} {H : Hp} {g : DG} {a dx : Addr} {vs : List (Option V)} {ds es : List (Option DV)} {vs' : List (Option V)} (w : OwnsOk H) (r : RG K H g) (eg : g a = some (.ins C ds)) (h : SlX.Slt H a C dx vs) (ne : dx ≠ a) (rd : SlD K H es vs') :
    RG K (SlX.slH H a C dx vs') (gup g a (.ins C es)) := fun b o e => by
  have kp := slH_kp (vs' := vs') w h ne
  by_cases hb : b = a
  · subst hb
    rw [gup_same] at e; cases e
    exact ⟨dx, vs', ne, SlX.slH_slt ne, rd.mono kp⟩
  · rw [gup_ne hb] at e
    have ro := r b o e
    have hd := slt_dict w h
    by_cases hx : b = dx
    · subst hx
      obtain ⟨u, e1, m⟩ := ro.some
      rcases hd with hd | hd
      · rw [hd] at e1; cases e1
        cases o with
        | lst ds => obtain ⟨_, z, _⟩ := ro; rw [hd] at z; cases z
        | dK _ _ => obtain ⟨_, z, _⟩ := ro; rw [hd] at z; cases z
        | dT _ _ => obtain ⟨_, z, _⟩ := ro; rw [hd] at z; cases z
        | ins C2 ds2 =>
          obtain ⟨dx2, vs2, _, z | z, _⟩ := ro
          · rw [hd] at z; cases z.1
          · rw [hd] at z; unfold SlX.SlO at z; cases z.1
        | tbl q => obtain ⟨_, z, _⟩ := ro; rw [hd] at z; cases z
      · cases o with
        | lst ds => obtain ⟨_, z, _⟩ := ro; rw [hd] at z; cases z
        | dK _ _ => obtain ⟨_, z, _⟩ := ro; rw [hd] at z; cases z
        | dT _ _ => obtain ⟨_, z, _⟩ := ro; rw [hd] at z; cases z
        | ins C2 ds2 =>
          obtain ⟨dx2, vs2, _, z | z, _⟩ := ro
          · rw [hd] at z; cases z.1
          · rw [hd] at z; unfold SlX.SlO at z; cases z.1
        | tbl q => obtain ⟨_, z, _⟩ := ro; rw [hd] at z; cases z
    · have eb : SlX.slH H a C dx vs' b = H b := SlX.slH_ne hb hx
      cases o with
      | lst ds => obtain ⟨us, q, rr⟩ := ro; exact ⟨us, eb.trans q, rr.mono kp⟩
      | dK ks ds => obtain ⟨us, q, x, rr⟩ := ro; exact ⟨us, eb.trans q, x, rr.mono kp⟩
      | dT ks ds => obtain ⟨us, q, x, rr⟩ := ro; exact ⟨us, eb.trans q, x, rr.mono kp⟩
      | tbl q =>
        obtain ⟨ps, e1, e2, e3⟩ := ro
        refine ⟨ps, eb.trans e1, e2, fun pos cv hc => ?_⟩
        obtain ⟨c, z1, z2⟩ := e3 pos cv hc
        exact ⟨c, z1, kp.e _ _ z2⟩
      | ins C2 ds2 =>
        obtain ⟨dx2, vs2, ne2, z, rr⟩ := ro
        rcases z with z | z
        · have hne : dx2 ≠ dx := fun q => by
            subst q
            have z1 := (w _ _ _ _ z.1).2
            rcases hd with hd | hd
            · rw [hd] at z1; cases z1; exact hb rfl
            · rw [hd] at z1; cases z1
          have hna : dx2 ≠ a := fun q => by
            subst q
            have z1 := (w _ _ _ _ z.1).2
            rcases h with h | h
            · rw [h.1] at z1; cases z1
            · rw [h.1] at z1; unfold SlX.SlO at z1; cases z1
          exact ⟨dx2, vs2, ne2, .inl ⟨eb.trans z.1, z.2⟩, rr.mono kp⟩
        · exact ⟨dx2, vs2, ne2, .inr ⟨eb.trans z.1, kp.x _ _ z.2⟩, rr.mono kp⟩
theorem Ext.slot {H : Hp} {g : DG} {a dx : Addr} {vs vs' : List (Option V)} {u : DO} {o : DO} (w : OwnsOk H) (eg : g a = some u) (h : SlX.Slt H a C dx vs) : Ext g H (gup g a o) (SlX.slH H a C dx vs') := fun b x e n hw => by
  have hb : b ≠ a := fun z => by subst z; rw [eg] at n; cases n
  refine ⟨?_, by rw [gup_ne hb]; exact n⟩
  by_cases hx : b = dx
  · subst hx
    rcases slt_dict w h with hd | hd
    · rw [hd] at e; cases e; exact absurd trivial hw
    · rw [hd] at e; cases e
      unfold SlX.slH
      rw [upd_ne hb, upd_same]
  · rw [SlX.slH_ne hb hx]; exact e
def stoK (C : Addr) (i : Nat) (x y : DV) (g : DG) (R : DG → Prop) : Prop := match x with
  | .ref p => (match g p with | some (.ins C' ds) => C' = C ∧ R (gup g p (.ins C (putO i y ds))) | _ => False)
  | _ => False
def dSto (C : Addr) (i : Nat) (to tv : TDE) : TDS := fun E δ g => tv δ g fun y g1 => to δ g1 fun x g2 => stoK C i x y g2 fun g3 => E.nx δ g3
theorem pds_sto {value : Expr} {to tv : TDE} {pos' : Pos} (c : SlX.SCls X.K C) (k : SlX.Slot1 X.K C f p i) (ha : PE X o (upE X.K to)) (hv : PE X value (upE X.K tv)) (hs : swapsWith value (some (.Attribute o f pos')) pos.line X.env = pure false := by rfl) :
    PS X (.Assign [.Attribute o f pos'] value pos) (upS X.K (dSto C i to tv)) := by
  refine PS_weak (ps_insS c k ha hv hs) fun D σ H ⟨δ, g, E, rs, rg, h, k1, _⟩ => ?_
  refine ⟨δ, g, _, rs, rg, h, fun y g1 u H1 e1 rg1 ry h1 => ⟨δ, g1, _, rs.mono (e1.kp rg), rg1, h1, fun x g2 v H2 e2 rg2 rx h2 w => ?_⟩⟩
  unfold stoK at h2
  split at h2
  · cases rx
    split at h2
    · rename_i C' ds eg
      obtain ⟨rfl, h2⟩ := h2
      obtain ⟨dx, vs, ne, hsl, sd⟩ := rg2 _ _ eg
      have ex := (e1.trans e2).trans (Ext.slot (vs' := SlX.putS i u vs) (o := .ins C' (putO i y ds)) w eg hsl)
      exact ⟨_, dx, vs, rfl, hsl, k1 _ _ _ _ ex (RG.slot w rg2 eg hsl ne (sd.put i (ry.mono (e2.kp rg1)))) (rs.mono (ex.kp rg)) h2⟩
    · exact h2.elim
  · exact h2.elim
/-! ### C(..), locked when its __init__ is through -/
def mkK (C p : Addr) (Q : DV → DG → Prop) (r : DV) (g : DG) : Prop := r = .non ∧ ∃ ds : List DV, g p = some (.ins C (ds.map some)) ∧ ds ≠ [] ∧ Q (.ins C ds) (gdel g p)
def dMk (C : Addr) (sp : SpD) (t : TDA) : TDE := fun δ g Q => t δ g fun ds g1 => ∀ p, g1 p = none → sp (.ref p :: ds) (gup g1 p (.ins C [])) (mkK C p Q)
theorem slD_full {K : Fg} {H : Hp} : ∀ {ds : List DV} {vs : List (Option V)}, SlD K H (ds.map some) vs → ∃ us : List V, vs = us.map some ∧ RDs K H ds us
  | [], vs, h => by
    have z := h.1
    cases vs with
    | nil => exact ⟨[], rfl, .nil⟩
    | cons _ _ => simp at z
  | d :: ds, vs, h => by
    cases vs with
    | nil => have z := h.1; simp at z
    | cons v vs =>
      obtain ⟨u, e, r⟩ := h.2 0 d rfl
      have e' : v = some u := by simpa using e
      subst e'
      obtain ⟨us, e2, r2⟩ := slD_full (ds := ds) (vs := vs) ⟨by have := h.1; simpa using this, fun i d e => by
        obtain ⟨w, a, b⟩ := h.2 (i + 1) d (by simpa using e)
        exact ⟨w, by simpa using a, b⟩⟩
      subst e2
      exact ⟨u :: us, rfl, .cons r r2⟩
theorem rg_mkI {K : Fg} {H : Hp} {g : DG} {x dx : Addr} (r : RG K H g) (hx : H x = none) (hd : H dx = none) (ne : dx ≠ x) : RG K (upd (upd H dx (.own x)) x (.ins C dx [])) (gup g x (.ins C [])) := fun a o e => by
  have k1 : Kp H (upd H dx (.own x)) := Kp.fresh hd
  have hx' : upd H dx (.own x) x = none := by rw [upd_ne (Ne.symm ne)]; exact hx
  have k2 : Kp (upd H dx (.own x)) (upd (upd H dx (.own x)) x (.ins C dx [])) := Kp.fresh hx'
  by_cases ha : a = x
  · subst ha
    rw [gup_same] at e; cases e
    exact ⟨dx, [], ne, .inl ⟨upd_same, rfl⟩, rfl, fun i d e => by simp at e⟩
  · rw [gup_ne ha] at e
    obtain ⟨u, e1, _⟩ := (r a o e).some
    exact (r a o e).keep (k1.trans k2) (by rw [upd_ne ha, upd_ne (ne_of_none e1 hd)])
theorem Ext.mkI {H : Hp} {g : DG} {x dx : Addr} {o : DO} {u w : HO} (hx : H x = none) (hd : H dx = none) : Ext g H (gup g x o) (upd (upd H dx u) x w) := fun a z e n _ => by
  have ha := ne_of_none e hx
  exact ⟨by rw [upd_ne ha, upd_ne (ne_of_none e hd)]; exact e, by rw [gup_ne ha]; exact n⟩
theorem gdel_gup {g : DG} {x : Addr} {o : DO} (h : g x = none) : gdel (gup g x o) x = g := by
  funext b; unfold gdel gup
  by_cases hb : b = x
  · subst hb; rw [if_pos rfl]; exact h.symm
  · rw [if_neg hb, if_neg hb]
theorem pd_mk {x : Str} {p0 : Pos} (M : Mk X.K C q) (F : FnR X.prog X.w X.K X.mg X.base CX0 n q (upSp X.K sp)) (hr : Room (n + 1) X.A) (hm : X.mg x = some (.ref C)) (ha : PA X (e :: es) (upA X.K ta)) (hg : Gl X x := by rfl) (hdb : (x == ("__debug__" : Str)) = false := by decide)
    (he : starEach (e :: es) X.env = (false, eval e X.env) :: starEach es X.env := by rfl) (hpl : (backTo pos (starEach es X.env)).any (·.1) = false := by rfl) : PE X (.Call (.Name x p0) (e :: es) [] pos) (upE X.K (dMk C sp ta)) := by
  refine PE_weak (PE_fz (StX.pe_makeR (E := fun _ _ _ => False) M F hr hg hm pass0 ha hdb he hpl)) fun σ H Q ⟨δ, g, P, rs, rg, h, k⟩ => ⟨δ, g, _, rs, rg, h, fun ds g1 vs H1 e1 rg1 rd1 h1 y dx hx hd ne => ?_⟩
  have gx : g1 y = none := rg1.none hx
  have ex0 : Ext g1 H1 (gup g1 y (.ins C [])) (upd (upd H1 dx (.own y)) y (.ins C dx [])) := Ext.mkI hx hd
  refine ⟨.ref y :: ds, gup g1 y (.ins C []), _, .cons (.ref y) (rd1.mono (ex0.kp rg1)), rg_mkI rg1 hx hd ne, h1 y gx, fun d g' v H' e' rg' rd' p' => ?_⟩
  obtain ⟨rfl, fs, eg, hne, p'⟩ := p'
  cases rd'
  refine ⟨rfl, ?_⟩
  obtain ⟨dx', ws, ne', hsl, sd⟩ := rg' _ _ eg
  obtain ⟨us, rfl, rds⟩ := slD_full sd
  have hyx : H' y = some (SlX.SlO y C dx' (us.map some)) ∧ H' dx' = some (.xd []) := by
    rcases hsl with ⟨_, z⟩ | z
    · cases us with
      | nil => cases rds; exact absurd rfl hne
      | cons _ _ => cases z
    · exact z
  refine .inr ⟨y, _, rfl, hyx.1, trivial, fun od => ?_⟩
  have kp : Kp H' (upd H' y (.frz od (SlX.SlO y C dx' (us.map some)))) := Kp.mut (by rw [hyx.1]; exact slO_trk)
  have ext : Ext g H (gdel g' y) (upd H' y (.frz od (SlX.SlO y C dx' (us.map some)))) := fun a o ea na hw => by
    obtain ⟨z1, z2⟩ := e1 a o ea na hw
    have hay : a ≠ y := ne_of_none z1 hx
    obtain ⟨w1, w2⟩ := ex0 a o z1 z2 hw
    obtain ⟨w3, w4⟩ := e' a o w1 w2 hw
    exact ⟨by rw [upd_ne hay]; exact w3, by unfold gdel; rw [if_neg hay]; exact w4⟩
  have rg2 : RG X.K (upd H' y (.frz od (SlX.SlO y C dx' (us.map some)))) (gdel g' y) := fun a o ea => by
    unfold gdel at ea
    by_cases hay : a = y
    · rw [if_pos hay] at ea; cases ea
    · rw [if_neg hay] at ea
      exact (rg' a o ea).keep kp (upd_ne hay)
  exact k _ _ _ _ ext rg2 (.ins ⟨od, dx', upd_same, kp.x _ _ hyx.2⟩ (rds.mono kp)) p'
end
end DL

/-! Deep layer L: operators, tests and built-ins that ask an instance's own methods. -/
namespace DL
open PySem PySem.Spec PyProof.Rows L2 Builtin
def tyNames : List String := ["NoneType", "bool", "int", "str", "tuple", "list", "dict"]
section
variable {X : Cx} {CX : CXT} {pins : List (Addr × Obj)} {σ : L2.St} {H : Hp} {s : Shared} {C g : Addr} {n : Nat} {sp : Sp} {EX : XK}
/-! ### the same by content -/
variable {sd : SpD} {K : Fg}
/-- no built-in class stands below C -/
def NoSub (K : Fg) (C : Addr) : Prop := (tyNames.all fun a => PySem.W.notFirst K C (.type a)) = true
/-! ### y in x, y not in x -/
/-! ### len(x) -/
/-! ### isinstance(x, T), T a class of the text -/
def rIsiC (K : Fg) (T : Addr) : List V → Hp → VK → Prop := fun xs H Q => rInsIsi K T (.ref T) true xs H Q ∨ rIsiY K xs H Q
theorem cr_isiC (hc : SlX.SCls X.K C) (hi : SlX.SIsi X.K C) (hk : PySem.W.kitOne X.K (.ref C) (.ref C) = some true) : CallR X (.builtin "isinstance") (rIsiC X.K C) := by
  intro pins s σ H xs us Q I r h
  rcases h with h | h
  · exact cr_insIsi hc hi hk pins s σ H xs us Q I r h
  · exact call_isiY pins s σ H xs us Q I r h
def rrIsiC (T : Addr) : RRs := rr2 fun x y g P => y = .ref T ∧ (((slD g T x).isSome = true ∧ P (.bl true)) ∨ ((tyNm g x).isSome = true ∧ P (.bl false)))
/-- no built-in value is of the class -/
def NoIsi (K : Fg) (T : Addr) : Prop := (tyNames.all fun a => PySem.W.kitOne K (.type a) (.ref T) == some false) = true
theorem ref_isiC (hF : NoIsi K C) : RefCall K (rrIsiC C) (rIsiC K C) := by
  intro xs P vs H g Q rg r k h
  obtain ⟨x, y, v, u, rfl, rfl, rx, ry, ey, h2⟩ := rr2_of r h
  clear h r
  subst ey
  cases ry
  cases h2 with
  | inl h =>
    obtain ⟨h1, h⟩ := h
    obtain ⟨ds, es⟩ := Option.isSome_iff_exists.mp h1
    obtain ⟨a, vs, rfl, hi, _⟩ := slD_of rg rx es
    exact .inl ⟨a, vs, .ref C, rfl, rfl, fun w z => z, hi, .inl (k _ _ H Ext.refl rg (.bl _) h)⟩
  | inr h =>
    obtain ⟨h1, h⟩ := h
    obtain ⟨a, ea⟩ := Option.isSome_iff_exists.mp h1
    obtain ⟨m, ty⟩ := tyNm_of rg rx ea
    exact .inr ⟨v, .ref C, _, _, false, rfl, .own C, ty, beq_iff_eq.mp (List.all_eq_true.mp hF a m), .inl (k _ _ H Ext.refl rg (.bl _) h)⟩
end
end DL

/-! Deep layer M: dicts with tuples as keys. -/
namespace DL
open PySem PySem.Spec PyProof.Rows L2
section
variable {X : Cx}
/-- d[y] = z by a comprehension, whatever the keys are -/
theorem dset_put {pinz : List (Addr × Obj)} {σ : L2.St} {G G' : Hp} {t : Shared} {E : Value → Shared → Prop} {D : Addr} {y z : V} {yu zu : Value} {R : Unit → Shared → Prop} (room : X.A.units + 1 < cLine) (J : Inv X pinz σ G t) (p : DPut G D y z G')
    (ry : RelV y yu) (rz : RelV z zu) (h : ∀ t', Inv X pinz σ G' t' → R () t') : wpAny (model X.prog X.w) X.A (dictSet D yu zu) R E t := by
  rcases p with ⟨kvs, k, e, ey, l, eG⟩ | ⟨kvs, k, b, e, ey, eb, l, eG⟩
  · subst ey eG
    exact d_dictSet J e l ry rz h
  · subst ey eG
    cases (show yu = Value.ref b from ry)
    obtain ⟨l1, nd, ks, rel, dd⟩ := dt_of J.hok e
    have l2 : (putK kvs k z).length ≤ sizeLine := Nat.le_trans (length_putK kvs k z) l
    refine wpAny_dictSet_heap (hsz := by rw [← Paired.length rel]; exact l1) (show (tupleKind (mixKind X.prog X.w)).room X.A from (by show X.A.units < cLine; omega)) (key_of J.hok eb) dd fun h' dd' sb => h _ ?_
    obtain ⟨q, es, ep, hq, z1, z2, z3, _, z5⟩ := dd'
    refine d_write J (by rw [e]; exact True.intro) sb ⟨q, hq⟩ ⟨l2, nd, _, (rel.put k eb rz).keeps fun c ys ec => ?_, q, es, ep, hq, z1, z2, z3, z5⟩
    rw [upd_ne (ne_of ec e (fun w => nomatch w))]
    exact ec
/-- {k: v for target in iter if ..}: D the new dict -/
def tDcA (o0 : HO) (wi : TI) (tg : TG) (tt : TT) (tk tv : TE) (vs : List Nat) : TE := fun σ H Q => wi σ H fun J H1 => ∀ D, H1 D = none → ∃ W : Nat → Nat → Hp → Prop, (∃ m, W 0 m (upd H1 D o0)) ∧ ∀ i m G, W i m G →
  (J.stop i G ∧ Q (.ref D) G) ∨ (J.go i G ∧ ∃ Nx : Hp → Prop, (∀ G', Nx G' → ∃ m', m' < m ∧ W (i + 1) m' G') ∧ ∀ x G', J.yld i G x G' → tg x (wipe σ vs) G' fun σ2 G2 => wipe σ2 vs = wipe σ vs ∧ tt σ2 G2 fun b G3 =>
    if b = true then tk σ2 G3 fun y G4 => tv σ2 G4 fun z G5 => ∃ G6, DPut G5 D y z G6 ∧ Nx G6 else Nx G3)
def EmptyD (o0 : HO) : Prop := o0 = .dK [] ∨ o0 = .dT []
theorem empty_ok {P : Program} {w : World} {G : Hp} {o0 : HO} (h : EmptyD o0) (hp : Heap) (hb : sysModules < hp.objs.size) : ObjOk P w G (hp.push { cls := .type "dict", data := .dict #[] }) hp.objs.size o0 := by
  rcases h with h | h <;> subst h
  · exact dk_empty hp hb
  · exact dt_empty hp hb
theorem pe_dcA {kx vx tgx iter : Expr} {ifs : List Expr} {scope : Scope} {own : List (Str × Nat)} {pos : Pos} {wi : TI} {tg : TG} {tt : TT} {tk tv : TE} {o0 : HO} (h0 : EmptyD o0) (room : X.A.units + 1 < cLine) (calm : X.calm = true) (nd : X.N.Nodup) (hi : PI X tgx iter wi) (ok : BlkOk X.N X.env.scope scope own)
    (hg : ∀ (s : Shared) (H : Hp) (C : Addr) (cl : List (Str × Addr)) (fp : List Addr), PG (X.blk s H scope (compEnvC scope cl C X.env) fp) tgx tg) (ht : ∀ (s : Shared) (H : Hp) (C : Addr) (cl : List (Str × Addr)) (fp : List Addr), PTs (X.blk s H scope (compEnvC scope cl C X.env) fp) ifs tt)
    (hk : ∀ (s : Shared) (H : Hp) (C : Addr) (cl : List (Str × Addr)) (fp : List Addr), PE (X.blk s H scope (compEnvC scope cl C X.env) fp) kx tk)
    (he : ∀ (s : Shared) (H : Hp) (C : Addr) (cl : List (Str × Addr)) (fp : List Addr), PE (X.blk s H scope (compEnvC scope cl C X.env) fp) vx tv) (hs : ∀ x, foldedSetIterable iter X.env x = pure x := by intro _; rfl) :
    PE X (.DictComp kx vx [⟨tgx, iter, ifs, 0⟩] scope pos) (tDcA o0 wi tg tt tk tv (own.map (·.2))) := by
  refine ⟨fun pinz s σ H Q J0 h => ?_⟩
  rw [arm_eval_DictComp]
  have free : ∀ y ∈ scope.names, y.2 = .free → ∃ c, X.env.cells.lookup y.1 = some c := fun y hy e => (ok.free y hy e).elim (fun k => J0.ok.has _ (.inl k)) fun k => J0.ok.has _ (.inr k)
  refine wpAny_comprehension_free (use := none) rfl hs (closure_ok free) ok.kind (fun y hy e => by rw [ok.uniq y hy, e]) (thn (hi.run pinz s σ H _ J0 h) fun xv s1 w1 => thn w1 fun itv s2 w2 => ?_)
  obtain ⟨it, fp, walk, J, H2, e, I2, T, at2, free2, q⟩ := w2
  subst e
  refine wpAny_newObj_type (newEnv_comp ?_)
  -- the dict, behind it the block's own names
  obtain ⟨D, hD⟩ : ∃ D, D = s2.heap.objs.size := ⟨_, rfl⟩
  have hD2 : H2 D = none := by rw [hD]; exact I2.hok.fresh (Nat.le_refl _)
  obtain ⟨W, ⟨m0, w0⟩, turn⟩ := q D hD2
  obtain ⟨s3, e3⟩ : ∃ s3 : Shared, s3 = { s2 with heap := s2.heap.push { cls := .type "dict", data := .dict #[] } } := ⟨_, rfl⟩
  have p3 : s3.heap = s2.heap.push { cls := .type "dict", data := .dict #[] } := by rw [e3]
  obtain ⟨H3, eH3⟩ : ∃ H3, H3 = upd H2 D o0 := ⟨_, rfl⟩
  rw [← eH3] at w0
  have I3 : Inv X pinz σ H3 s3 := by
    rw [e3, eH3, hD]
    exact I2.laid (t' := s2.toks) (fun b o e => Heap.get?_push_of_some _ e) (Nat.le_refl _) (empty_ok h0 s2.heap I2.big)
  have old : ∀ b ∈ fp, b < s2.heap.objs.size := fun b hb => let ⟨o, e, _⟩ := T.obj _ _ at2 b hb; Heap.lt_size e
  have free3 : ∀ b ∈ fp, FpOk X pinz H3 b ∧ b < s3.heap.objs.size := fun b hb => by
    have hlt := old b hb
    refine ⟨⟨?_, (free2 b hb).2⟩, by rw [p3, Heap.size_push]; exact Nat.lt_succ_of_lt hlt⟩
    rw [eH3, upd_ne (by rw [hD]; exact Nat.ne_of_lt hlt)]
    exact (free2 b hb).1
  have at3 : walk 0 s3.heap := T.keep _ _ _ at2 fun b _ o e => by rw [p3]; exact Heap.get?_push_of_some _ e
  have I4 := block_start I3 ok nd free3
  obtain ⟨cl, hcl⟩ : ∃ cl, cl = cellsFrom (s3.heap.objs.size + 1) scope.names (cloFrom X.env.cells scope.names []) := ⟨_, rfl⟩
  have pg := hg s3 H3 s3.heap.objs.size cl fp
  have pt := ht s3 H3 s3.heap.objs.size cl fp
  have pk := hk s3 H3 s3.heap.objs.size cl fp
  have pv := he s3 H3 s3.heap.objs.size cl fp
  rw [← hcl] at I4
  obtain ⟨ce, hce⟩ : ∃ ce, ce = compEnvC scope cl s3.heap.objs.size X.env := ⟨_, rfl⟩
  have locals : ce.locals = s3.heap.objs.size := by rw [hce]; rfl
  rw [← hce] at I4 pg pt pk pv
  obtain ⟨s4, e4⟩ : ∃ s4 : Shared, s4 = { s3 with heap := pushCells (s3.heap.push { cls := .type "dict", data := .dict #[] }) scope.names } := ⟨_, rfl⟩
  rw [← e4] at I4
  have at4 : walk 0 s4.heap := T.keep _ _ _ at3 fun b _ o e => by rw [e4]; exact pushCells_keeps _ _ _ _ (Heap.get?_push_of_some _ e)
  have quiet : ∀ {σ' : L2.St} {G : Hp} {t : Shared}, Inv (X.blk s3 H3 scope ce fp) [] σ' G t → (∀ b ∈ fp, G b = none) → ∀ b ∈ fp, FpOk (X.blk s3 H3 scope ce fp) [] G b := fun {σ' G t} I' n b hb =>
    ⟨n b hb, (I'.ok.exf b hb).1, I'.ok.exfs b hb, .inl hb, fun x c e => (I'.ok.exf b hb).2 x c e, fun p hp => absurd (show p ∈ ([] : List (Addr × Obj)) ++ [] from hp) (by simp)⟩
  have loop : codeAny (model X.prog X.w) X.A (.compLoop (.DictComp kx vx [⟨tgx, iter, ifs, 0⟩] scope pos) 0 (.ref it) (.ref D) ce) (compPost (model X.prog X.w) X.A X.xe none (EP X pinz σ Q) (.ref D) s3.heap.objs.size) s4 := by
    refine compLoop_anyD (fun n t => ∃ i G, Inv (X.blk s3 H3 scope ce fp) [] (wipe σ (own.map (·.2))) G t ∧ walk i t.heap ∧ (∀ b ∈ fp, G b = none) ∧ W i n G) ?_ m0 ⟨0, H3, I4, at4, fun b hb => (free3 b hb).1.1, w0⟩
    rintro n t ⟨i, G, I5, at5, n5, w5⟩
    rcases turn i n G w5 with ⟨stop, fin⟩ | ⟨go, Nx, less, step⟩
    · refine thnF (T.done (X.blk s3 H3 scope ce fp) rfl rfl rfl calm i [] t _ G (fun _ _ => False) I5 (quiet I5 n5) at5 stop) fun r t6 ⟨er, I6⟩ => ?_
      subst er
      have I7 : Inv X pinz σ G t6 := I3.call' (ch := fp) I6.os I6.base I6.hok I6.bare fun b hb => ⟨(free3 b hb).1.2.2.2.1, (free3 b hb).1.2.1, (free3 b hb).1.2.2.2.2.1, (free3 b hb).1.2.2.2.2.2⟩
      have noC : G s3.heap.objs.size = none := by rw [← locals]; exact I6.free
      obtain ⟨m, hn, _⟩ := I6.loc
      have hn : t6.heap.Ns ce.locals m := hn
      rw [locals] at hn
      obtain ⟨f0, f1, f2, f3, f4, f5⟩ := I3.fpOk (Nat.le_refl _) noC
      exact ⟨m, hn, fun h'' sb => ⟨.ref D, G, I7.turned (t' := t6.toks) (fun b o hb e => (sb.2 b hb).trans e) f0 f1 f3 f4 f5, rfl, fin⟩⟩
    · refine thnF (T.item (X.blk s3 H3 scope ce fp) rfl rfl rfl calm i [] t _ G (fun _ _ => False) I5 (quiet I5 n5) at5 go) fun r t6 ⟨u, er, w6⟩ => ?_
      subst er
      refine thnF w6 fun _ t7 ⟨x, G7, I7, r7, y7, at7, n7⟩ => ?_
      refine thnF (pg.run _ t7 _ G7 x u _ (I7.pinned (quiet I7 n7) (T.obj _ _ at7)) r7 (step x G7 y7)) fun _ t8 ⟨σ8, G8, I8, wp8, q8⟩ => ?_
      refine thnF (pt.run _ t8 σ8 G8 _ I8 q8) fun b t9 ⟨G9, I9, q9⟩ => ?_
      have done : ∀ {t' : Shared} {G' : Hp}, Inv (X.blk s3 H3 scope ce fp) ([] ++ pinsAt fp t7.heap) σ8 G' t' → Nx G' → ∃ m, m < n ∧ ∃ i G', Inv (X.blk s3 H3 scope ce fp) [] (wipe σ (own.map (·.2))) G' t' ∧ walk i t'.heap ∧ (∀ b ∈ fp, G' b = none) ∧ W i m G' := fun {t' G'} I' nx => by
        obtain ⟨m', hm, w'⟩ := less G' nx
        have held : ∀ b ∈ fp, ∀ o, t7.heap.get? b = some o → t'.heap.get? b = some o ∧ G' b = none := fun b hb o e =>
          let z := I'.pin (b, o) (List.mem_append_right _ (List.mem_append_right _ (mem_pinsAt hb e)))
          ⟨z.1, z.2.1⟩
        refine ⟨m', hm, i + 1, G', (I'.unpinned (pins := [])).weak (by rw [← wp8, wipe_length]) (fun j v e => by rw [← wp8] at e; exact (wipe_some e).1), T.keep _ _ _ at7 fun b hb o e => (held b hb o e).1, fun b hb => ?_, w'⟩
        obtain ⟨o, e, _⟩ := T.obj _ _ at7 b hb
        exact (held b hb o e).2
      cases b with
      | false =>
        simp only [Bool.false_eq_true, if_false] at q9 ⊢
        exact done I9 q9
      | true =>
        simp only [if_true] at q9 ⊢
        refine thnF (pk.run _ t9 σ8 G9 _ I9 q9) fun ku t10 ⟨yk, G10, I10, r10, q10⟩ => ?_
        refine thnF (pv.run _ t10 σ8 G10 _ I10 q10) fun vu t11 ⟨yv, G11, I11, r11, G12, put, nx⟩ => ?_
        exact dset_put (X := X.blk s3 H3 scope ce fp) room I11 put r10 r11 fun t12 I12 => done I12 nx
  have start := codeAny_compStart_dict loop (T.self X.A 0 _ _ _ at4 loop)
  rw [e4, hce, hcl, hD] at start
  subst e3
  exact start
/-! ### the same by content -/
def keysK : List DV → Option (List Key)
  | [] => some []
  | d :: r => match keyK d, keysK r with | some k, some ks => some (k :: ks) | _, _ => none
def keyT : DV → Option (List Key)
  | .tup ds => keysK ds
  | _ => none
theorem keysK_of {K : Fg} {H : Hp} : ∀ {ds : List DV} {vs : List V} {ks : List Key}, RDs K H ds vs → keysK ds = some ks → vs = ks.map kV
  | [], _, ks, .nil, h => by cases h; rfl
  | d :: ds, _, ks, .cons r t, h => by
    unfold keysK at h
    split at h
    · rename_i k ks' e1 e2
      cases h
      rw [keysK_of t e2, keyK_of r e1]; rfl
    · cases h
theorem keyT_of {K : Fg} {H : Hp} {d : DV} {v : V} {k : List Key} (r : RD K H d v) (h : keyT d = some k) : ∃ b, v = .ref b ∧ H b = some (.tup (k.map kV)) := by
  cases r with
  | tup hs hr => exact ⟨_, rfl, by rw [hs, keysK_of hr h]⟩
  | _ => cases h
theorem keysK_ints : ∀ ns : List Int, keysK (ns.map DV.int) = some (ns.map Sum.inl)
  | [] => rfl
  | n :: r => by
    rw [List.map_cons, keysK, keysK_ints r]; rfl
theorem keyT_ints (ns : List Int) : keyT (.tup (ns.map DV.int)) = some (ns.map Sum.inl) := keysK_ints ns
def dDcC (tg : Tg) (own : List Nat) (tt : TDT) (tk tv : TDE) (δ : DS) : List DV → List (List Key) → List DV → DG → (List (List Key) → List DV → DG → Prop) → Prop
  | [], ks, vs, g, R => R ks vs g
  | d :: ds, ks, vs, g, R => match bindT tg d (wipeD δ own) with
    | some δ2 => tt δ2 g fun b g3 => if b = true then tk δ2 g3 fun y g4 => tv δ2 g4 fun z g5 => (match keyT y with | some k => dDcC tg own tt tk tv δ ds (putKs ks k) (putDs ks vs k z) g5 R | none => False) else dDcC tg own tt tk tv δ ds ks vs g3 R
    | none => False
def dDcT (wi : TDI) (tg : Tg) (own : List Nat) (tt : TDT) (tk tv : TDE) : TDE := fun δ g Q => wi δ g fun ds g1 => ds.length ≤ sizeLine ∧ dDcC tg own tt tk tv δ ds [] [] g1 fun ks vs g2 => Q (.dT ks vs) g2
theorem dcT_up {K : Fg} {wi : TDI} {tg : Tg} {own : List Nat} {tt : TDT} {tk tv : TDE} {δ : DS} {g : DG} {σ : L2.St} {H : Hp} {P : List (List Key) → List DV → DG → Prop} {Q : VK} (hix : ∀ i ∈ tg.ix, i ∈ own) (rs : RS K H δ σ) (rg : RG K H g)
    (h : wi δ g fun ds g1 => ds.length ≤ sizeLine ∧ dDcC tg own tt tk tv δ ds [] [] g1 P)
    (k : ∀ D kvs ys g' H', Ext g H g' H' → RG K H' g' → g' D = none → (∀ o, H D = some o → g D = none → ¬ OwnO o → False) → H' D = some (.dT kvs) → RDs K H' ys (kvs.map (·.2)) → P (kvs.map (·.1)) ys g' → Q (.ref D) H') :
    tDcA (.dT []) (upI K wi) (tgG K tg) (upT K tt) (upE K tk) (upE K tv) own σ H Q := by
  refine ⟨δ, g, _, rs, rg, h, fun ds g1 J H1 e1 rg1 dw p D hD => ?_⟩
  obtain ⟨hlen, p⟩ := p
  have fresh : ∀ o, H D = some o → g D = none → ¬ OwnO o → False := fun o q n w => by
    have := (e1 D o q n w).1
    rw [hD] at this; cases this
  let Inn : Nat → Hp → Prop := fun i H' => Kp H1 H' ∧ ∃ (kvs : List (List Key × V)) (ys : List DV) (g' : DG), Ext g H g' H' ∧ RG K H' g' ∧ g' D = none ∧ H' D = some (.dT kvs) ∧ RDs K H' ys (kvs.map (·.2)) ∧ kvs.length ≤ i ∧
    dDcC tg own tt tk tv δ (ds.drop i) (kvs.map (·.1)) ys g' P
  refine ⟨fun i m H' => m = ds.length - i ∧ i ≤ ds.length ∧ Inn i H', ⟨ds.length, rfl, Nat.zero_le _, Kp.fresh hD, [], [], g1, e1.trans (Ext.fresh rg1 hD), rg1.fresh hD, rg1.none hD, upd_same, .nil, Nat.le_refl _, p⟩, ?_⟩
  rintro i m H2 ⟨rfl, hi, kp2, kvs, ys, g2, e2, rg2, gD, hD2, ra, hacc, q⟩
  by_cases hlt : i < ds.length
  · rw [List.drop_eq_getElem_cons hlt] at q
    unfold dDcC at q
    refine .inr ⟨dw.goes i H2 hlt kp2, Inn (i + 1), fun H' z => ⟨ds.length - (i + 1), by omega, rfl, hlt, z⟩, fun x H3 y => ?_⟩
    obtain ⟨st, rd⟩ := dw.yields i H2 x H3 ds[i] (by simp [hlt]) kp2 y
    split at q
    · rename_i δ3 eb
      have rg3 := step_rg st rg2
      have e3 := step_ext st rg2
      have rs3 : RS K H3 (wipeD δ own) (wipe σ own) := ((rs.mono (e2.kp rg)).mono (step_kp st)).wipe own
      refine tg_run rd rs3 eb fun σ3 rsT hw => ⟨by rw [hw own hix]; exact wipe_wipe σ own, ?_⟩
      have hD3 : H3 D = some (.dT kvs) := (e3 D _ hD2 gD fun z => z).1
      refine ⟨δ3, g2, _, rsT, rg3, q, fun b g4 H4 e4 rg4 z => ?_⟩
      have hD4 := e4 D _ hD3 gD fun z => z
      cases b with
      | false =>
        dsimp only
        rw [if_neg Bool.false_ne_true] at z ⊢
        exact ⟨(kp2.trans (step_kp st)).trans (e4.kp rg3), kvs, ys, g4, (e2.trans e3).trans e4, rg4, hD4.2, hD4.1, (ra.mono (step_kp st)).mono (e4.kp rg3), by omega, z⟩
      | true =>
        dsimp only
        rw [if_pos rfl] at z ⊢
        refine ⟨δ3, g4, _, rsT.mono (e4.kp rg3), rg4, z, fun yk g5 v H5 e5 rg5 rd5 w => ?_⟩
        have hD5 := e5 D _ hD4.1 hD4.2 fun z => z
        refine ⟨δ3, g5, _, (rsT.mono (e4.kp rg3)).mono (e5.kp rg4), rg5, w, fun yv g6 u H6 e6 rg6 rd6 w2 => ?_⟩
        have hD6 := e6 D _ hD5.1 hD5.2 fun z => z
        split at w2
        · rename_i kk ek
          obtain ⟨b, rfl, hb⟩ := keyT_of (rd5.mono (e6.kp rg5)) ek
          have ra6 := (((ra.mono (step_kp st)).mono (e4.kp rg3)).mono (e5.kp rg4)).mono (e6.kp rg5)
          obtain ⟨z1, z2⟩ := putK_rd (k := kk) rd6 ra6
          have km : Kp H6 (upd H6 D (.dT (putK kvs kk u))) := Kp.mut (by rw [hD6.1]; exact True.intro)
          refine ⟨_, DPut.t hD6.1 hb (by omega), ((((kp2.trans (step_kp st)).trans (e4.kp rg3)).trans (e5.kp rg4)).trans (e6.kp rg5)).trans km, putK kvs kk u, putDs (kvs.map (·.1)) ys kk yv, g6, fun a o ha hn hw => ?_, fun a o ha => ?_, hD6.2, upd_same, z2.mono km, ?_, by rw [z1]; exact w2⟩
          · obtain ⟨z1, z2⟩ := ((e2.trans e3).trans ((e4.trans e5).trans e6)) a o ha hn hw
            exact ⟨by rw [upd_ne (fun q => by subst q; exact fresh o ha hn hw)]; exact z1, z2⟩
          · have na : a ≠ D := fun q => by subst q; rw [hD6.2] at ha; cases ha
            exact (rg6 a o ha).keep km (upd_ne na)
          · have := length_putK kvs kk u; omega
        · exact w2.elim
    · exact q.elim
  · have ei : i = ds.length := by omega
    subst ei
    rw [List.drop_length] at q
    exact .inl ⟨dw.stops H2 kp2, k D kvs ys g2 H2 e2 rg2 gD fresh hD2 ra q⟩
variable {kx vx iter tgx : Expr} {ifs : List Expr} {scope : Scope} {own : List (Str × Nat)} {wi : TDI} {tg : Tg} {tt : TDT} {tk tv : TDE} {pos : Pos}
theorem pd_dcT (room : X.A.units + 64 < cLine) (hc : X.calm = true) (hN : X.N.Nodup) (hi : PI X tgx iter (upI X.K wi)) (ok : BlkOk X.N X.env.scope scope own)
    (hg : ∀ (s : Shared) (H : Hp) (C : Addr) (cl : List (Str × Addr)) (fp : List Addr), PG (X.blk s H scope (compEnvC scope cl C X.env) fp) tgx (tgG X.K tg)) (ht : ∀ (s : Shared) (H : Hp) (C : Addr) (cl : List (Str × Addr)) (fp : List Addr), PTs (X.blk s H scope (compEnvC scope cl C X.env) fp) ifs (upT X.K tt))
    (hk : ∀ (s : Shared) (H : Hp) (C : Addr) (cl : List (Str × Addr)) (fp : List Addr), PE (X.blk s H scope (compEnvC scope cl C X.env) fp) kx (upE X.K tk)) (he : ∀ (s : Shared) (H : Hp) (C : Addr) (cl : List (Str × Addr)) (fp : List Addr), PE (X.blk s H scope (compEnvC scope cl C X.env) fp) vx (upE X.K tv))
    (hix : ∀ i ∈ tg.ix, i ∈ own.map (·.2) := by decide) (hs : ∀ x, foldedSetIterable iter X.env x = pure x := by intro _; rfl) :
    PE X (.DictComp kx vx [⟨tgx, iter, ifs, 0⟩] scope pos) (upE X.K (dDcT wi tg (own.map (·.2)) tt tk tv)) :=
  PE_weak (PE_fz (pe_dcA (.inr rfl) (by omega) hc hN hi ok hg ht hk he hs)) fun σ H Q ⟨δ, g, P, rs, rg, h, k⟩ => dcT_up (P := fun ks vs g2 => P (.dT ks vs) g2) hix rs rg h fun D kvs ys g' H' e rg' gD fresh hD rd p =>
    have km : ∀ o, Kp H' (upd H' D o) := fun o => Kp.mut (by rw [hD]; exact True.intro)
    .inr ⟨D, .dT kvs, rfl, hD, trivial, fun o => k _ g' _ _ (lock_ext e fresh) (fun a u ha => (rg' a u ha).keep (km _) (upd_ne (fun q => by subst q; rw [gD] at ha; cases ha))) (.dT ⟨o, kvs, upd_same, rfl, rfl⟩ (rd.mono (km _))) p⟩
end
end DL

/-! Deep layer N: sorted(.., key=..) of tuples of ints, out of a list or a dict. -/
namespace DL
open PySem PySem.Spec PyProof.Rows L2
/-- what a key function says of a tuple of ints, wherever it is called -/
def KeyT (id : String) (kf : List Int → Int) : Prop := ∀ (prog : Program) (w : World) (A : Around) (s : Shared) (t : Addr) (its : List Value) (ns : List Int), A.handled = none → IsTup s.heap t its.toArray → IntsAre its ns → its.length ≤ sizeLine →
  wpAny (model prog w) A (call (.builtin id) [.ref t]) (PySem.W.KeyPure (.int (kf ns)) s) (fun _ _ => False) s
theorem keyT_sum : KeyT "sum" List.sum := by
  intro prog w A s t its ns hh ht hi hz
  obtain ⟨o, h1, h2, n, h3⟩ := ht
  have hl : s.heap.IsTuple t its.toArray := ⟨o, h1, h2, n, h3⟩
  obtain ⟨xs, hx⟩ := hi.allInts.items
  have hn : numsOf its.toArray.toList = ns := by rw [show its.toArray.toList = its from rfl, hi.numsOf]
  rw [hx] at hl hn
  rw [nums_intItems] at hn
  refine PySem.W.ktm_sumG hh hl fun h' tk t' hk => ⟨h', tk, rfl, hk, ?_⟩
  rw [preSum_eq, List.take_of_length_le (by simp), hn]
  exact .int _ _
/-- tuples of ints at addresses -/
def Tups (H : Hp) (L : List (List Int)) (bs : List Addr) : Prop := Paired (fun ns b => H b = some (.tup (ns.map V.int))) L bs
theorem Tups.length {H : Hp} {L : List (List Int)} {bs : List Addr} (h : Tups H L bs) : L.length = bs.length := Paired.length h
theorem tups_refs : ∀ bs : List Addr, Vals (bs.map V.ref) (bs.map Value.ref)
  | [] => .nil
  | _ :: r => .cons rfl (tups_refs r)
theorem tups_vals : ∀ {bs : List Addr} {us : List Value}, Vals (bs.map V.ref) us → us = bs.map Value.ref
  | [], _, h => by cases h; rfl
  | b :: r, _, h => by
    cases h with
    | cons h1 h2 => rw [tups_vals h2, show _ = Value.ref b from h1]; rfl
theorem tups_zip {H : Hp} : ∀ {L : List (List Int)} {bs : List Addr}, Tups H L bs → ∃ ps : List (List Int × Addr), ps.map Prod.fst = L ∧ ps.map Prod.snd = bs ∧ ∀ p ∈ ps, H p.2 = some (.tup (p.1.map V.int))
  | _, _, .nil => ⟨[], rfl, rfl, fun _ h => nomatch h⟩
  | _, _, .cons (a := a) (b := b) h t => by
    obtain ⟨ps, e1, e2, hp⟩ := tups_zip t
    refine ⟨(a, b) :: ps, by rw [List.map_cons, e1], by rw [List.map_cons, e2], fun p hm => ?_⟩
    rcases List.mem_cons.mp hm with e | hm
    · subst e; exact h
    · exact hp p hm
theorem tups_of {H : Hp} : ∀ {ps : List (List Int × Addr)}, (∀ p ∈ ps, H p.2 = some (.tup (p.1.map V.int))) → Tups H (ps.map Prod.fst) (ps.map Prod.snd)
  | [], _ => .nil
  | p :: ps, h => .cons (h p List.mem_cons_self) (tups_of fun q hq => h q (List.mem_cons_of_mem _ hq))
def leK (kf : List Int → Int) : List Int → List Int → Bool := fun a b => decide (kf a ≤ kf b)
/-- what is sorted: a list or a dict's keys -/
def SrcT (K : Fg) (H : Hp) (a : Addr) (L : List (List Int)) : Prop := (∃ bs, SqL K H a (bs.map V.ref) ∧ Tups H L bs) ∨ ∃ kvs, Rd H a (.dT kvs) ∧ kvs.map (·.1) = L.map (·.map Sum.inl)
section
variable {X : Cx} {pinz : List (Addr × Obj)} {σ : L2.St} {H : Hp} {s : Shared} {a : Addr} {L : List (List Int)}
theorem keys_tups : ∀ {kvs : List (List Key × V)} {xs : List (List Key × Addr × Value)} {L : List (List Int)}, KT H kvs xs → kvs.map (·.1) = L.map (·.map Sum.inl) → Tups H L (xs.map fun x => x.2.1)
  | _, _, [], .nil, _ => .nil
  | _, _, n :: L, .cons h t, e => by
    rw [List.map_cons, List.map_cons] at e
    obtain ⟨e1, e2⟩ := List.cons.inj e
    refine .cons ?_ (keys_tups t e2)
    have q := h.2.1
    rw [e1, List.map_map] at q
    exact q
/-- its items, collected -/
theorem collect_src {A : Around} {E : Value → Shared → Prop} {R : List Value → Shared → Prop} (calm : A.handled = none) (I : Inv X pinz σ H s) (h : SrcT X.K H a L) (hz : L.length ≤ sizeLine)
    (k : ∀ (h' : Heap) (tk : Nat) (bs : List Addr), (∀ b o, s.heap.get? b = some o → h'.get? b = some o) → Tups H L bs → R (bs.map Value.ref) { s with heap := h', toks := tk }) : wpAny (model X.prog X.w) A (collect (.ref a)) R E s := by
  rcases h with ⟨bs, hs, ht⟩ | ⟨kvs, hd, ek⟩
  · obtain ⟨its, rv, pl, hl⟩ := I.list hs
    have ev := tups_vals rv
    subst ev
    refine collect_list pl.isList (k _ s.toks bs (fun b o e => ?_) ht) (by rw [List.length_map, ← ht.length]; exact hz)
    rw [Heap.get?_update_ne _ _ _ _ (Nat.ne_of_lt (Heap.lt_size e))]
    exact Heap.get?_push_of_some _ e
  · obtain ⟨z, lo, xs, pr, o, es, ep, ho, hx, hdt, he, hn⟩ := (show ObjOk X.prog X.w H s.heap a (.dT kvs) from rd_of I.hok hd)
    have l1 : es.size = xs.length := size_of_entries he
    have l2 : kvs.length = xs.length := Paired.length pr
    refine PySem.W.kdu_collect (kdl_raw lo hx hdt) calm ho (by omega) fun h' tk acc kp it => ?_
    have ea : acc.toList = (xs.map fun x => x.2.1).map Value.ref := by
      refine List.ext_getElem? fun j => ?_
      rw [List.map_map, List.getElem?_map]
      cases hj : acc.toList[j]? with
      | none =>
        have h1 := List.getElem?_eq_none_iff.mp hj
        have h2 : acc.toList.length = xs.length := by rw [Array.length_toList, it.1]; exact l1
        rw [List.getElem?_eq_none (by omega)]; rfl
      | some v =>
        obtain ⟨en, hen, hv⟩ := it.2 j v (by rw [← Array.getElem?_toList]; exact hj)
        have q := entry_at he j
        rw [hen] at q
        cases hb : xs[j]? with
        | none => rw [hb] at q; exact nomatch (show some en = none from q)
        | some b =>
          rw [hb] at q
          have e2 : en = entryOfKey (tupleKind (mixKind X.prog X.w)) b := Option.some.inj q
          rw [hv, e2]; rfl
    rw [ea]
    exact k h' tk _ kp (keys_tups pr ek)
/-- sorted(x, key=f) -/
def tSortK (K : Fg) (kf : List Int → Int) (te : TE) : TE := fun σ H Q => te σ H fun x H1 => ∃ a L, x = .ref a ∧ L.length ≤ sizeLine ∧ SrcT K H1 a L ∧ ∀ bs p, Tups H1 (L.mergeSort (leK kf)) bs → H1 p = none → Q (.ref p) (upd H1 p (.lst (bs.map V.ref)))
theorem each_refs {H : Hp} {ps : List (List Int × Addr)} : PySem.W.EachIs (fun (v : Value) (p : List Int × Addr) => v = Value.ref p.2) ((ps.map Prod.snd).map Value.ref) ps := by
  induction ps with
  | nil => exact .nil
  | cons p ps ih => exact .cons rfl ih
theorem each_back {out : List Value} {ps : List (List Int × Addr)} (h : PySem.W.EachIs (fun (v : Value) (p : List Int × Addr) => v = Value.ref p.2) out ps) : out = (ps.map Prod.snd).map Value.ref := by
  induction h with
  | nil => rfl
  | cons e _ ih => rw [e, ih]; rfl
theorem sort_src {id : String} {kf : List Int → Int} {Q : VK} (hk : KeyT id kf) (hr : X.A.units + 64 < cLine) (calm : X.A.handled = none) (I : Inv X pinz σ H s) (h : SrcT X.K H a L) (hz : L.length ≤ sizeLine)
    (ha1 : argsOk "sorted" ⟨[.ref a], [(Str.ofString "key", .builtin id)]⟩) (ha2 : ∀ x, argsOk "list.sort" ⟨[.ref x], [(Str.ofString "key", .builtin id)]⟩)
    (q : ∀ bs p, Tups H (L.mergeSort (leK kf)) bs → H p = none → Q (.ref p) (upd H p (.lst (bs.map V.ref)))) : wpAny (model X.prog X.w) X.A (call (.builtin "sorted") [.ref a] [(Str.ofString "key", .builtin id)]) (EP X pinz σ Q) X.xe s := by
  refine call_function_entry_kw kind_sorted plain_sorted entry_sorted ha1 ?_
  unfold Builtin.«sorted»
  refine wpAny_bind (m := checkCount "sorted" 1 1 _) (wpAny_pure ?_)
  refine wpAny_bind (collect_src (A := X.A.in1) calm I h hz fun h' tk bs kp ht => ?_)
  obtain ⟨ps, e1, e2, hp⟩ := tups_zip ht
  have lb : bs.length ≤ sizeLine := by rw [← ht.length]; exact hz
  refine wpAny_bind (wpAny_newList ?_ (by rw [List.length_map]; exact lb))
  obtain ⟨l, hl⟩ : ∃ l, l = h'.objs.size := ⟨_, rfl⟩
  have at0 : (h'.push (seqObj "list" (bs.map Value.ref).toArray 0)).get? l = some (seqObj "list" (bs.map Value.ref).toArray 0) := by rw [hl]; exact Heap.get?_push_size _ rfl
  have old : ∀ b o, s.heap.get? b = some o → b ≠ l ∧ (h'.push (seqObj "list" (bs.map Value.ref).toArray 0)).get? b = some o := fun b o e =>
    ⟨by rw [hl]; exact Nat.ne_of_lt (Heap.lt_size (kp b o e)), Heap.get?_push_of_some _ (kp b o e)⟩
  show wpAny _ _ (holding [Value.ref h'.objs.size] (call (.builtin "list.sort") [Value.ref h'.objs.size] _) >>= _) _ _ { s with heap := h'.push (seqObj "list" (bs.map Value.ref).toArray 0), toks := tk }
  rw [← hl]
  have ew := each_refs (H := H) (ps := ps)
  rw [e2] at ew
  have lp : ps.length = bs.length := by rw [← e2, List.length_map]
  refine wpAny_bind (wpAny_holding (PySem.W.list_sort_key_data (b := false) (s := { s with heap := h'.push (seqObj "list" (bs.map Value.ref).toArray 0), toks := tk }) (fun p : List Int × Addr => .int (kf p.1)) at0 ew
    (PySem.W.AllAlike.of fun _ _ => by simp [PySem.W.alike]) (PySem.W.Sortable.others fun _ => ⟨(fun z => nomatch z), (fun _ z => nomatch z)⟩) (by rw [lp]; exact lb) (fun p _ => ?_) (ha2 _) (ksk_t4 _ _) (fun v p ev hm h2 tk2 k2 => ?_) fun out c h2 tk2 k2 hD hlen eo => ?_))
  · show X.A.in1.units + 1 + 0 < cLine
    show X.A.units + 1 + 1 + 0 < cLine
    omega
  · subst ev
    obtain ⟨z, its, rv, o, g1, g2, n, g3⟩ := (show ObjOk X.prog X.w H s.heap p.2 (.tup (p.1.map V.int)) from I.hok _ _ (hp p hm))
    have g0 := old _ _ g1
    exact hk _ _ _ _ p.2 its p.1 calm ⟨o, k2 _ _ g0.1 g0.2, g2, n, g3⟩ (intsAre_of rv) (by have := rv.length; omega)
  · rw [PySem.W.dataLe_int] at eo
    have ew2 := each_back eo
    refine wpAny_pure ⟨_, rfl, ?_⟩
    have perm := List.mergeSort_perm ps fun a b => decide (kf a.1 ≤ kf b.1)
    have em : (ps.mergeSort fun a b => decide (kf a.1 ≤ kf b.1)).map Prod.fst = L.mergeSort (leK kf) := by
      rw [← e1]
      exact List.map_mergeSort (r := fun a b => decide (kf a.1 ≤ kf b.1)) (s := leK kf) (f := Prod.fst) (l := ps) fun a _ b _ => rfl
    have ht2 : Tups H (L.mergeSort (leK kf)) ((ps.mergeSort fun a b => decide (kf a.1 ≤ kf b.1)).map Prod.snd) := by
      rw [← em]
      exact tups_of fun p hm => hp p (perm.mem_iff.mp hm)
    have J1 : Inv X pinz σ H { s with heap := h', toks := tk } := I.kept kp
    refine ⟨.ref l, upd H l (.lst (((ps.mergeSort fun a b => decide (kf a.1 ≤ kf b.1)).map Prod.snd).map V.ref)), J1.laid (t' := tk2) (fun b o e => ?_) (Nat.le_of_eq hl.symm) ⟨by rw [List.length_map, List.length_map, List.length_mergeSort, lp]; exact lb, out, c, by rw [ew2]; exact tups_refs _, hD⟩, rfl, q _ _ ht2 (J1.hok.fresh (Nat.le_of_eq hl.symm))⟩
    exact k2 b o (by rw [hl]; exact Nat.ne_of_lt (Heap.lt_size e)) (Heap.get?_push_of_some _ e)
theorem pe_sortK {k : Str} {id : String} {kf : List Int → Int} {e : Expr} {te : TE} {p kp kpos pos : Pos} (hk : KeyT id kf) (hm : X.mg "sorted" = none) (hmk : X.mg k = none) (hvk : bootBuiltins k = some (.builtin id)) (hr : X.A.units + 64 < cLine) (calm : X.calm = true) (he : PE X e te)
    (hg : Gl X "sorted" := by rfl) (hgk : Gl X k := by rfl) (hn : k ≠ "__name__" := by decide) (hd : (k == ("__debug__" : Str)) = false := by decide)
    (hs : starEach [e] X.env = (false, eval e X.env) :: starEach [] X.env := by rfl) (hb : backTo pos (starEach [e] X.env) = (false, eval e X.env) :: backTo pos (starEach [] X.env) := by rfl) (hpl : (backTo pos (starEach [e] X.env)).any (·.1) = false := by rfl)
    (hall : (backToKw pos (keywordEach [⟨some "key", .Name k kp, kpos⟩] X.env)).all (·.1.isSome) = true := by rfl) (hnone : (backToKw pos (keywordEach [⟨some "key", .Name k kp, kpos⟩] X.env)).any (·.1.isNone) = false := by rfl)
    (hks : (backToKw pos (keywordEach [⟨some "key", .Name k kp, kpos⟩] X.env)).filterMap (·.1) = [Str.ofString "key"] := by rfl) : PE X (.Call (.Name "sorted" p) [e] [⟨some "key", .Name k kp, kpos⟩] pos) (tSortK X.K kf te) := by
  refine ⟨fun pins s σ H Q I h => ?_⟩
  refine wpAny_Call_Name_kw (ld_blt I hg hm (show bootBuiltins "sorted" = some (.builtin "sorted") by decide +kernel) ?_)
  let R : V → Hp → Prop := fun x H1 => ∃ a L, x = .ref a ∧ L.length ≤ sizeLine ∧ SrcT X.K H1 a L ∧ ∀ bs p, Tups H1 (L.mergeSort (leK kf)) bs → H1 p = none → Q (.ref p) (upd H1 p (.lst (bs.map V.ref)))
  have h' : tCons te tNil σ H (fun vs H1 => match vs with | [x] => R x H1 | _ => False) := h
  refine PyProof.Rows.callWith_kw (thn ((pa_cons he pa_nil hs).run pos pins s σ H _ I h') fun us s1 ⟨vs, H1, I1, r1, w⟩ => ?_) hb hpl hall hnone
  · match vs, w with
    | [x], w =>
    obtain ⟨a, L, ex, hz, src, q⟩ := w
    subst ex
    obtain rfl := Vals.ref1 r1
    show wpAny _ _ (evalAll ((do let v ← eval (.Name k kp) X.env; standAt pos; pure v) :: [])) _ _ s1
    refine wpAny_evalAll_cons (wpAny_bind (ld_blt I1 hgk hmk hvk (wpAny_bind (wpAny_standAt (wpAny_pure (wpAny_evalAll_nil ?_)))) hn hd))
    rw [hks]
    exact sort_src hk hr (I1.ok.hd calm) I1 src hz (ksk_s1 _ _) (fun _ => ksk_l1 _ _) q
/-! ### the same by content -/
def tuI (ns : List Int) : DV := .tup (ns.map DV.int)
theorem rds_tuI {K : Fg} {H : Hp} : ∀ {L : List (List Int)} {vs : List V}, RDs K H (L.map tuI) vs → ∃ bs, vs = bs.map V.ref ∧ Tups H L bs
  | [], _, h => by cases h; exact ⟨[], rfl, .nil⟩
  | n :: L, _, h => by
    cases h with
    | cons h1 h2 =>
      obtain ⟨bs, e, ht⟩ := rds_tuI h2
      cases h1 with
      | @tup b xs _ hs hr =>
        refine ⟨b :: bs, by rw [e]; rfl, .cons ?_ ht⟩
        rw [hs, hr.ints]
theorem tuI_rds {K : Fg} {H : Hp} : ∀ {L : List (List Int)} {bs : List Addr}, Tups H L bs → RDs K H (L.map tuI) (bs.map V.ref)
  | _, _, .nil => .nil
  | _, _, .cons h t => .cons (.tup h (RDs.ofInts _)) (tuI_rds t)
/-- tuples of ints in a list, or as the keys of a dict -/
def ItT (g : DG) (x : DV) (L : List (List Int)) : Prop := lstD g x = some (L.map tuI) ∨ (∃ vs, x = .dT (L.map (·.map Sum.inl)) vs) ∨ ∃ p vs, x = .ref p ∧ g p = some (.dT (L.map (·.map Sum.inl)) vs)
theorem itT_src {K : Fg} {H : Hp} {g : DG} {x : DV} {v : V} {L : List (List Int)} (rg : RG K H g) (r : RD K H x v) (h : ItT g x L) : ∃ a, v = .ref a ∧ SrcT K H a L := by
  rcases h with h | ⟨vs, rfl⟩ | ⟨p, vs, rfl, e⟩
  · obtain ⟨a, vs, rfl, hq, hr, _⟩ := lstD_of rg r h
    obtain ⟨bs, rfl, ht⟩ := rds_tuI hr
    exact ⟨a, rfl, .inl ⟨bs, hq, ht⟩⟩
  · cases r with
    | dT hs hr =>
      obtain ⟨o, kvs, e, e1, e2⟩ := hs
      exact ⟨_, rfl, .inr ⟨kvs, .inr ⟨o, e⟩, e1⟩⟩
  · cases r
    obtain ⟨kvs, q, e1, _⟩ := rg _ _ e
    exact ⟨_, rfl, .inr ⟨kvs, .inl q, e1⟩⟩
def skK (kf : List Int → Int) (Q : DV → DG → Prop) (x : DV) (g : DG) : Prop := ∃ L, ItT g x L ∧ L.length ≤ sizeLine ∧ Q (.lst ((L.mergeSort (leK kf)).map tuI)) g
def dSK (kf : List Int → Int) (te : TDE) : TDE := fun δ g Q => te δ g fun x g1 => skK kf Q x g1
theorem pd_sortK {k : Str} {id : String} {kf : List Int → Int} {e : Expr} {te : TDE} {p kp kpos pos : Pos} (hk : KeyT id kf) (hm : X.mg "sorted" = none) (hmk : X.mg k = none) (hvk : bootBuiltins k = some (.builtin id)) (hr : X.A.units + 64 < cLine) (calm : X.calm = true) (he : PE X e (upE X.K te))
    (hg : Gl X "sorted" := by rfl) (hgk : Gl X k := by rfl) (hn : k ≠ "__name__" := by decide) (hd : (k == ("__debug__" : Str)) = false := by decide)
    (hs : starEach [e] X.env = (false, eval e X.env) :: starEach [] X.env := by rfl) (hb : backTo pos (starEach [e] X.env) = (false, eval e X.env) :: backTo pos (starEach [] X.env) := by rfl) (hpl : (backTo pos (starEach [e] X.env)).any (·.1) = false := by rfl)
    (hall : (backToKw pos (keywordEach [⟨some "key", .Name k kp, kpos⟩] X.env)).all (·.1.isSome) = true := by rfl) (hnone : (backToKw pos (keywordEach [⟨some "key", .Name k kp, kpos⟩] X.env)).any (·.1.isNone) = false := by rfl)
    (hks : (backToKw pos (keywordEach [⟨some "key", .Name k kp, kpos⟩] X.env)).filterMap (·.1) = [Str.ofString "key"] := by rfl) : PE X (.Call (.Name "sorted" p) [e] [⟨some "key", .Name k kp, kpos⟩] pos) (upE X.K (dSK kf te)) := by
  refine PE_weak (PE_fz (pe_sortK hk hm hmk hvk hr calm he hg hgk hn hd hs hb hpl hall hnone hks)) fun σ H Q ⟨δ, g, P, rs, rg, h, kk⟩ => ⟨δ, g, _, rs, rg, h, fun x g1 v H1 e1 rg1 rd1 ⟨L, hi, hz, h1⟩ => ?_⟩
  obtain ⟨a, rfl, hsrc⟩ := itT_src rg1 rd1 hi
  exact ⟨a, L, rfl, hz, hsrc, fun bs q ht hq => fz_new (P := P) rg1 hq (tuI_rds ht) (fun d g' w H' e2 rg' rd' p' => kk d g' w H' (e1.trans e2) rg' rd' p') h1⟩
end
end DL

/-! Deep layer O: sorted(set(xs)), xs a list or a tuple of tuples of ints. -/
namespace L2
open PyProof.Rows PySem.Spec PySem
section
variable {P : Program} {u : World} {A : Around} {E : Value → Shared → Prop} {s : Shared}
set_option maxHeartbeats 8000000 in
theorem set_tup_t {q : Addr} {xs : Array Value} (zs : List (Addr × List Int)) {R : Value → Shared → Prop} (nh : A.handled = none) (ql : s.heap.IsTuple q xs) (qi : xs.toList = zs.map fun p => Value.ref p.1) (qk : ∀ p ∈ zs, IsT P u s.heap p.2 p.1) (few : zs.length < 64) (room : A.units + 3 < cLine)
    (fin : ∀ (h2 : Heap) (tk : Nat) (L : List (Addr × List Int)) (es : Array (Int × Value)) (ep : Nat) (t : SetTable), SetTR P u h2 s.heap.objs.size L es ep t → Got zs zs.length L → (∀ b o, s.heap.get? b = some o → h2.get? b = some o) → R (.ref s.heap.objs.size) { s with heap := h2, toks := tk }) :
    wpAny (model P u) A (call (.type "set") [.ref q]) R E s := by
  have xl : xs.size = zs.length := by
    have z := congrArg List.length qi
    rwa [Array.length_toList, List.length_map] at z
  obtain ⟨mc, mt, mro⟩ := F.called_set.mro
  have k1 := F.called_set.made
  have k2 := F.called_set.sub
  have k3 := F.called_set.notType
  have k4 := F.called_set.canCreate
  have k5 := F.typeCall_set_1 (.ref q)
  refine wpAny_call (codeAny_of_tree ?_)
  show wpAny (model P u) _ (callAny (.type "set") _) _ _ _
  refine wpAny_pure ⟨Code.quiet_builtin _ (by decide +kernel), codeAny_builtin F.entry_type_call ?_⟩
  rw [Around.under_plain (weight_type_call_type "set" [.ref q] []) rfl]
  repeat any_goals first | assumption | wp_step
  refine codeAny_mono (code_set_led1 (.ref q) (E := E) (Q₁ := fun z t => z = .ref s.heap.objs.size ∧ t = { s with heap := s.heap.push (sNew u) }) ⟨rfl, rfl⟩) fun res t0 hres => ?_
  cases res with
  | error _ => exact hres
  | ok fl =>
    cases fl with
    | ret obj =>
      obtain ⟨rfl, rfl⟩ := hres
      have at0 : (s.heap.push (sNew u)).get? s.heap.objs.size = some (sNew u) := Heap.get?_push_size _ rfl
      have ty0 : Shared.TypeIs { s with heap := s.heap.push (sNew u) } (.ref s.heap.objs.size) "set" := ⟨_, at0, rfl⟩
      have k6 := F.called_set.init.lookup
      have k7 := F.called_set.init.bind (.ref s.heap.objs.size)
      repeat any_goals first | assumption | wp_step
      refine codeAny_mono (codeAny_call_builtin (R := wants (fun r t => r = .none ∧ ∃ h2 tk L es ep tb, t = { s with heap := h2, toks := tk } ∧ SetTR P u h2 s.heap.objs.size L es ep tb ∧ Got zs zs.length L ∧
          ∀ b o, s.heap.get? b = some o → h2.get? b = some o) E) F.called_set.init.plain F.entry_set_init (check_set_init_1 ty0 ?_)) fun res2 t2 hres2 => ?_
      · obtain ⟨⟨oc, od, odt, osl⟩, oq, c1, nq, c2⟩ := ql
        simp only at c1 c2
        subst c1 c2
        have oq1 : (s.heap.push (sNew u)).get? q = some { cls := .type "tuple", dict := od, data := .seq xs nq, slots := osl } := Heap.get?_push_of_some _ oq
        have k8 := F.sub_tuple_set
        have k9 := F.sub_tuple_frozenset
        have k10 : (Value.type "tuple" == Value.type "dict") = false := rfl
        have ql1 : (s.heap.push (sNew u)).IsTuple q xs := ⟨_, oq1, rfl, nq, rfl⟩
        unfold Builtin.«set.__init__» noKeywords Builtin.Frozenset.updateFrom
        generalize hPI : pyIter = PI
        wp_walk
        subst hPI
        refine wpAny_pyIter_tuple ql1 (wpAny_bind (wpAny_runValue ?_))
        have lt0 : q < s.heap.objs.size := Heap.lt_size oq
        have nh3 : A.in1.in1.in1.handled = none := by simp [nh]
        have sz1 : (s.heap.push (sNew u)).objs.size = s.heap.objs.size + 1 := Heap.size_push ..
        have ne1 : q ≠ (s.heap.push (sNew u)).objs.size := Nat.ne_of_lt (by rw [sz1]; exact Nat.lt_succ_of_lt lt0)
        have nin : s.heap.objs.size ∉ [(s.heap.push (sNew u)).objs.size, q] := by
          intro z
          rcases List.mem_cons.mp z with z | z
          · exact Nat.ne_of_lt (by rw [sz1]; exact Nat.lt_succ_self _) z
          · exact Nat.ne_of_gt lt0 (List.mem_singleton.mp z)
        have vals : ∀ (i : Nat) (v : Value), xs[i]? = some v → ∃ p, zs[i]? = some p ∧ v = .ref p.1 := fun i v hv => by
          have z : xs.toList[i]? = some v := by rw [Array.getElem?_toList]; exact hv
          rw [qi, List.getElem?_map] at z
          cases e : zs[i]? with
          | none => rw [e] at z; cases z
          | some p => rw [e] at z; exact ⟨p, rfl, (Option.some.inj z).symm⟩
        have gone : ∀ b, s.heap.objs.size ≤ b → s.heap.get? b = none := fun b hb => Heap.get?_none_of_le hb
        refine set_update_tups ((Walks.tuple nh3 _ q ne1 xs).toS) s.heap.objs.size nin zs xl few vals s.heap qk (gone _ (Nat.le_refl _)) (fun b hb => gone b (by rw [List.mem_singleton.mp hb, sz1]; exact Nat.le_succ _)) room (xs.size - 0) 0 _ (by omega) (Nat.zero_le _)
          ⟨⟨_, Heap.get?_push_size _ rfl, rfl, rfl⟩, ql1.push _⟩ (fun b o e => Heap.get?_push_of_some _ (Heap.get?_push_of_some _ e)) ?z1 ?z2
        case z1 => exact ⟨[], #[], 0, _, setTR_fresh (Heap.get?_push_of_some _ at0), Got.zero zs⟩
        case z2 =>
          intro t L es ep tb mv rr gg kk
          obtain ⟨h2, g2, d2, tk2, os2⟩ := t
          have e1 : g2 = s.gens := mv.gens
          have e2 : d2 = s.drawn := mv.drawn
          have e3 : os2 = s.os := mv.os
          subst e1 e2 e3
          show wpAny (model P u) _ _ _ _ _
          refine wpAny_pure ?_
          show wpAny (model P u) _ (ret Value.none) _ _ _
          rw [xl] at gg
          exact wpAny_pure ⟨rfl, h2, tk2, L, es, ep, tb, rfl, rr, gg, kk⟩
      · cases res2 with
        | error _ => exact hres2
        | ok fl2 =>
          cases fl2 with
          | ret r =>
            obtain ⟨rfl, h2, tk, L, es, ep, tb, rfl, rr, gg, kk⟩ := hres2
            repeat any_goals first | assumption | wp_step
            exact fin _ _ _ _ _ _ rr gg kk
          | _ => exact hres2.elim
    | _ => exact hres.elim
end
end L2

/-! Deep layer P: sorted(set(xs)) of tuples of ints, by content. -/
namespace DL
open PySem PySem.Spec PyProof.Rows L2
section
variable {X : Cx} {pos : Pos} {a : Expr} {ta : TDE}
def stsK (Q : DV → DG → Prop) (x : DV) (g : DG) : Prop := ∃ L : List (List Int), seqD g x = some (L.map tuI) ∧ L.length < 64 ∧ ∃ (d : Nat) (B : Int), 1 ≤ d ∧ (∀ k ∈ L, k.length = d ∧ TS.Bd B k) ∧
  ∀ M : List (List Int), M.Nodup → (∀ k, k ∈ M ↔ k ∈ L) → M.length < 64 → M.Pairwise (fun p q => TS.code B p ≤ TS.code B q) → Q (.lst (M.map tuI)) g
def dSTs (ta : TDE) : TDE := fun δ g Q => ta δ g fun x g1 => stsK Q x g1
theorem rds_back {K : Fg} {H : Hp} : ∀ {L : List (Addr × List Int)}, (∀ p ∈ L, H p.1 = some (.tup (p.2.map V.int))) → RDs K H ((L.map (·.2)).map tuI) (L.map fun p => V.ref p.1)
  | [], _ => .nil
  | p :: L, h => .cons (.tup (h p List.mem_cons_self) (RDs.ofInts _)) (rds_back fun q hq => h q (List.mem_cons_of_mem _ hq))
theorem pd_sortedSetT {p p2 q : Pos} (hr : X.A.units + 64 < cLine) (hm : X.mg "sorted" = none) (hm2 : X.mg "set" = none) (ha : PE X a (upE X.K ta)) (hc : X.calm = true := by rfl) (hg : Gl X "sorted" := by rfl) (hg2 : Gl X "set" := by rfl)
    (na : starEach [a] X.env = (false, eval a X.env) :: starEach [] X.env := by rfl) : PE X (.Call (.Name "sorted" p) [.Call (.Name "set" p2) [a] [] q] [] pos) (upE X.K (dSTs ta)) := by
  refine ⟨fun pins s σ H Q I ⟨δ, g, P, rs, rg, h, k⟩ => ?_⟩
  refine Call_ (ld_blt I hg hm (show bootBuiltins "sorted" = some (.builtin "sorted") by decide +kernel) ?_)
  refine PyProof.Rows.callWith_builtin1 (PyProof.Rows.args_cons ?_ rfl) rfl rfl
  refine Call_ (ld_blt I hg2 hm2 boot_set ?_)
  let S : V → Hp → Prop := fun v H1 => ∃ (l : Addr) (ks : List (Addr × List Int)) (d : Nat) (B : Int), v = .ref l ∧ (SqL X.K H1 l (ks.map fun p => V.ref p.1) ∨ H1 l = some (.tup (ks.map fun p => V.ref p.1))) ∧ (∀ p ∈ ks, H1 p.1 = some (.tup (p.2.map V.int))) ∧ ks.length < 64 ∧
      1 ≤ d ∧ (∀ p ∈ ks, p.2.length = d ∧ TS.Bd B p.2) ∧ ∀ (M : List (Addr × List Int)), (∀ p ∈ M, p ∈ ks) → (M.map (·.2)).Nodup → (∀ p ∈ ks, p.2 ∈ M.map (·.2)) → M.length < 64 → M.Pairwise (fun p q => TS.code B p.2 ≤ TS.code B q.2) →
        ∀ (pn : Addr) (o : Obj), H1 pn = none → Q (.ref pn) (upd H1 pn (.frz o (.lst (M.map fun p => V.ref p.1))))
  refine PyProof.Rows.callWith_type1 (PyProof.Rows.args_cons (thn (ha.run pins s σ H S I ⟨δ, g, _, rs, rg, h, fun x g1 v H1 e1 rg1 rd1 h1 => ?_⟩) fun v s1 ⟨x, H1, I1, r1, q1⟩ => PyProof.Rows.args_nil ?_) na) na rfl
  · obtain ⟨L, es, hf, d, B, hd, hB, h1⟩ := h1
    obtain ⟨l, vs, rfl, hq, hr⟩ := seqD_ofX rg1 rd1 es
    obtain ⟨bs, rfl, ht⟩ := rds_tuI hr
    obtain ⟨ps, e2, e3, hp⟩ := tups_zip ht
    have ek : (ps.map fun p => (p.2, p.1)).map (fun p : Addr × List Int => V.ref p.1) = bs.map V.ref := by rw [← e3, List.map_map, List.map_map]; rfl
    have e4 : (ps.map fun p => (p.2, p.1)).map (fun p : Addr × List Int => p.2) = L := by rw [← e2, List.map_map]; rfl
    have inL : ∀ p : Addr × List Int, p ∈ ps.map (fun p => (p.2, p.1)) → p.2 ∈ L ∧ H1 p.1 = some (.tup (p.2.map V.int)) := fun p hm => by
      refine ⟨by rw [← e4]; exact List.mem_map.mpr ⟨p, hm, rfl⟩, ?_⟩
      obtain ⟨z, hz, rfl⟩ := List.mem_map.mp hm
      exact hp z hz
    refine ⟨l, ps.map fun p => (p.2, p.1), d, B, rfl, by rw [ek]; exact hq, fun p hm => (inL p hm).2, by rw [List.length_map, show ps.length = L.length by rw [← e2, List.length_map]]; exact hf, hd, fun p hm => hB _ (inL p hm).1, fun M hM nd all few pw pn o hn => ?_⟩
    refine k _ _ _ _ (e1.trans (Ext.fresh rg1 hn)) (rg1.fresh hn) (.lst ⟨o, upd_same⟩ ((rds_back fun p hm => (inL p (hM p hm)).2).mono (Kp.fresh hn))) (h1 (M.map (·.2)) nd (fun z => ⟨fun hz => ?_, fun hz => ?_⟩) (by rw [List.length_map]; exact few) ?_)
    · obtain ⟨p, hm, rfl⟩ := List.mem_map.mp hz
      exact (inL p (hM p hm)).1
    · rw [← e4] at hz
      obtain ⟨p, hm, rfl⟩ := List.mem_map.mp hz
      exact all p hm
    · exact List.pairwise_map.mpr pw
  · obtain ⟨l, ks, d, B, rfl, hl, hk, hf, hd, hB, qq⟩ := q1
    cases r1
    have hT : ∀ p ∈ ks, IsT X.prog X.w s1.heap p.2 p.1 := fun p hp => I1.isT (SqT.of (hk p hp))
    have fin : ∀ (h2 : Heap) (tk : Nat) (L : List (Addr × List Int)) (es : Array (Int × Value)) (ep : Nat) (t : SetTable), SetTR X.prog X.w h2 s1.heap.objs.size L es ep t → Got ks ks.length L → (∀ b o, s1.heap.get? b = some o → h2.get? b = some o) →
        wpAny (model X.prog X.w) X.A (call (.builtin "sorted") [.ref s1.heap.objs.size]) (EP X pins σ Q) X.xe { s1 with heap := h2, toks := tk } := fun h2 tk L es ep t R gg kk => by
      have I2 : Inv X pins σ H1 { s1 with heap := h2, toks := tk } := I1.kept fun b o e => kk b o e
      have sub : ∀ p ∈ L, p ∈ ks := fun p hp => List.mem_of_mem_take (gg.sub p hp)
      refine sorted_setT (s := { s1 with heap := h2, toks := tk }) R (I2.ok.hd hc) hd (fun p hp => hB p (sub p hp)) fun s' pn out c M k' g' o' hp hgt hout pm pw => ?_
      have hn : H1 pn = none := I2.hok.fresh hp
      have hfew : M.length < 64 := by rw [pm.length_eq]; exact R.few
      have hlen : (M.map fun q => V.ref q.1).length ≤ sizeLine := by rw [List.length_map, sizeLine_eq]; omega
      have J : Inv X pins σ (upd H1 pn (.lst (M.map fun q => V.ref q.1))) { s1 with heap := s'.heap, gens := s'.gens, drawn := s'.drawn, toks := s'.toks } :=
        L2.Inv.call (s := { s1 with heap := h2, toks := tk }) (h' := s'.heap) (g' := s'.gens) (d' := s'.drawn) (t' := s'.toks) (ch := []) I2 (Un.laid k' hp hn) (I2.hok.laid k' hp ⟨hlen, out.toList, c, by rw [hout]; exact vals_of_refs M, hgt⟩) (by rw [g']; exact I1.bare) (fun _ z => nomatch z)
      have es : s' = { s1 with heap := s'.heap, gens := s'.gens, drawn := s'.drawn, toks := s'.toks } := by
        cases s'
        cases s1
        cases o'
        rfl
      rw [es]
      obtain ⟨o, J2⟩ := J.lock upd_same True.intro
      rw [upd_upd] at J2
      exact ⟨.ref pn, _, J2, rfl, qq M (fun p hp => sub p (pm.mem_iff.mp hp)) ((pm.map (·.2)).nodup_iff.mpr R.nd) (fun p hp => (pm.map (·.2)).mem_iff.mpr (gg.all p (by rw [List.take_length]; exact hp))) hfew pw pn o hn⟩
    rcases hl with hl | hl
    · obtain ⟨its, rv, pl, hz⟩ := I1.list hl
      exact call_set_tups (P := X.prog) (w := X.w) ks (I1.ok.hd hc) pl.isList (by simpa using refs_of_vals rv) hT hf (by omega) fun h' tk L es ep t R gg kk => PyProof.Rows.args_nil (fin h' tk L es ep t R gg kk)
    · obtain ⟨z, its, rv, o, z1, z2, n, z3⟩ := (show ObjOk X.prog X.w H1 s1.heap l (.tup (ks.map fun p => V.ref p.1)) from I1.hok _ _ hl)
      exact set_tup_t (P := X.prog) (u := X.w) ks (I1.ok.hd hc) ⟨o, z1, z2, n, z3⟩ (by simpa using refs_of_vals rv) hT hf (by omega) fun h' tk L es ep t R gg kk => PyProof.Rows.args_nil (fin h' tk L es ep t R gg kk)
end
end DL

/-! Deep layer Q: walks over instances: __iter__ that hands out a tuple's iterator. -/
namespace DL
open PySem PySem.Spec PyProof.Rows L2
/-! ### a def that is called at a known size of the heap -/
/-! ### a tuple's iterator at its start -/
section
variable {X : Cx} {C f : Addr} {i n : Nat} {tgx e : Expr} {te : TE}
end
end DL

/-! Deep layer U: enumerate(a tuple), comprehensions of two clauses, texts, t * k. -/
namespace L2.EnT
open PySem PySem.Spec PyProof.Rows
open PySem.AutoSeq1 (wpAny_loadPart')
theorem new_tup (l : Addr) (items : Array Value) (n : Nat) (dct : Option Addr) (sl : Array (Option Value)) :
    Meets (Builtin.«enumerate.__new__» ⟨[.type "enumerate", .ref l], []⟩) (fun _ R s => s.heap.get? l = some { cls := .type "tuple", dict := dct, data := .seq items n, slots := sl } ∧
      R (.ok (.ret (.ref (s.heap.objs.size + 1)))) { s with heap := (s.heap.push { cls := .type "tuple_iterator", data := .fields #[.ref l, .int 0 0] }).push { cls := .type "enumerate", data := .fields #[.none, .bool false, .ref s.heap.objs.size, rawInt 0, .none, .none] } }) :=
  .of_wp fun prog w A R s q => by
    obtain ⟨hp, g, d, tk, os⟩ := s
    obtain ⟨at0, q⟩ := q
    have ez : (hp.push { cls := .type "tuple_iterator", data := .fields #[.ref l, .int 0 0] }).objs.size = hp.objs.size + 1 := Heap.size_push ..
    replace q : R (.ok (.ret (.ref (hp.push { cls := .type "tuple_iterator", data := .fields #[.ref l, .int 0 0] }).objs.size))) ⟨(hp.push { cls := .type "tuple_iterator", data := .fields #[.ref l, .int 0 0] }).push { cls := .type "enumerate", data := .fields #[.none, .bool false, .ref hp.objs.size, rawInt 0, .none, .none] }, g, d, tk, os⟩ := by rw [ez]; exact q
    have es := sub_enumerate
    have tup : Heap.IsTuple (Shared.heap ⟨hp, g, d, tk, os⟩) l items := ⟨_, at0, rfl, n, rfl⟩
    wp_walk using wpAny_loadPart' at0
    refine wpAny_stack_any fun st => wpAny_pure ?_
    split
    · rename_i c _ _ _ _ _
      cases (c == Value.type "enumerate") <;> (wp_walk using wpAny_loadPart' at0, wpAny_pyIter_tuple tup; exact ⟨_, rfl, q⟩)
    · wp_walk using wpAny_loadPart' at0, wpAny_pyIter_tuple tup
      exact ⟨_, rfl, q⟩
theorem call_tup {prog : Program} {w : World} {A : Around} {E : Value → Shared → Prop} {s : Shared} {l : Addr} {items : Array Value} {Q : Value → Shared → Prop} (tup : s.heap.IsTuple l items)
    (h : ∀ h', IsEnum h' (s.heap.objs.size + 1) s.heap.objs.size 0 .none → h'.IsTupleIter s.heap.objs.size l 0 → (∀ b o, s.heap.get? b = some o → h'.get? b = some o) → Q (.ref (s.heap.objs.size + 1)) { s with heap := h' }) :
    wpAny (model prog w) A (call (.type "enumerate") [.ref l]) Q E s := by
  obtain ⟨⟨c, dct, dt, sl⟩, at0, hc, n, hd⟩ := tup
  simp only at hc hd
  subst hc hd
  refine callType_new F.called_enumerate (by decide) (F.typeCall_enumerate_1 _) (F.newCall_enumerate_1 _) (fun obj => F.args_object_init_2 obj _) F.entry_enumerate_new (new_tup l items n dct sl) ⟨at0, ?_⟩
  have ez : (s.heap.push { cls := .type "tuple_iterator", data := .fields #[.ref l, .int 0 0] }).objs.size = s.heap.objs.size + 1 := Heap.size_push ..
  have en : IsEnum ((s.heap.push { cls := .type "tuple_iterator", data := .fields #[.ref l, .int 0 0] }).push { cls := .type "enumerate", data := .fields #[.none, .bool false, .ref s.heap.objs.size, rawInt 0, .none, .none] }) (s.heap.objs.size + 1) s.heap.objs.size 0 .none := by
    rw [← ez]; exact Heap.get?_push_size _ rfl
  exact ⟨⟨_, en, rfl⟩, h _ en ⟨_, Heap.get?_push_of_some _ (Heap.get?_push_size _ rfl), rfl, rfl⟩ fun b o x => Heap.get?_push_of_some _ (Heap.get?_push_of_some _ x)⟩
/-- the tuple at a, its items numbered -/
def ItE (K : PySem.W.Frag) (a : Addr) : It :=
  ⟨fun i H => ∃ xs x, SqT K H a xs ∧ xs[i]? = some x, fun i H y H' => ∃ T x, y = .ref T ∧ H T = none ∧ H' = upd H T (.tup [.int (i : Nat), x]) ∧ ∀ xs, SqT K H a xs → xs[i]? = some x, fun i H => ∃ xs, SqT K H a xs ∧ xs.length ≤ i⟩
theorem apart {s : Shared} {a e it : Addr} {i : Nat} {k : Int} {old : Value} {its : List Value} (he : IsEnum s.heap e it k old) (hi : s.heap.IsTupleIter it a i) (p : IsTup s.heap a its.toArray) : a ≠ e ∧ a ≠ it := by
  obtain ⟨o, h1, h2, _⟩ := p
  obtain ⟨oi, i1, i2, _⟩ := hi
  have he : s.heap.get? e = some _ := he
  refine ⟨fun z => ?_, fun z => ?_⟩
  · rw [z, he] at h1; cases h1; exact absurd (show Value.type "enumerate" = Value.type "tuple" from h2) (by decide)
  · rw [z, i1] at h1; cases h1; rw [i2] at h2; exact absurd h2 (by decide)
theorem turn {P : Program} {w : World} {K : PySem.W.Frag} {elts : List Expr} {kk : Nat} {tpos : Pos} (a e it : Addr) :
    Turn P w K (.Tuple elts kk tpos) (ItE K a) [e, it] e (fun i h => (∃ old, IsEnum h e it ((i : Nat) : Int) old) ∧ h.IsTupleIter it a i ∧ e ≠ it) where
  mem := by simp
  obj := fun i h st b hb => by
    obtain ⟨⟨old, he⟩, ⟨o, ho, hc, hd⟩, _⟩ := st
    rcases (show b = e ∨ b = it by simpa using hb) with z | z
    · rw [z]; exact ⟨_, he, fun v q => nomatch q⟩
    · rw [z]; exact ⟨o, ho, fun v q => by rw [hd] at q; cases q⟩
  keep := fun i h h' st k => let ⟨⟨old, he⟩, hi, ne⟩ := st; ⟨⟨old, k e (by simp) _ he⟩, hi.at fun o q => k it (by simp) o q, ne⟩
  item := by
    intro X hP hw hK hc i pins s σ H E I hf st hg
    subst hP hw hK
    obtain ⟨⟨old, he⟩, hit, ne⟩ := st
    obtain ⟨xs, x, hq, hx⟩ := hg
    obtain ⟨its, rv, p, hz⟩ := I.tuple hq
    obtain ⟨u, hu, ru⟩ := rv.get hx
    obtain ⟨ae, ai⟩ := apart he hit p
    have tup : s.heap.IsTuple a its.toArray := p
    have D := Draws.tuple (prog := X.prog) (w := X.w) (A := X.A.in1) (by show X.A.in1.handled = none; exact I.ok.hd hc) it a ai its.toArray
    have le : e < s.heap.objs.size := Heap.lt_size he
    have li : it < s.heap.objs.size := by obtain ⟨_, q, _⟩ := hit; exact Heap.lt_size q
    have lt : i < its.toArray.size := by
      have := (List.getElem?_eq_some_iff.mp hu).1
      rw [List.size_toArray]; exact this
    refine wpAny_pyNext_enum_itemD D he ⟨hit, tup⟩ lt ne (by simp [ne, Ne.symm ae]) fun z h' tk hz2 ho hst hT hsz hk => ?_
    have ez : z = u := by
      have q : its.toArray[i]? = some z := hz2
      rw [List.getElem?_toArray, hu] at q
      exact (Option.some.inj q).symm
    subst ez
    refine ⟨_, rfl, wpAny_letOwnedTupleGo_enum (s := { s with heap := h', toks := tk + 1 }) ho fun h2 he2 sb => ?_⟩
    have hT2 : h2.get? s.heap.objs.size = some { cls := .type "tuple", data := .seq #[.int i tk, z] } := (sb.2 _ (Nat.ne_of_gt le)).trans hT
    have new : ObjOk X.prog X.w (upd H s.heap.objs.size (.tup [.int (i : Nat), x])) h2 s.heap.objs.size (.tup [.int (i : Nat), x]) :=
      ⟨by show 2 ≤ sizeLine; decide, [.int i tk, z], .cons ⟨_, rfl⟩ (.cons ru .nil), ⟨_, hT2, rfl, _, rfl⟩⟩
    have J : Inv X pins σ (upd H s.heap.objs.size (.tup [.int (i : Nat), x])) { s with heap := h2, toks := tk + 1 } :=
      I.turnedNew (ch := [e, it]) (fun b ob hb q => (sb.2 b (fun z => hb (by simp [z]))).trans (hk b ob (fun z => hb (by simp [z])) (fun z => hb (by simp [z])) q)) hf (Nat.le_refl _) new
    refine ⟨.ref s.heap.objs.size, _, J, rfl, ⟨_, x, rfl, I.hok.fresh (Nat.le_refl _), rfl, fun ys hy => by rw [I.tuple_inj hy hq]; exact hx⟩, ⟨⟨z, ?_⟩, hst.1.at fun o q => (sb.2 it (Ne.symm ne)).trans q, ne⟩, fun b hb => ?_⟩
    · have e1 : ((i + 1 : Nat) : Int) = (i : Int) + 1 := by omega
      rw [e1]; exact he2
    · have hb' : b < s.heap.objs.size := by
        rcases (show b = e ∨ b = it by simpa using hb) with z | z
        · rw [z]; exact le
        · rw [z]; exact li
      rw [upd_ne (Nat.ne_of_lt hb')]
      exact (hf b hb).1
  done := by
    intro X hP hw hK hc i pins s σ H E I hf st hg
    subst hP hw hK
    obtain ⟨⟨old, he⟩, hit, ne⟩ := st
    obtain ⟨xs, hq, hx⟩ := hg
    obtain ⟨its, rv, p, hz⟩ := I.tuple hq
    obtain ⟨ae, ai⟩ := apart he hit p
    obtain ⟨f0, f1, f2, f3, f4, f5⟩ := hf it (by simp)
    have tup : s.heap.IsTuple a its.toArray := p
    have hd := I.ok.hd hc
    have hT : s.TypeIs (.ref e) "enumerate" := ⟨_, he, rfl⟩
    unfold pyNext
    refine wpAny_bind (wpAny_attempt (wpAny_callSpecial?_slot (name := Str.ofString "__next__") hT F.slot_enumerate_next (wpAny_call_entry F.slot_enumerate_next hT F.entry_enumerate_next ?_ (F.args_enumerate_next_1 _))))
    show wpAny _ _ (field (.ref e) 2 >>= _) _ _ _
    refine wpAny_bind (wpAny_field he rfl (x := .ref it) rfl ?_)
    refine wpAny_bind (wpAny_nextOf_tuple_end hd hit tup (by have := rv.length; rw [List.getElem?_toArray]; exact List.getElem?_eq_none (by omega)) fun h' y ex hy => ?_)
    obtain ⟨o, ho, hc'⟩ := hy
    refine wpAny_bind (wpAny_isInstance (T := "StopIteration") (b := true) ⟨o, ho, hc'⟩ isSubtype_stop ?_)
    exact wpAny_pure ⟨rfl, I.turned (t' := s.toks) (fun b o hb q => ex b o hb q) f0 f1 f3 f4 f5⟩
  self := fun A i s Q E st h => let ⟨⟨_, he⟩, _⟩ := st; wpAny_pyIter_enum he h
def iEnT (K : PySem.W.Frag) (ta : TA) : TI := fun σ H R => ta σ H fun vs H1 => ∃ a xs, vs = [.ref a] ∧ SqT K H1 a xs ∧ R (ItE K a) H1
theorem pi_enT {X : Cx} {e : Expr} {ta : TA} {p pos tpos : Pos} {elts : List Expr} {kk : Nat} (hg : Gl X "enumerate") (hm : X.mg "enumerate" = none) (ha : PA X [e] ta) (hs : starEach [e] X.env = [(false, eval e X.env)] := by rfl) :
    PI X (.Tuple elts kk tpos) (.Call (.Name "enumerate" p) [e] [] pos) (iEnT X.K ta) := by
  refine ⟨fun pins s σ H R I h => ?_⟩
  refine Call_ (ld_blt I hg hm boot_enumerate (PyProof.Rows.callWith_type1 (thn (ha.run pos pins s σ H _ I h) fun us s1 ⟨vs, H1, I1, r1, a, xs, ex, hq, q⟩ => ?_) hs rfl))
  subst ex
  obtain ⟨u, rfl, ru⟩ := vals1 r1
  cases ru
  obtain ⟨its, rv, p', hz⟩ := I1.tuple hq
  refine call_tup (show s1.heap.IsTuple a its.toArray from p') fun h' he hit hk => wpAny_pyIter_enum he ?_
  refine ⟨s1.heap.objs.size + 1, [s1.heap.objs.size + 1, s1.heap.objs.size], _, _, H1, rfl, I1.kept (t' := s1.toks) hk, turn a (s1.heap.objs.size + 1) s1.heap.objs.size, ⟨⟨.none, he⟩, hit, Nat.succ_ne_self _⟩, fun b hb => ?_, q⟩
  have hle : s1.heap.objs.size ≤ b := by
    rcases (show b = s1.heap.objs.size + 1 ∨ b = s1.heap.objs.size by simpa using hb) with z | z
    · rw [z]; exact Nat.le_add_right _ _
    · rw [z]; exact Nat.le_refl _
  exact I1.fpOk hle (I1.hok.fresh hle)
end L2.EnT

/-! Deep layer V: enumerate(a tuple), comprehensions of two clauses, texts, t * k: by content. -/
namespace DL
open PySem PySem.Spec PyProof.Rows L2 Builtin
section
variable {X : Cx} {pos : Pos}
/-! ### enumerate(t) -/
def enD (ds : List DV) : List DV := zipD (rangeD 0 ds.length) ds
theorem rangeD_len' (n : Nat) : (rangeD 0 n).length = n := by simp only [rangeD, List.length_map, List.length_range]
theorem rangeD_at' {n j : Nat} {d : DV} (h : (rangeD 0 n)[j]? = some d) : d = .int (j : Int) := by
  have hl := (List.getElem?_eq_some_iff.mp h).1
  rw [rangeD_len'] at hl
  simp only [rangeD, List.getElem?_map, List.getElem?_range hl] at h
  have z := Option.some.inj h
  rw [← z]
  show DV.int (0 + (j : Int)) = _
  rw [Int.zero_add]
theorem enD_len (ds : List DV) : (enD ds).length = ds.length := by
  unfold enD
  rw [zipD_len, rangeD_len', Nat.min_self]
theorem dwalk_enT {K : Fg} {H : Hp} {a : Addr} {xs : List DV} {vs : List V} (ha : SqT K H a vs) (ra : RDs K H xs vs) : DWalk K (EnT.ItE K a) (enD xs) H := by
  have l1 := ra.length
  have hl := enD_len xs
  refine ⟨fun i H' hi k => ?_, fun H' k => ⟨vs, k.sqT ha, by omega⟩, fun i H1 x H' d hd k y => ?_⟩
  · have h1 : i < vs.length := by omega
    exact ⟨vs, vs[i], k.sqT ha, by simp [h1]⟩
  · obtain ⟨T, v, h1, h2, h3, h4⟩ := y
    obtain ⟨x', y', e1, e2, rfl⟩ := zipD_get hd
    have ex := rangeD_at' e1
    subst ex
    have q1 := h4 vs (k.sqT ha)
    obtain ⟨v', e1', r1⟩ := ra.get e2
    rw [q1] at e1'; cases e1'
    have kk : Kp H1 H' := by rw [h3]; exact Kp.fresh h2
    refine ⟨.inr ⟨T, _, h2, h3⟩, ?_⟩
    rw [h1]
    exact .tup (by rw [h3]; exact upd_same) (.cons (.int _) (.cons ((r1.mono k).mono kk) .nil))
def enK (R : List DV → DG → Prop) (xs : List DV) (g : DG) : Prop := match xs with | [.tup ds] => R (enD ds) g | _ => False
def wEnT (ta : TDA) : TDI := fun δ g R => ta δ g fun xs g1 => enK R xs g1
theorem pid_enT {e : Expr} {ta : TDA} {p pos tpos : Pos} {elts : List Expr} {kk : Nat} (hm : X.mg "enumerate" = none) (ha : PA X [e] (upA X.K ta)) (hg : Gl X "enumerate" := by rfl) (hs : starEach [e] X.env = [(false, eval e X.env)] := by rfl) :
    PI X (.Tuple elts kk tpos) (.Call (.Name "enumerate" p) [e] [] pos) (upI X.K (wEnT ta)) := by
  refine PI_weak (EnT.pi_enT hg hm ha hs) fun σ H R ⟨δ, g, P, rs, rg, h, k⟩ => ⟨δ, g, _, rs, rg, h, fun xs g1 vs H1 e1 rg1 rd1 h1 => ?_⟩
  unfold enK at h1
  split at h1
  · obtain ⟨v, rfl, rx⟩ := rd1.inj1
    cases rx with
    | tup hs hr => exact ⟨_, _, rfl, SqT.of hs, k _ _ _ _ e1 rg1 (dwalk_enT (SqT.of hs) hr) h1⟩
  · exact h1.elim
/-! ### [e for x in .. for y in ..] -/
variable {elt iter iter1 tgx tgx1 : Expr} {ifs ifs1 : List Expr} {scope : Scope} {own : List (Str × Nat)} {vs1 : List Nat} {wi wi1 : TDI} {tg tg1 : Tg} {tt tt1 : TDT} {tel : TDE}
/-! ### texts -/
variable {e : Expr} {es : List Expr} {te : TDE} {ta : TDA}
/-! ### t * k -/
end
end DL

/-! Deep layer W: sep.join(xs), str(x) of an instance, t * 1. -/
namespace L2.MulT
open PySem PySem.Spec PyProof.Rows
open PySem.AutoSeq1 (wpAny_loadPart')
section
variable {X : Cx}
end
end L2.MulT
namespace DL
open PySem PySem.Spec PyProof.Rows L2 Builtin
section
variable {X : Cx} {pos apos cpos : Pos} {o e : Expr} {to te : TDE} {t : TDA}
/-! ### t * k, k at least 1 -/
/-! ### sep.join(xs) -/
/-! ### str(x) by its own __str__ -/
end
end DL

/-! Deep layer X: reading what has to do with instances, dicts of tuples, texts; what a class and its methods must be. -/
namespace DL
open PySem L2
/-- a class of the text -/
structure ClsF (K : Fg) (C : Addr) : Prop where
  sc : SlX.SCls K C
  si : SlX.SIsi K C
  no : NoSub K C
  ni : NoIsi K C
  ms : PySem.W.makesIn K C = true
  kp : PySem.W.keepIn K (.ref C) = true
def tyMro (a : String) : Bool := match PySem.fastBuiltinMro a with | some l => l.all (fun v => match v with | .type _ => true | _ => false) | none => false
theorem tyMro_all : tyNames.all tyMro = true := by decide +kernel
theorem sub_no {K : Fg} {C : Addr} {a : String} (h : a ∈ tyNames) : PySem.W.subIn K (.type a) (.ref C) = some false := by
  have e := List.all_eq_true.mp tyMro_all a h
  unfold tyMro at e
  show (PySem.fastBuiltinMro a).map (·.contains (.ref C)) = some false
  split at e
  · rename_i l el
    rw [el]
    show some (l.contains (.ref C)) = some false
    congr 1
    rw [Bool.eq_false_iff]
    intro q
    have := List.all_eq_true.mp e _ (List.contains_iff_mem.mp q)
    cases this
  · cases e
theorem noSub_all {K : Fg} {C : Addr} : NoSub K C := List.all_eq_true.mpr fun a h => by
  unfold PySem.W.notFirst
  rw [sub_no h]
  simp
theorem noIsi_of {K : Fg} {C : Addr} (ic : PySem.W.isClsIn K C = true) (ty : PySem.W.typeIn K (.ref C) = some (.type "type")) : NoIsi K C := List.all_eq_true.mpr fun a h => by
  have e : PySem.W.kitOne K (.type a) (.ref C) = some false := by
    unfold PySem.W.kitOne
    rw [if_neg (by simp)]
    unfold PySem.W.kitCls
    dsimp only
    have ic' : (PySem.W.clsIn K C).isSome = true := ic
    rw [ic', ty, if_pos (by simp)]
    exact sub_no h
  rw [e]
  rfl
theorem kit_me {K : Fg} {C : Addr} : PySem.W.kitOne K (.ref C) (.ref C) = some true := by unfold PySem.W.kitOne; rw [if_pos (by simp)]
/-- a method of the class at C -/
structure Mtd (K : Fg) (C : Addr) (x qual : Str) (st : Stmt) (ps : List Str) (f : Addr) (fd : FuncData) : Prop where
  fn : Fun K x qual st f fd
  bd : Binds K fd ps []
  at_ : PySem.W.findIn K (.ref C) x = some (some (.ref f))
  isf : PySem.W.isFn K (.ref f) = true
theorem mtd_mk {K : Fg} {C : Addr} {qual : Str} {st : Stmt} {ps : List Str} {f : Addr} {fd : FuncData} (D : Mtd K C "__init__" qual st ps f fd) (c : ClsF K C) : Mk K C f := ⟨c.ms, D.at_, D.isf, c.kp⟩
section
variable {δ : DS} {g : DG} {E : DEnds} {Q : DV → DG → Prop} {QA : List DV → DG → Prop} {P : DV → Prop} {a b : TDE} {ta : TDA} {x y d : DV} {ds es : List DV} {C p : Addr} {i : Nat} {sp : SpD}
def flK (C : Addr) (i : Nat) (Q : DV → DG → Prop) (x : DV) (g1 : DG) : Prop := match slD g1 C x with | some ds => (match nth ds i with | some d => Q d g1 | none => False) | none => False
theorem rd_fld (h : a δ g fun x g1 => flK C i Q x g1) : dFld C i a δ g Q := h
theorem rd_flI (e : nth (ds.map some) i = some d) (h : Q d g) : flK C i Q (.ins C ds) g := by unfold flK; rw [slD_ins]; dsimp only; rw [e]; exact h
theorem rd_flR {os : List (Option DV)} (e : g p = some (.ins C os)) (e2 : nth os i = some d) (h : Q d g) : flK C i Q (.ref p) g := by unfold flK; rw [slD_ref e]; dsimp only; rw [e2]; exact h
theorem rd_sto (h : b δ g fun y g1 => a δ g1 fun x g2 => stoK C i x y g2 fun g3 => E.nx δ g3) : dSto C i a b E δ g := h
theorem rd_stoK {os : List (Option DV)} {R : DG → Prop} (e : g p = some (.ins C os)) (h : R (gup g p (.ins C (putO i y os)))) : stoK C i (.ref p) y g R := by unfold stoK; dsimp only; rw [e]; exact ⟨rfl, h⟩
theorem rd_mk (h : ta δ g fun ds g1 => ∀ p, g1 p = none → sp (.ref p :: ds) (gup g1 p (.ins C [])) (mkK C p Q)) : dMk C sp ta δ g Q := h
theorem rd_isiCI (h : P (.bl true)) : rrIsiC C [.ins C ds, .ref C] g P := ⟨rfl, .inl ⟨by rw [slD_ins]; rfl, h⟩⟩
theorem rd_isiCT (h : P (.bl false)) : rrIsiC C [.tup ds, .ref C] g P := ⟨rfl, .inr ⟨rfl, h⟩⟩
theorem rd_dcT {wi : TDI} {tg : Tg} {own : List Nat} {tt : TDT} {tk tv : TDE} (h : wi δ g fun ds g1 => zK (fun ds g1 => dDcC tg own tt tk tv δ ds [] [] g1 fun ks vs g2 => Q (.dT ks vs) g2) ds g1) : dDcT wi tg own tt tk tv δ g Q := h
theorem rd_sk {kf : List Int → Int} (h : a δ g fun x g1 => skK kf Q x g1) : dSK kf a δ g Q := h
theorem rd_skK {kf : List Int → Int} {L : List (List Int)} (i : ItT g x L) (c : L.length ≤ 16777216) (h : Q (.lst ((L.mergeSort (leK kf)).map tuI)) g) : skK kf Q x g := ⟨L, i, by rw [sizeLine_eq]; exact c, h⟩
theorem rd_sts (h : a δ g fun x g1 => stsK Q x g1) : dSTs a δ g Q := h
theorem rd_wenT (h : ta δ g fun xs g1 => enK QA xs g1) : wEnT ta δ g QA := h
theorem rd_enK (h : QA (enD ds) g) : enK QA [.tup ds] g := h
end
/-- a dict comprehension {f d: v for d in ..} whose parts change nothing -/
theorem dc_map {tg : Tg} {own : List Nat} {tk tv : TDE} {δ : DS} {g : DG} {kf : DV → List Key} {v : DV} : ∀ {ds : List DV} {ks : List (List Key)} {vs : List DV} {R : List (List Key) → List DV → DG → Prop},
    (∀ d ∈ ds, ∃ δ2 y, bindT tg d (wipeD δ own) = some δ2 ∧ keyT y = some (kf d) ∧ ∀ Q2 : DV → DG → Prop, Q2 y g → tk δ2 g Q2) → (∀ d ∈ ds, ∀ δ2, bindT tg d (wipeD δ own) = some δ2 → ∀ Q2 : DV → DG → Prop, Q2 v g → tv δ2 g Q2) →
    (∀ vs', R ((ds.map kf).foldl putKs ks) vs' g) → dDcC tg own dYes tk tv δ ds ks vs g R
  | [], ks, vs, R, _, _, h => h vs
  | d :: ds, ks, vs, R, hk, hv, h => by
    obtain ⟨δ2, y, e, ek, q⟩ := hk d List.mem_cons_self
    unfold dDcC
    rw [e]
    dsimp only
    refine rd_yes (rd_itet (q _ (hv d List.mem_cons_self δ2 e _ ?_)))
    rw [ek]
    exact dc_map (fun d hd => hk d (List.mem_cons_of_mem _ hd)) (fun d hd => hv d (List.mem_cons_of_mem _ hd)) h
end DL

/-! Deep layer Y: max, sum of a list or a tuple of ints. -/
namespace DL
open PySem PySem.Spec PyProof.Rows L2
section
variable {prog : Program} {w : World} {A : Around} {E : Value → Shared → Prop} {s : Shared} {l : Addr} {its : List Value} {ns : List Int} {Q : Value → Shared → Prop}
theorem max_tup (hh : A.handled = none) (ht : s.heap.IsTuple l its.toArray) (hi : IntsAre its ns) (hne : 0 < ns.length)
    (h : ∀ h' tk M t', (∀ b o, s.heap.get? b = some o → h'.get? b = some o) → M ∈ ns → (∀ a, a ∈ ns → a ≤ M) → Q (.int M t') { s with heap := h', toks := tk }) : wpAny (model prog w) A (call (.builtin "max") [.ref l]) Q E s := by
  obtain ⟨xs, e⟩ := hi.allInts.items
  have hn : numsOf (intItems xs).toList = ns := by rw [← e]; exact hi.numsOf
  rw [nums_intItems] at hn
  subst hn
  rw [e] at ht
  have hsz : 0 < xs.size := by simpa using hne
  obtain ⟨o, ho, hc, n, hd⟩ := id ht
  have ne : l ≠ s.heap.objs.size := Nat.ne_of_lt (Heap.lt_size ho)
  refine call_max_walk (wpAny_pyIter_tuple ht ?_)
  refine ⟨s.heap.objs.size, _, _, _, _, _, _, rfl, Walks.tuple (prog := prog) (w := w) (A := A.in1) hh s.heap.objs.size l ne (intItems xs), ⟨⟨_, Heap.get?_push_size _ rfl, rfl, rfl⟩, ht.at fun o e => Heap.get?_push_of_some _ e⟩, fun b hb => ?_, by simpa [intItems] using hsz, CmpOf.ints_gt (numAt xs) (fun _ _ => intItems_at), fun v h' tk hP hk => ?_⟩
  · rcases List.mem_cons.mp hb with rfl | hb
    · exact Heap.lt_size (Heap.get?_push_size _ rfl)
    · obtain rfl := List.mem_singleton.mp hb
      exact Heap.lt_size (Heap.get?_push_of_some _ ho)
  · have hv : (intItems xs)[argBest (fun i j => decide (numAt xs i > numAt xs j)) (xs.size - 1)]? = some v := by simpa [intItems] using hP
    obtain ⟨t, rfl⟩ := intItems_at hv
    obtain ⟨h1, h2⟩ := argBest_gt (numAt xs) (xs.size - 1)
    refine h h' tk _ t (fun b o e => hk b o (fun hb => absurd (Heap.lt_size e) ((List.mem_singleton.mp hb) ▸ Nat.lt_irrefl _)) (Heap.get?_push_of_some _ e)) ?_ fun a ha => ?_
    · rw [numAt_eq]; exact PySem.getD_mem (by rw [List.length_map, Array.length_toList]; omega)
    · obtain ⟨j, hj, rfl⟩ := mem_getD ha
      rw [List.length_map, Array.length_toList] at hj
      rw [← numAt_eq]; exact h2 j (by omega)
end
section
variable {X : Cx} {K : Fg}
def rMaxS (K : Fg) : List V → Hp → VK → Prop := fun vs H Q => ∃ (a : Addr) (ns : List Int), vs = [V.ref a] ∧ (SqL K H a (ns.map V.int) ∨ SqT K H a (ns.map V.int)) ∧ 0 < ns.length ∧ ∀ m, m ∈ ns → (∀ y, y ∈ ns → y ≤ m) → Q (.int m) H
theorem cr_maxS (hc : X.calm = true) : CallR X (.builtin "max") (rMaxS X.K) := by
  intro pins s σ H vs us Q I r h
  obtain ⟨a, ns, rfl, hs, hne, q⟩ := h
  rcases hs with hs | hs
  · exact cr_max hc pins s σ H [.ref a] us Q I r ⟨a, ns, rfl, hs, hne, q⟩
  · obtain ⟨its, rv, hl, _⟩ := I.tuple hs
    rw [Vals.ref1 r]
    exact max_tup (I.ok.hd hc) (show s.heap.IsTuple a its.toArray from hl) rv.ints hne fun h' tk m t' hk h1 h2 => ⟨.int _, H, I.kept hk, ⟨_, rfl⟩, q m h1 h2⟩
def rrMaxS : RRs := rr1 fun x g P => ∃ ns : List Int, (∃ ds, seqD g x = some ds ∧ intsD ds = some ns) ∧ 0 < ns.length ∧ ∀ m, m ∈ ns → (∀ y, y ∈ ns → y ≤ m) → P (.int m)
theorem ref_maxS : RefCall K rrMaxS (rMaxS K) := by
  intro xs P vs H g Q rg r k h
  obtain ⟨x, v, rfl, rfl, rx, ns, ⟨ds, e, e2⟩, hne, h⟩ := rr1_of r h
  obtain ⟨a, us, rfl, hq, hr⟩ := seqD_of rg rx e
  rw [intsD_of e2] at hr
  rw [hr.ints] at hq
  exact ⟨a, ns, rfl, hq, hne, fun m h1 h2 => .inl (k _ _ H Ext.refl rg (.int _) (h m h1 h2))⟩
theorem rd_maxS {x : DV} {g : DG} {P : DV → Prop} {ns : List Int} (e : seqD g x = some (ns.map DV.int)) (c : 0 < ns.length) (h : ∀ m, m ∈ ns → (∀ y, y ∈ ns → y ≤ m) → P (.int m)) : rrMaxS [x] g P := ⟨ns, ⟨_, e, intsD_map ns⟩, c, h⟩
end
end DL

/-! Deep layer AA: a comprehension over a list that may change but stays as it is while walked; reading lemmas for comprehensions. -/
namespace DL
open PySem PySem.Spec PyProof.Rows L2
def dCompR (q : Addr) (all : List DV) (tg : Tg) (own : List Nat) (tt : TDT) (te : TDE) (δ : DS) : List DV → DG → (List DV → DG → Prop) → Prop
  | [], g, Q => g q = some (.lst all) ∧ Q [] g
  | d :: ds, g, Q => g q = some (.lst all) ∧ match bindT tg d (wipeD δ own) with
    | some δ2 => tt δ2 g fun b g3 => if b = true then te δ2 g3 fun y g4 => dCompR q all tg own tt te δ ds g4 fun ys g5 => Q (y :: ys) g5 else dCompR q all tg own tt te δ ds g3 Q
    | none => False
def lrC (tg : Tg) (own : List Nat) (tt : TDT) (te : TDE) (δ : DS) (P : List DV → DG → Prop) (x : DV) (g1 : DG) : Prop := match x with
  | .ref q => (match g1 q with | some (.lst ds) => ds.length ≤ sizeLine ∧ dCompR q ds tg own tt te δ ds g1 P | _ => False)
  | _ => False
theorem lrC_of {tg : Tg} {own : List Nat} {tt : TDT} {te : TDE} {δ : DS} {P : List DV → DG → Prop} {x : DV} {g1 : DG} (h : lrC tg own tt te δ P x g1) : ∃ q ds, x = .ref q ∧ g1 q = some (.lst ds) ∧ ds.length ≤ sizeLine ∧ dCompR q ds tg own tt te δ ds g1 P := by
  cases x <;> first | exact h.elim | skip
  rename_i q
  unfold lrC at h
  dsimp only at h
  split at h
  · rename_i ds e
    exact ⟨q, ds, rfl, e, h⟩
  · exact h.elim
def dLcR (ti : TDE) (tg : Tg) (own : List Nat) (tt : TDT) (te : TDE) : TDE := fun δ g Q => ti δ g fun x g1 => lrC tg own tt te δ (fun ys g2 => Q (.lst ys) g2) x g1
section
variable {X : Cx} {pos : Pos}
variable {elt iter tgx : Expr} {ifs : List Expr} {scope : Scope} {own : List (Str × Nat)} {ti : TDE} {tg : Tg} {tt : TDT} {tel : TDE}
theorem lcR_up {K : Fg} {ti : TDE} {tg : Tg} {own : List Nat} {tt : TDT} {tel : TDE} {δ : DS} {g : DG} {σ : L2.St} {H : Hp} {P : List DV → DG → Prop} {Q : VK} (hix : ∀ i ∈ tg.ix, i ∈ own) (rs : RS K H δ σ) (rg : RG K H g)
    (h : ti δ g fun x g1 => lrC tg own tt tel δ P x g1)
    (k : ∀ D ys vs g' H', Ext g H g' H' → RG K H' g' → g' D = none → (∀ o, H D = some o → g D = none → ¬ OwnO o → False) → H' D = some (.lst vs) → RDs K H' ys vs → P ys g' → Q (.ref D) H') :
    tLc (iSeq K (upE K ti)) (tgG K tg) (upT K tt) (upE K tel) own σ H Q := by
  refine ⟨δ, g, _, rs, rg, h, fun x g1 v H1 e1 rg1 rd1 p => ?_⟩
  obtain ⟨q, ds, ex, eg, hlen, p'⟩ := lrC_of p
  subst ex
  cases rd1
  obtain ⟨us, hq, _⟩ := rg1 q _ eg
  refine ⟨q, rfl, .inl ⟨⟨us, .inl (.inl hq)⟩, fun D hD => ?_⟩⟩
  have hD0 : ∀ o, H D = some o → g D = none → ¬ OwnO o → False := fun o q1 n w => by
    have := (e1 D o q1 n w).1
    rw [hD] at this; cases this
  have k1 : Kp H1 (upd H1 D (.lst [])) := Kp.fresh hD
  refine ⟨fun i m H' => m = ds.length - i ∧ i ≤ ds.length ∧ Kp H1 H' ∧ ∃ (acc : List DV) (accV : List V) (g' : DG), Ext g H g' H' ∧ RG K H' g' ∧ g' D = none ∧ H' D = some (.lst accV) ∧ RDs K H' acc accV ∧ acc.length ≤ i ∧
    dCompR q ds tg own tt tel δ (ds.drop i) g' fun ys g2 => P (acc ++ ys) g2, ⟨ds.length, rfl, Nat.zero_le _, k1, [], [], g1, e1.trans (Ext.fresh rg1 hD), rg1.fresh hD, rg1.none hD, upd_same, .nil, Nat.le_refl _, p'⟩, ?_⟩
  rintro i m H2 ⟨rfl, hi, kp2, acc, accV, g2, e2, rg2, gD, hD2, ra, hacc, qq⟩
  by_cases hlt : i < ds.length
  · have hd : ds.drop i = ds[i] :: ds.drop (i + 1) := List.drop_eq_getElem_cons hlt
    rw [hd] at qq
    have q0 : g2 q = some (.lst ds) := qq.1
    obtain ⟨vs, hv, rv⟩ := rg2 q _ q0
    have hl := rv.length
    have q' : (match bindT tg ds[i] (wipeD δ own) with
      | some δ2 => tt δ2 g2 fun b g3 => if b = true then tel δ2 g3 fun y g4 => dCompR q ds tg own tt tel δ (ds.drop (i + 1)) g4 fun ys g5 => P (acc ++ (y :: ys)) g5 else dCompR q ds tg own tt tel δ (ds.drop (i + 1)) g3 fun ys g2 => P (acc ++ ys) g2
      | none => False) := qq.2
    refine .inr ⟨⟨vs, vs[i], .inl (.inl hv), by simp [show i < vs.length by omega]⟩, fun H' => Kp H1 H' ∧ ∃ (acc : List DV) (accV : List V) (g' : DG), Ext g H g' H' ∧ RG K H' g' ∧ g' D = none ∧ H' D = some (.lst accV) ∧ RDs K H' acc accV ∧ acc.length ≤ i + 1 ∧
      dCompR q ds tg own tt tel δ (ds.drop (i + 1)) g' fun ys g2 => P (acc ++ ys) g2, fun H' z => ⟨ds.length - (i + 1), by omega, rfl, hlt, z⟩, fun x H3 y => ?_⟩
    obtain ⟨ey, y⟩ := y
    subst ey
    obtain ⟨v, hvi, rd⟩ := rv.get (show ds[i]? = some ds[i] by simp [hlt])
    have z1 := y vs (.inl (.inl hv))
    rw [hvi] at z1
    cases z1
    have st : Grw H3 H3 := .inl rfl
    split at q'
    · rename_i δ3 eb
      have rg3 := step_rg st rg2
      have e3 := step_ext st rg2
      have rs3 : RS K H3 (wipeD δ own) (wipe σ own) := ((rs.mono (e2.kp rg)).mono (step_kp st)).wipe own
      refine tg_run rd rs3 eb fun σ3 rsT hw => ⟨?_, ?_⟩
      · rw [hw own hix]
        exact wipe_wipe σ own
      · have hD3 : H3 D = some (.lst accV) := (e3 D _ hD2 gD fun z => z).1
        refine ⟨δ3, g2, _, rsT, rg3, q', fun b g4 H4 e4 rg4 z => ?_⟩
        have hD4 := e4 D _ hD3 gD fun z => z
        cases b with
        | false =>
          dsimp only
          rw [if_neg Bool.false_ne_true] at z ⊢
          exact ⟨(kp2.trans (step_kp st)).trans (e4.kp rg3), acc, accV, g4, (e2.trans e3).trans e4, rg4, hD4.2, hD4.1, (ra.mono (step_kp st)).mono (e4.kp rg3), by omega, z⟩
        | true =>
          dsimp only
          rw [if_pos rfl] at z ⊢
          refine ⟨δ3, g4, _, rsT.mono (e4.kp rg3), rg4, z, fun y g5 v H5 e5 rg5 rd5 w => ?_⟩
          have hD5 := e5 D _ hD4.1 hD4.2 fun z => z
          have la := ra.length
          refine ⟨accV, hD5.1, by omega, ?_⟩
          have km : Kp H5 (upd H5 D (.lst (accV ++ [v]))) := Kp.mut (by rw [hD5.1]; exact True.intro)
          refine ⟨(((kp2.trans (step_kp st)).trans (e4.kp rg3)).trans (e5.kp rg4)).trans km, acc ++ [y], accV ++ [v], g5, fun a o ha hn hw => ?_, fun a o ha => ?_, hD5.2, upd_same, ?_, by rw [List.length_append, List.length_singleton]; omega, ?_⟩
          · obtain ⟨z1, z2⟩ := ((e2.trans e3).trans (e4.trans e5)) a o ha hn hw
            refine ⟨?_, z2⟩
            rw [upd_ne (fun q => by subst q; exact hD0 o ha hn hw)]
            exact z1
          · have na : a ≠ D := fun q => by subst q; rw [hD5.2] at ha; cases ha
            exact (rg5 a o ha).keep km (upd_ne na)
          · exact ((((ra.mono (step_kp st)).mono (e4.kp rg3)).mono (e5.kp rg4)).mono km).append (.one (rd5.mono km))
          · have hw2 : (fun ys g2 => P (acc ++ [y] ++ ys) g2) = (fun ys g5 => P (acc ++ (y :: ys)) g5) := by
              funext ys g5
              rw [List.append_assoc]
              rfl
            rw [hw2]
            exact w
    · exact q'.elim
  · have ei : i = ds.length := by omega
    subst ei
    rw [List.drop_length] at qq
    have q0 : g2 q = some (.lst ds) := qq.1
    obtain ⟨vs, hv, rv⟩ := rg2 q _ q0
    have hl := rv.length
    have q' : P (acc ++ []) g2 := qq.2
    rw [List.append_nil] at q'
    exact .inl ⟨⟨vs, .inl (.inl hv), by omega⟩, k D acc accV g2 H2 e2 rg2 gD hD0 hD2 ra q'⟩
theorem pd_lcR (hc : X.calm = true) (hN : X.N.Nodup) (hi : PE X iter (upE X.K ti)) (ok : BlkOk X.N X.env.scope scope own)
    (hg : ∀ (s : Shared) (H : Hp) (C : Addr) (cl : List (Str × Addr)) (fp : List Addr), PG (X.blk s H scope (compEnvC scope cl C X.env) fp) tgx (tgG X.K tg)) (ht : ∀ (s : Shared) (H : Hp) (C : Addr) (cl : List (Str × Addr)) (fp : List Addr), PTs (X.blk s H scope (compEnvC scope cl C X.env) fp) ifs (upT X.K tt))
    (he : ∀ (s : Shared) (H : Hp) (C : Addr) (cl : List (Str × Addr)) (fp : List Addr), PE (X.blk s H scope (compEnvC scope cl C X.env) fp) elt (upE X.K tel)) (hix : ∀ i ∈ tg.ix, i ∈ own.map (·.2) := by decide) (hs : ∀ x, foldedSetIterable iter X.env x = pure x := by intro _; rfl) :
    PE X (.ListComp elt [⟨tgx, iter, ifs, 0⟩] scope pos) (upE X.K (dLcR ti tg (own.map (·.2)) tt tel)) :=
  PE_weak (PE_fz (pe_lc hc hN (pi_seq hi) ok hg ht he hs)) fun σ H Q ⟨δ, g, P, rs, rg, h, k⟩ => lcR_up (P := fun ys g2 => P (.lst ys) g2) hix rs rg h fun D ys vs g' H' e rg' gD hD0 hD rd p =>
    .inr ⟨D, .lst vs, rfl, hD, trivial, fun o => k _ g' _ _ (lock_ext e hD0) (lock_rg rg' gD hD) (.lst ⟨o, upd_same⟩ (rd.mono (Kp.mut (by rw [hD]; exact True.intro)))) p⟩
end
section
variable {δ : DS} {g : DG} {Q : DV → DG → Prop} {a : TDE}
theorem rd_lcR {tg : Tg} {own : List Nat} {tt : TDT} {te : TDE} (h : a δ g fun x g1 => lrC tg own tt te δ (fun ys g2 => Q (.lst ys) g2) x g1) : dLcR a tg own tt te δ g Q := h
theorem rd_lrC {tg : Tg} {own : List Nat} {tt : TDT} {te : TDE} {P : List DV → DG → Prop} {p : Addr} {ds : List DV} (e : g p = some (.lst ds)) (c : ds.length ≤ 16777216) (h : dCompR p ds tg own tt te δ ds g P) : lrC tg own tt te δ P (.ref p) g := by
  unfold lrC; dsimp only; rw [e]; exact ⟨by rw [sizeLine_eq]; exact c, h⟩
theorem compR_map {q : Addr} {all : List DV} {tg : Tg} {own : List Nat} {te : TDE} {f : DV → DV} (e : g q = some (.lst all)) : ∀ {ds : List DV} {P : List DV → DG → Prop},
    (∀ d ∈ ds, ∃ δ2, bindT tg d (wipeD δ own) = some δ2 ∧ ∀ Q2 : DV → DG → Prop, Q2 (f d) g → te δ2 g Q2) → P (ds.map f) g → dCompR q all tg own dYes te δ ds g P
  | [], P, _, hq => ⟨e, hq⟩
  | d :: ds, P, h, hq => by
    obtain ⟨δ2, eb, he⟩ := h d List.mem_cons_self
    unfold dCompR
    refine ⟨e, ?_⟩
    rw [eb]
    dsimp only [dYes]
    rw [if_pos rfl]
    exact he _ (compR_map e (fun d hd => h d (List.mem_cons_of_mem _ hd)) hq)
theorem rd_wsB {ds : List DV} {x : DV} {QA : List DV → DG → Prop} (e : x = .tup ds ∨ x = .lst ds) (h : QA ds g) : wsK QA x g := by rcases e with rfl | rfl <;> exact h
theorem rd_isiT {ds : List DV} {P : DV → Prop} (h : P (.bl true)) : rrIsi [.tup ds, .ty "tuple"] g P := rd_isi (s := "tuple") rfl rfl h
end
end DL

/-! Deep layer AB: bool(x), y in xs, str(i), isinstance of an instance. -/
namespace DL
open PySem PySem.Spec PyProof.Rows L2
/-! ### bool(x) -/
section
variable {X : Cx} {K : Fg} {C f : Addr} {n : Nat} {sp : Sp} {sd : SpD} {EX : XK} {CX : CXT}
/-! ### y in xs, xs a list of content -/
def rrInL (neg : Bool) : RR2 := fun x y _ P => okD x = true ∧ ∃ ds, y = .lst ds ∧ okD y = true ∧ P (.bl (if neg then !ds.any fun d => eqD d x else ds.any fun d => eqD d x))
theorem py_any (x : DV) : ∀ ds : List DV, ((pyAll ds).any fun z => PyData.eqv z x.py) = ds.any fun d => eqD d x
  | [] => rfl
  | d :: ds => by
    show (PyData.eqv d.py x.py || (pyAll ds).any _) = _
    rw [py_any x ds]
    rfl
theorem ref_inL {K : Fg} : RefCmp K (rrInL false) (rInD K) := by
  intro x y P v u H g Q rg rx ry k ⟨h1, ds, ey, h2, h⟩
  unfold okD at h1 h2
  rw [Bool.and_eq_true] at h1 h2
  subst ey
  refine ⟨_, _, rx.dp h1.1, ry.dp h2.1, h1.2, h2.2, ?_⟩
  rw [py_any]
  exact k _ h
theorem ref_notInL {K : Fg} : RefCmp K (rrInL true) (rNotInD K) := by
  intro x y P v u H g Q rg rx ry k ⟨h1, ds, ey, h2, h⟩
  unfold okD at h1 h2
  rw [Bool.and_eq_true] at h1 h2
  subst ey
  refine ⟨_, _, rx.dp h1.1, ry.dp h2.1, h1.2, h2.2, ?_⟩
  rw [py_any]
  exact k _ h
/-! ### str(i) -/
/-! ### isinstance(x, T), T built in, x an instance too -/
end
end DL

/-! Deep layer AC: list(x), x an instance with its own __iter__ (a tuple's iterator) and its own __len__. -/
namespace DL
open PySem PySem.Spec PyProof.Rows L2
theorem RG.more {K : Fg} {H H' : Hp} {g : DG} (k : ∀ b o, H b = some o → H' b = some o) (r : RG K H g) : RG K H' g := fun a o e => by
  have kp : Kp H H' := ⟨fun b xs q => k _ _ q, fun b o u q => k _ _ q, fun b fs q => k _ _ q, fun b n q => k _ _ q⟩
  obtain ⟨u, q, _⟩ := (r a o e).some
  exact (r a o e).keep kp (by rw [q]; exact k _ _ q)
section
variable {X : Cx} {K : Fg} {C f fl : Addr} {n nl i : Nat} {spl : Sp} {sd : SpD}
end
/-! ### reading -/
section
variable {C : Addr} {ds es : List DV} {x y d : DV} {g : DG} {P : DV → Prop} {sd : SpD} {i : Nat}
theorem rd_inL {neg : Bool} (c : okD x = true) (c2 : okD (.lst ds) = true) (h : P (.bl (if neg then !ds.any fun d => eqD d x else ds.any fun d => eqD d x))) : rrInL neg x (.lst ds) g P := ⟨c, ds, rfl, c2, h⟩
end
/-! ### sum(xs) of a list or a tuple -/
section
variable {X : Cx} {K : Fg}
def rSumS (K : Fg) : List V → Hp → VK → Prop := fun vs H Q => ∃ (a : Addr) (ns : List Int), vs = [V.ref a] ∧ (SqL K H a (ns.map V.int) ∨ SqT K H a (ns.map V.int)) ∧ Q (.int ns.sum) H
theorem cr_sumS (hc : X.calm = true) : CallR X (.builtin "sum") (rSumS X.K) := by
  intro pins s σ H vs us Q I r h
  obtain ⟨a, ns, rfl, hs, q⟩ := h
  rcases hs with hs | hs
  · exact cr_sum hc pins s σ H [.ref a] us Q I r ⟨a, ns, rfl, hs, q⟩
  · obtain ⟨its, rv, ⟨o, h1, h2, n, h3⟩, hz⟩ := I.tuple hs
    rw [Vals.ref1 r]
    have hi := rv.ints
    have hl : s.heap.IsTuple a its.toArray := ⟨o, h1, h2, n, h3⟩
    obtain ⟨xs, hx⟩ := hi.allInts.items
    have hn : numsOf its.toArray.toList = ns := by rw [show its.toArray.toList = its from rfl, hi.numsOf]
    rw [hx] at hl hn
    rw [nums_intItems] at hn
    refine PySem.W.ktm_sumG (I.ok.hd hc) hl fun h' tk t' hk => ⟨.int ns.sum, H, I.kept hk, ⟨t', ?_⟩, q⟩
    rw [preSum_eq, List.take_of_length_le (by simp), hn]
def rrSumS : RRs := rr1 fun x g P => ∃ ns : List Int, (∃ ds, seqD g x = some ds ∧ intsD ds = some ns) ∧ P (.int ns.sum)
theorem ref_sumS : RefCall K rrSumS (rSumS K) := by
  intro xs P vs H g Q rg r k h
  obtain ⟨x, v, rfl, rfl, rx, ns, ⟨ds, es, ei⟩, h2⟩ := rr1_of r h
  obtain ⟨a, ws, rfl, hq, hr⟩ := seqD_of rg rx es
  rw [intsD_of ei] at hr
  rw [RDs.ints hr] at hq
  exact ⟨a, ns, rfl, hq, .inl (k _ _ H Ext.refl rg (.int _) h2)⟩
theorem rd_sumS {x : DV} {g : DG} {P : DV → Prop} {ns : List Int} (e : seqD g x = some (ns.map DV.int)) (h : P (.int ns.sum)) : rrSumS [x] g P := ⟨ns, ⟨_, e, intsD_map ns⟩, h⟩
end
theorem units65 {k : Nat} {A : Around} (r : Room k A) : A.units + 65 < cLine := by have := r.un; omega
end DL

namespace DL
open PySem L2
abbrev tI (ns : List Int) : DV := .tup (ns.map DV.int)
def isW : DV → Bool
  | .int _ => true
  | _ => false
def isWi (lo hi : Int) : DV → Bool
  | .int i => decide (lo ≤ i) && decide (i ≤ hi)
  | _ => false
def ltD : DV → Bool
  | .tup [.int i, .int j] => decide (i < j)
  | _ => false
def leD : DV → Bool
  | .tup [.int i, .int j] => decide (i ≤ j)
  | _ => false
theorem blsD_fun (p : DV → Bool) : ∀ ds : List DV, blsD (ds.map fun d => .bl (p d)) = some (ds.map p)
  | [] => rfl
  | d :: ds => by rw [List.map_cons, blsD, blsD_fun p ds]; rfl
theorem cutD_from (ds : List DV) (k : Nat) : cutD ds (some (k : Int)) none = ds.drop k := by
  unfold cutD
  rw [HT.sIx_nat, HT.sIx_none]
  by_cases h : k ≤ ds.length
  · rw [Nat.min_eq_left h]
    exact List.take_of_length_le (by rw [List.length_drop]; exact Nat.le_refl _)
  · rw [Nat.min_eq_right (by omega), List.drop_eq_nil_of_le (Nat.le_refl _), List.drop_eq_nil_of_le (by omega), List.take_nil]
theorem all_id_map (p : DV → Bool) (ds : List DV) : (ds.map p).all id = ds.all p := by rw [List.all_map]; rfl
theorem zip_ints : ∀ xs ys : List Int, zipD (xs.map DV.int) (ys.map DV.int) = (xs.zip ys).map fun p => .tup [.int p.1, .int p.2]
  | [], _ => rfl
  | _ :: _, [] => rfl
  | x :: xs, y :: ys => by
    show DV.tup [.int x, .int y] :: zipD (xs.map DV.int) (ys.map DV.int) = _
    rw [zip_ints xs ys]
    rfl
theorem pl_ints : ∀ xs : List Int, plAll (xs.map DV.int) = true
  | [] => rfl
  | x :: xs => by rw [List.map_cons, plAll, pl_ints xs]; rfl
theorem pl_tI (xs : List Int) : (tI xs).pl = true := pl_ints xs
theorem zipD_ints_all {f : DV → Bool} {r : Int → Int → Bool} (hf : ∀ i j, f (.tup [.int i, .int j]) = r i j) (xs ys : List Int) : (zipD (xs.map DV.int) (ys.map DV.int)).all f = (xs.zip ys).all fun p => r p.1 p.2 := by
  rw [zip_ints, List.all_map]
  congr 1
  funext p
  exact hf p.1 p.2
/-- 0 ≤ v, so many draws -/
def PotL (n : Nat) (L : List DV) : Prop := ∃ u v k : Int, L = [.int u, .int v, .int k] ∧ 0 ≤ v ∧ v < 2305843009213693952 ∧ 0 ≤ k ∧ k ≤ n
theorem mulW {i j : Int} (h1 : -18446744073709551616 < i) (h2 : i < 18446744073709551616) (h3 : -18446744073709551616 < j) (h4 : j < 18446744073709551616) : CMulW i j :=
  wide_mul (a := 64) (b := 64) (by omega) (by omega) (by decide) (by decide) (by decide)
theorem divW {i j : Int} (h1 : 0 < j) (h2 : j < 18446744073709551616) : CDivW i j := wide_div (b := 64) h1 (by omega) (by decide) (by decide)
theorem atI_ints {ns : List Int} {i : Nat} (h : i < ns.length) : atI (ns.map DV.int) (i : Int) = some (.int ns[i]) := atI_nat (by rw [List.getElem?_map, List.getElem?_eq_getElem h]; rfl)
end DL

namespace DL
open PySem L2
theorem py_ints : ∀ ns : List Int, pyAll (ns.map DV.int) = ns.map PyData.int
  | [] => rfl
  | n :: ns => by rw [List.map_cons, pyAll, py_ints ns]; rfl
theorem lay_is : ∀ ns : List Int, PyData.canLayAll0 (ns.map PyData.int) = true
  | [] => rfl
  | _ :: ns => by simp [PyData.canLayAll0, PyData.canLay0, lay_is ns]
theorem dep_is : ∀ ns : List Int, PyData.depthAll (ns.map PyData.int) = 0
  | [] => rfl
  | _ :: ns => by simp [PyData.depthAll, PyData.depth, dep_is ns]
theorem eqv_is : ∀ ns ms : List Int, PyData.eqvAll (ns.map PyData.int) (ms.map PyData.int) = decide (ns = ms)
  | [], [] => by simp [PyData.eqvAll]
  | [], _ :: _ => by simp [PyData.eqvAll]
  | _ :: _, [] => by simp [PyData.eqvAll]
  | n :: ns, m :: ms => by
    simp only [List.map_cons, PyData.eqvAll, PyData.eqv, eqv_is ns ms]
    by_cases h : n = m <;> by_cases h' : ns = ms <;> simp [h, h']
theorem okD_tI (ns : List Int) : okD (tI ns) = true := by
  unfold okD
  rw [pl_tI, Bool.true_and]
  show SeqAt.shaped (.tuple (pyAll (ns.map DV.int))) = true
  rw [py_ints]
  simp [SeqAt.shaped, PyData.canLay0, PyData.depth, lay_is, dep_is]
theorem eqD_tI (ns ms : List Int) : eqD (tI ns) (tI ms) = decide (ns = ms) := by
  show PyData.eqv (.tuple (pyAll (ns.map DV.int))) (.tuple (pyAll (ms.map DV.int))) = _
  rw [py_ints, py_ints, ← eqv_is]
  simp only [PyData.eqv]
theorem okD_lI (ns : List Int) : okD (.lst (ns.map DV.int)) = true := by
  unfold okD
  rw [show (DV.lst (ns.map DV.int)).pl = true from pl_ints ns, Bool.true_and]
  show SeqAt.shaped (.list (pyAll (ns.map DV.int))) = true
  rw [py_ints]
  simp [SeqAt.shaped, PyData.canLay0, PyData.depth, lay_is, dep_is]
theorem eqD_lI (ns ms : List Int) : eqD (.lst (ns.map DV.int)) (.lst (ms.map DV.int)) = decide (ns = ms) := by
  show PyData.eqv (.list (pyAll (ns.map DV.int))) (.list (pyAll (ms.map DV.int))) = _
  rw [py_ints, py_ints, ← eqv_is]
  simp only [PyData.eqv]
theorem okD_int (i : Int) : okD (.int i) = true := by
  simp [okD, DV.pl, DV.py, SeqAt.shaped, PyData.canLay0, PyData.depth]
theorem eqD_int (i j : Int) : eqD (.int i) (.int j) = decide (i = j) := by
  simp only [eqD, DV.py, PyData.eqv]
  by_cases h : i = j <;> simp [h]
theorem alike_is : ∀ ns ms : List Int, W.alikeAll (ns.map PyData.int) (ms.map PyData.int) = true
  | [], _ => by simp [W.alikeAll]
  | _ :: _, [] => by simp [W.alikeAll]
  | _ :: ns, _ :: ms => by simp [W.alikeAll, W.alike, alike_is ns ms]
theorem py_tI (ns : List Int) : (tI ns).py = .tuple (ns.map PyData.int) := by
  show PyData.tuple (pyAll (ns.map DV.int)) = _
  rw [py_ints]
theorem pl_tIs : ∀ ws : List (List Int), plAll (ws.map tI) = true
  | [] => rfl
  | w :: ws => by rw [List.map_cons, plAll, pl_tIs ws, pl_tI]; rfl
theorem sort_tIs {ws : List (List Int)} (h : ∀ w ∈ ws, w ≠ []) : SortOk (ws.map tI) := by
  refine ⟨pl_tIs ws, ?_, .inl fun d hd => ?_, fun d hd => ?_⟩
  · rw [List.map_map]
    exact W.AllAlike.of fun a b => by
      show W.alike (tI a).py (tI b).py = true
      rw [py_tI, py_tI]
      simp only [W.alike]
      exact alike_is a b
  · obtain ⟨d', h1, e⟩ := List.mem_map.mp hd
    obtain ⟨w, h2, e2⟩ := List.mem_map.mp h1
    subst e e2
    cases w with
    | nil => exact absurd rfl (h _ h2)
    | cons x r => exact ⟨.int x, r.map PyData.int, py_tI _⟩
  · obtain ⟨w, h2, e2⟩ := List.mem_map.mp hd
    subst e2
    rw [py_tI]
    show PyData.depth (.tuple (w.map PyData.int)) ≤ 60
    rw [PyData.depth, dep_is]
    omega
def shortD : DV → Bool
  | .tup ds => decide ((ds.length : Int) ≤ 3)
  | _ => false
def addD (e : DV) : DV → DV
  | .tup ds => .tup (ds ++ [e])
  | d => d
theorem grown (ws : List (List Int)) (i : Int) : ((ws.map tI).filter shortD).map (addD (.int i)) = ((ws.filter fun w => decide (w.length ≤ 3)).map fun w => w ++ [i]).map tI := by
  induction ws with
  | nil => rfl
  | cons w ws ih =>
    rw [List.map_cons, List.filter_cons, List.filter_cons]
    have e : shortD (tI w) = decide (w.length ≤ 3) := by
      show decide (((w.map DV.int).length : Int) ≤ 3) = _
      rw [List.length_map]
      exact decide_eq_decide.mpr (by omega)
    rw [e]
    by_cases c : w.length ≤ 3
    · rw [if_pos (decide_eq_true c), if_pos (decide_eq_true c), List.map_cons, List.map_cons, List.map_cons, ih]
      congr 1
      show DV.tup (w.map DV.int ++ [.int i]) = .tup ((w ++ [i]).map DV.int)
      rw [List.map_append]
      rfl
    · rw [if_neg (by simpa using c), if_neg (by simpa using c)]
      exact ih
end DL

/-! k07, plain: products, lots by their least members. -/
namespace DL
open PySem L2
/-! ### products -/
def dvB (xs ys : List Int) : Bool := (xs.zip ys).all fun p => decide (p.1 ≤ p.2)
def jn (xs ys : List Int) : List Int := List.zipWith max xs ys
def ad (xs ys : List Int) : List Int := List.zipWith (· + ·) xs ys
theorem dvB_cons (x y : Int) (xs ys : List Int) : dvB (x :: xs) (y :: ys) = (decide (x ≤ y) && dvB xs ys) := rfl
theorem dvB_refl : ∀ xs : List Int, dvB xs xs = true
  | [] => rfl
  | x :: xs => by rw [dvB_cons, dvB_refl xs, decide_eq_true (Int.le_refl x)]; rfl
theorem dvB_trans : ∀ {xs ys zs : List Int}, xs.length = ys.length → ys.length = zs.length → dvB xs ys = true → dvB ys zs = true → dvB xs zs = true
  | [], _, _, _, _, _, _ => rfl
  | _ :: _, [], _, h, _, _, _ => by cases h
  | _ :: _, _ :: _, [], _, h, _, _ => by cases h
  | x :: xs, y :: ys, z :: zs, h1, h2, h3, h4 => by
    rw [dvB_cons, Bool.and_eq_true, decide_eq_true_eq] at h3 h4 ⊢
    exact ⟨Int.le_trans h3.1 h4.1, dvB_trans (by simpa using h1) (by simpa using h2) h3.2 h4.2⟩
theorem sum_le_of_dv : ∀ {xs ys : List Int}, xs.length = ys.length → dvB xs ys = true → xs.sum ≤ ys.sum
  | [], [], _, _ => Int.le_refl _
  | [], _ :: _, h, _ => by cases h
  | _ :: _, [], h, _ => by cases h
  | x :: xs, y :: ys, h, h1 => by
    rw [dvB_cons, Bool.and_eq_true, decide_eq_true_eq] at h1
    have := sum_le_of_dv (by simpa using h) h1.2
    rw [List.sum_cons, List.sum_cons]
    omega
theorem sum_lt_of_dv : ∀ {xs ys : List Int}, xs.length = ys.length → dvB xs ys = true → xs ≠ ys → xs.sum < ys.sum
  | [], [], _, _, h => absurd rfl h
  | [], _ :: _, h, _, _ => by cases h
  | _ :: _, [], h, _, _ => by cases h
  | x :: xs, y :: ys, h, h1, h2 => by
    rw [dvB_cons, Bool.and_eq_true, decide_eq_true_eq] at h1
    rw [List.sum_cons, List.sum_cons]
    have hl : xs.length = ys.length := by simpa using h
    by_cases e : xs = ys
    · have : x ≠ y := fun z => h2 (by rw [z, e])
      rw [e]; omega
    · have := sum_lt_of_dv hl h1.2 e
      omega
theorem sum_nonneg' : ∀ {xs : List Int}, (∀ x ∈ xs, 0 ≤ x) → 0 ≤ xs.sum
  | [], _ => Int.le_refl _
  | x :: xs, h => by
    rw [List.sum_cons]
    have := h x List.mem_cons_self
    have := sum_nonneg' fun y hy => h y (List.mem_cons_of_mem _ hy)
    omega
/-- products in n letters -/
def Prods (n : Nat) (B : Int) (L : List (List Int)) : Prop := ∀ m ∈ L, m.length = n ∧ ∀ x ∈ m, 0 ≤ x ∧ x ≤ B
theorem Prods.mono {n : Nat} {B B' : Int} {L : List (List Int)} (h : Prods n B L) (hb : B ≤ B') : Prods n B' L := fun m hm => ⟨(h m hm).1, fun x hx => ⟨((h m hm).2 x hx).1, Int.le_trans ((h m hm).2 x hx).2 hb⟩⟩
theorem Prods.sub {n : Nat} {B : Int} {L M : List (List Int)} (h : Prods n B L) (s : ∀ m ∈ M, m ∈ L) : Prods n B M := fun m hm => h m (s m hm)
theorem Prods.append {n : Nat} {B : Int} {L M : List (List Int)} (h : Prods n B L) (h' : Prods n B M) : Prods n B (L ++ M) := fun m hm => (List.mem_append.mp hm).elim (h m) (h' m)
/-! ### least members -/
def Lst (L : List (List Int)) (m : List Int) : Prop := m ∈ L ∧ ∀ k ∈ L, dvB k m = true → k = m
structure IsLeast (L M : List (List Int)) : Prop where
  asc : M.Pairwise (· < ·)
  mem : ∀ m, m ∈ M ↔ Lst L m
theorem lt_irr (a : List Int) : ¬ a < a := List.lt_irrefl a
theorem asc_unique : ∀ {M N : List (List Int)}, M.Pairwise (· < ·) → N.Pairwise (· < ·) → (∀ x, x ∈ M ↔ x ∈ N) → M = N
  | [], [], _, _, _ => rfl
  | [], b :: N, _, _, h => by have := (h b).mpr List.mem_cons_self; cases this
  | a :: M, [], _, _, h => by have := (h a).mp List.mem_cons_self; cases this
  | a :: M, b :: N, h1, h2, h => by
    obtain ⟨a1, a2⟩ := List.pairwise_cons.mp h1
    obtain ⟨b1, b2⟩ := List.pairwise_cons.mp h2
    have e : a = b := by
      rcases List.mem_cons.mp ((h a).mp List.mem_cons_self) with e | ha
      · exact e
      · rcases List.mem_cons.mp ((h b).mpr List.mem_cons_self) with e | hb
        · exact e.symm
        · exact absurd (List.lt_trans (a1 b hb) (b1 a ha)) (lt_irr a)
    subst e
    congr 1
    refine asc_unique a2 b2 fun x => ⟨fun hx => ?_, fun hx => ?_⟩
    · rcases List.mem_cons.mp ((h x).mp (List.mem_cons_of_mem _ hx)) with e | hx'
      · subst e; exact absurd (a1 x hx) (lt_irr x)
      · exact hx'
    · rcases List.mem_cons.mp ((h x).mpr (List.mem_cons_of_mem _ hx)) with e | hx'
      · subst e; exact absurd (b1 x hx) (lt_irr x)
      · exact hx'
theorem IsLeast.uniq {L M N : List (List Int)} (h : IsLeast L M) (h' : IsLeast L N) : M = N := asc_unique h.asc h'.asc fun x => (h.mem x).trans (h'.mem x).symm
theorem IsLeast.sub {L M : List (List Int)} (h : IsLeast L M) : ∀ m ∈ M, m ∈ L := fun m hm => ((h.mem m).mp hm).1
theorem IsLeast.prods {n : Nat} {B : Int} {L M : List (List Int)} (h : IsLeast L M) (hp : Prods n B L) : Prods n B M := hp.sub h.sub
/-- below each product of L stands a least one -/
theorem least_below {n : Nat} {B : Int} {L : List (List Int)} (hp : Prods n B L) : ∀ (k : Nat) (m : List Int), m ∈ L → m.sum.toNat ≤ k → ∃ x, Lst L x ∧ dvB x m = true
  | k, m, hm, hk => by
    by_cases h : ∀ j ∈ L, dvB j m = true → j = m
    · exact ⟨m, ⟨hm, h⟩, dvB_refl m⟩
    · obtain ⟨j, hj⟩ := Classical.not_forall.mp h
      obtain ⟨hjL, h2⟩ := Classical.not_imp.mp hj
      obtain ⟨hd, hne⟩ := Classical.not_imp.mp h2
      have hlt := sum_lt_of_dv ((hp j hjL).1.trans (hp m hm).1.symm) hd hne
      have h0 := sum_nonneg' fun x hx => ((hp j hjL).2 x hx).1
      cases k with
      | zero => omega
      | succ k =>
        obtain ⟨x, hx, hxd⟩ := least_below hp k j hjL (by omega)
        exact ⟨x, hx, dvB_trans ((hp x hx.1).1.trans (hp j hjL).1.symm) ((hp j hjL).1.trans (hp m hm).1.symm) hxd hd⟩
/-- a lot's least members are their own -/
theorem least_self {L M : List (List Int)} (h : IsLeast L M) : IsLeast M M := ⟨h.asc, fun m => ⟨fun hm => ⟨hm, fun k hk => ((h.mem m).mp hm).2 k (h.sub k hk)⟩, fun hm => hm.1⟩⟩
/-! ### sums, meets, products -/
def pairs (f : List Int → List Int → List Int) (L M : List (List Int)) : List (List Int) := L.flatMap fun l => M.map fun m => f l m
end DL

/-! k07, plain: the order of products, how least members are found. -/
namespace DL
open PySem L2
theorem dle_tuI (a b : List Int) : dleD (tuI a) (tuI b) = decide (a ≤ b) := by
  unfold dleD
  rw [show (tuI b).py = .tuple (b.map PyData.int) from py_tI b, show (tuI a).py = .tuple (a.map PyData.int) from py_tI a, W.dataLt_tuple]
  have e := W.dataLt_ints b a
  unfold W.rowLt at e
  rw [e]
  by_cases h : b < a
  · rw [decide_eq_true h, decide_eq_false (fun z => z h)]; rfl
  · rw [decide_eq_false h, decide_eq_true (show a ≤ b from h)]; rfl
/-- sorted without twins: strictly -/
theorem asc_of_sort {L : List (List Int)} (nd : L.Nodup) : (L.mergeSort fun a b => decide (a ≤ b)).Pairwise (· < ·) := by
  have hs : (L.mergeSort fun a b => decide (a ≤ b)).Pairwise fun a b => decide (a ≤ b) = true :=
    List.pairwise_mergeSort (fun a b c h1 h2 => by
      rw [decide_eq_true_eq] at h1 h2 ⊢; exact List.le_trans h1 h2) (fun a b => by
      rw [Bool.or_eq_true, decide_eq_true_eq, decide_eq_true_eq]; exact List.le_total a b) L
  have hn : (L.mergeSort fun a b => decide (a ≤ b)).Nodup := (List.mergeSort_perm L _).nodup_iff.mpr nd
  refine (hs.and hn).imp fun {a b} h => ?_
  have h1 := of_decide_eq_true h.1
  rcases Classical.em (a < b) with q | q
  · exact q
  · exact absurd (List.le_antisymm h1 q) h.2
theorem sort_tuI (L : List (List Int)) : (L.map tuI).mergeSort dleD = (L.mergeSort fun a b => decide (a ≤ b)).map tuI :=
  (List.map_mergeSort (r := fun a b => decide (a ≤ b)) (s := dleD) (f := tuI) (l := L) fun a _ b _ => (dle_tuI a b).symm).symm
theorem code_lt_of {B : Int} : ∀ {a b : List Int}, a.length = b.length → TS.Bd B a → TS.Bd B b → a < b → TS.code B a < TS.code B b
  | [], [], _, _, _, h => absurd h (lt_irr [])
  | [], _ :: _, h, _, _, _ => by cases h
  | _ :: _, [], h, _, _, _ => by cases h
  | x :: a, y :: b, hl, ha, hb, h => by
    have hl' : a.length = b.length := by simpa using hl
    rcases List.cons_lt_cons_iff.mp h with h1 | ⟨h0, h1⟩
    · exact TS.code_lt hl' ha.tail hb.tail h1
    · have := code_lt_of hl' ha.tail hb.tail h1
      rw [h0]
      show y * B ^ a.length + TS.code B a < y * B ^ b.length + TS.code B b
      rw [hl']
      omega
theorem asc_of_code {B : Int} {n : Nat} {M : List (List Int)} (nd : M.Nodup) (hB : ∀ k ∈ M, k.length = n ∧ TS.Bd B k) (h : M.Pairwise fun p q => TS.code B p ≤ TS.code B q) : M.Pairwise (· < ·) := by
  have h2 : M.Pairwise fun p q => TS.code B p ≤ TS.code B q ∧ p ≠ q := h.and nd
  refine List.Pairwise.imp_of_mem (fun {a b} ha hb hab => ?_) h2
  rcases Classical.em (a < b) with q | q
  · exact q
  · have hba : b < a := by
      rcases Classical.em (b < a) with z | z
      · exact z
      · exact absurd (List.le_antisymm z q) hab.2
    have := code_lt_of ((hB b hb).1.trans (hB a ha).1.symm) (hB b hb).2 (hB a ha).2 hba
    omega
/-! ### a lot -/
/-! ### once, found -/
def minB (L : List (List Int)) (m : List Int) : Bool := L.all fun k => !dvB k m || decide (k = m)
theorem minB_iff {L : List (List Int)} {m : List Int} : minB L m = true ↔ ∀ k ∈ L, dvB k m = true → k = m := by
  unfold minB
  rw [List.all_eq_true]
  refine forall_congr' fun k => forall_congr' fun _ => ?_
  cases dvB k m <;> simp
/-- the next one is taken if no one taken divides it -/
theorem greedy {n : Nat} {B : Int} {O : List (List Int)} (hp : Prods n B O) (nd : O.Nodup) (hs : O.Pairwise fun a b => a.sum ≤ b.sum) {i : Nat} {x : List Int} (hx : O[i]? = some x) :
    (((O.take i).filter (minB O)).any fun f => dvB f x) = !minB O x := by
  have hxO : x ∈ O := List.mem_of_getElem? hx
  have hi : i < O.length := (List.getElem?_eq_some_iff.mp hx).1
  have hxe : O[i] = x := by rw [List.getElem?_eq_getElem hi] at hx; exact Option.some.inj hx
  cases hm : minB O x with
  | true =>
    rw [Bool.not_true, List.any_eq_false]
    intro f hf hd
    obtain ⟨h1, _⟩ := List.mem_filter.mp hf
    have e := minB_iff.mp hm f (List.mem_of_mem_take h1) hd
    subst e
    obtain ⟨j, hj, ej⟩ := List.getElem_of_mem h1
    rw [List.getElem_take] at ej
    rw [List.length_take] at hj
    have := (List.pairwise_iff_getElem.mp nd) j i (by omega) hi (by omega)
    exact this (ej.trans hxe.symm)
  | false =>
    rw [Bool.not_false, List.any_eq_true]
    have h : ¬ ∀ k ∈ O, dvB k x = true → k = x := fun z => by rw [minB_iff.mpr z] at hm; cases hm
    obtain ⟨k, hk⟩ := Classical.not_forall.mp h
    obtain ⟨hkO, h2⟩ := Classical.not_imp.mp hk
    obtain ⟨hd, hne⟩ := Classical.not_imp.mp h2
    obtain ⟨y, hy, hyd⟩ := least_below hp _ k hkO (Nat.le_refl _)
    have ly := (hp y hy.1).1
    have lk := (hp k hkO).1
    have lx := (hp x hxO).1
    have hyx := dvB_trans (ly.trans lk.symm) (lk.trans lx.symm) hyd hd
    have s1 := sum_le_of_dv (ly.trans lk.symm) hyd
    have s2 := sum_lt_of_dv (lk.trans lx.symm) hd hne
    refine ⟨y, List.mem_filter.mpr ⟨?_, minB_iff.mpr hy.2⟩, hyx⟩
    obtain ⟨j, hj, ej⟩ := List.getElem_of_mem hy.1
    have hji : j < i := by
      rcases Nat.lt_trichotomy j i with q | q | q
      · exact q
      · subst q; rw [hxe] at ej; subst ej; omega
      · have := (List.pairwise_iff_getElem.mp hs) i j hi hj q
        rw [hxe, ej] at this
        omega
    rw [← ej]
    exact List.mem_take_iff_getElem.mpr ⟨j, by omega, rfl⟩
theorem found_least {L O : List (List Int)} (nd : O.Nodup) (e : ∀ k, k ∈ O ↔ k ∈ L) : IsLeast L ((O.filter (minB O)).mergeSort fun a b => decide (a ≤ b)) := by
  refine ⟨asc_of_sort (nd.sublist List.filter_sublist), fun m => ?_⟩
  rw [(List.mergeSort_perm _ _).mem_iff, List.mem_filter, minB_iff]
  constructor
  · rintro ⟨h1, h2⟩; exact ⟨(e m).mp h1, fun k hk => h2 k ((e k).mpr hk)⟩
  · rintro ⟨h1, h2⟩; exact ⟨(e m).mpr h1, fun k hk => h2 k ((e k).mp hk)⟩
/-! ### {one: True for one in products} -/
theorem putKs_nodup {α : Type} [DecidableEq α] {ks : List α} {k : α} (h : ks.Nodup) : (putKs ks k).Nodup := by
  unfold putKs
  split
  · exact h
  · rename_i q
    rw [List.nodup_append]
    exact ⟨h, by simp, fun a ha b hb e => by rw [List.mem_singleton.mp hb] at e; subst e; exact q ha⟩
theorem putKs_mem {α : Type} [DecidableEq α] {ks : List α} {k x : α} : x ∈ putKs ks k ↔ x ∈ ks ∨ x = k := by
  unfold putKs
  split
  · rename_i q
    exact ⟨.inl, fun h => h.elim id fun e => by rw [e]; exact q⟩
  · rw [List.mem_append, List.mem_singleton]
theorem putKs_len {α : Type} [DecidableEq α] (ks : List α) (k : α) : (putKs ks k).length ≤ ks.length + 1 := by
  unfold putKs
  split
  · omega
  · rw [List.length_append, List.length_singleton]; omega
theorem foldK {α : Type} [DecidableEq α] : ∀ (L ks : List α), ks.Nodup → (L.foldl putKs ks).Nodup ∧ (∀ x, x ∈ L.foldl putKs ks ↔ x ∈ ks ∨ x ∈ L) ∧ (L.foldl putKs ks).length ≤ ks.length + L.length
  | [], ks, h => ⟨h, fun x => by simp, by simp⟩
  | a :: L, ks, h => by
    obtain ⟨h1, h2, h3⟩ := foldK L (putKs ks a) (putKs_nodup h)
    refine ⟨h1, fun x => ?_, ?_⟩
    · rw [List.foldl_cons, h2, putKs_mem, List.mem_cons, or_assoc]
    · rw [List.foldl_cons, List.length_cons]
      have := putKs_len ks a
      omega
theorem keyI_inj {a b : List Int} (h : a.map (Sum.inl : Int → Key) = b.map Sum.inl) : a = b := by
  have := congrArg (List.map fun k : Key => match k with | .inl i => i | .inr _ => 0) h
  rw [List.map_map, List.map_map] at this
  simpa [Function.comp_def] using this
theorem foldK_map : ∀ (L ks : List (List Int)), (L.map (·.map (Sum.inl : Int → Key))).foldl putKs (ks.map (·.map Sum.inl)) = (L.foldl putKs ks).map (·.map Sum.inl)
  | [], _ => rfl
  | a :: L, ks => by
    rw [List.map_cons, List.foldl_cons, List.foldl_cons, ← foldK_map L]
    congr 1
    unfold putKs
    have e : (a.map (Sum.inl : Int → Key) ∈ ks.map (·.map Sum.inl)) ↔ a ∈ ks := by
      rw [List.mem_map]
      exact ⟨fun ⟨b, hb, he⟩ => by rw [← keyI_inj he]; exact hb, fun h => ⟨a, h, rfl⟩⟩
    by_cases q : a ∈ ks
    · rw [if_pos (e.mpr q), if_pos q]
    · rw [if_neg (fun z => q (e.mp z)), if_neg q, List.map_append]; rfl
def onceL (L : List (List Int)) : List (List Int) := (L.foldl putKs []).mergeSort (leK List.sum)
theorem onceL_mem (L : List (List Int)) (k : List Int) : k ∈ onceL L ↔ k ∈ L := by
  unfold onceL
  rw [(List.mergeSort_perm _ _).mem_iff, (foldK L [] List.nodup_nil).2.1]
  simp
theorem onceL_nodup (L : List (List Int)) : (onceL L).Nodup := (List.mergeSort_perm _ _).nodup_iff.mpr (foldK L [] List.nodup_nil).1
theorem onceL_len (L : List (List Int)) : (onceL L).length ≤ L.length := by
  unfold onceL
  rw [List.length_mergeSort]
  have := (foldK L [] List.nodup_nil).2.2
  simpa using this
theorem onceL_sorted (L : List (List Int)) : (onceL L).Pairwise fun a b => a.sum ≤ b.sum := by
  have h : (onceL L).Pairwise fun a b => leK List.sum a b = true := List.pairwise_mergeSort (fun a b c h1 h2 => by
      unfold leK at *
      rw [decide_eq_true_eq] at *; omega) (fun a b => by
      unfold leK
      rw [Bool.or_eq_true, decide_eq_true_eq, decide_eq_true_eq]; omega) _
  exact h.imp fun {a b} h => of_decide_eq_true h
def leastL (L : List (List Int)) : List (List Int) := ((onceL L).filter (minB (onceL L))).mergeSort fun a b => decide (a ≤ b)
theorem leastL_is (L : List (List Int)) : IsLeast L (leastL L) := found_least (onceL_nodup L) (onceL_mem L)
end DL

/-! Deep layer AD: dicts with tuples as keys: looks, stores, walks. -/
namespace DL
open PySem PySem.Spec PyProof.Rows L2
/-! ### keys -/
/-! ### what a dict holds -/
section
variable {X : Cx} {K : Fg} {pos : Pos} {o i e f value : Expr} {td ty tv tx : TDE}
/-! ### d[k], d.get(k, x), k in d -/
/-! ### d[k] = v -/
/-! ### {} -/
/-! ### for k in d -/
/-! ### list(d), len(d) -/
/-! ### gcd -/
/-! ### bool(d) -/
end
end DL

/-! Deep layer AE: == of dicts with tuples as keys, alone or in tuples and lists. -/
namespace DL
open PySem PySem.Spec PyProof.Rows L2
open PySem.SeqAt (EqIn EqAt rcIn_lists rcIn_tuples)
section
variable {prog : Program} {w : World} {K : Type} [DecidableEq K] {knd : HeapKind prog w K} {A : Around} {E : Value → Shared → Prop} {s : Shared}
end
end DL

/-! Deep layer AF: sorted(..) of tuples of ints of any lengths, () too. -/
namespace PySem.W
open PySem PySem.SeqAt PySem.Calls PyProof.Rows
section
variable {prog : Program} {w : World} {A : Around} {E : Value → Shared → Prop} {s : Shared}
end
end PySem.W

namespace DL
open PySem PySem.Spec PyProof.Rows L2
section
variable {X : Cx} {pinz : List (Addr × Obj)} {σ : L2.St} {H : Hp} {s : Shared} {a : Addr} {L : List (List Int)} {K : Fg}
end
end DL

/-! Deep layer AG: == and != where dicts with tuples as keys stand, alone or in tuples and lists; bool, len, copies of such dicts. -/
namespace DL
open PySem PySem.Spec PyProof.Rows L2
open PySem.SeqAt (EqIn EqAt rcIn_lists rcIn_tuples)
section
variable {K : Fg} {H : Hp}
end
section
variable {X : Cx} {pins : List (Addr × Obj)} {σ : L2.St} {H : Hp} {s : Shared}
/-! ### d != e -/
end
end DL

/-! Deep layer AH: dict(d), dict(pairs), bool(d), max(xs, default=d), -x of an instance, defaults. -/
namespace DL
open PySem PySem.Spec PyProof.Rows L2
section
variable {prog : Program} {w : World} {A : Around} {E : Value → Shared → Prop} {s : Shared}
end
section
variable {X : Cx} {K : Fg} {pins : List (Addr × Obj)} {σ : L2.St} {H : Hp} {s : Shared}
/-! ### dict(pairs) -/
/-! ### bool(d), len(d) -/
end
section
variable {prog : Program} {w : World} {A : Around} {E : Value → Shared → Prop} {s : Shared}
end
section
variable {X : Cx} {K : Fg}
end
end DL

/-! Deep layer AI: max(xs, default=d), -x of an instance, defs with a default. -/
namespace DL
open PySem PySem.Spec PyProof.Rows L2 He
section
variable {X : Cx} {K : Fg} {pinz : List (Addr × Obj)} {σ : L2.St} {H : Hp} {s : Shared}
/-! ### -x by its own __neg__ -/
variable {C f : Addr} {n : Nat} {sp : Sp} {sd : SpD} {EX : XK} {CX : CXT} {a : Expr} {ta : TDE} {pos : Pos}
/-! ### defs with defaults that are ints -/
end
end DL

/-! Deep layer AJ: displays of dicts with tuples as keys; readings. -/
namespace DL
open PySem PySem.Spec PyProof.Rows L2
section
variable {X : Cx} {K : Fg}
end
/-! ### readings -/
section
variable {δ : DS} {g : DG} {E : DEnds} {Q : DV → DG → Prop} {P : DV → Prop} {a b c : TDE} {x y v z d : DV} {ds es : List DV} {ks ls : List (List Key)} {ns ms : List Int} {p C : Addr} {k : List Key} {sp : SpD} {R : DG → Prop} {RL : List DV → DG → Prop}
end
end DL

/-! Deep layer AK: // by any divisor but 0. -/
namespace DL
open PySem PySem.Spec PyProof.Rows L2
section
variable {X : Cx} {pos : Pos} {a b : Expr} {ta tb : TDE}
end
end DL
namespace DL
open PySem PySem.Spec PyProof.Rows L2
end DL

/-! Deep layer AL: {k: v for x in .. for y in ..}. -/
namespace DL
open PySem PySem.Spec PyProof.Rows L2

section
variable {prog : Program} {w : World} {A : Around} {R : Result → Shared → Prop} {s : Shared} {kx vx t0 i0 t1 i1 : Expr} {ifs0 ifs1 : List Expr} {scope : Scope} {pos : Pos} {it : Value} {D : Addr} {env : Env}
end
section
variable {X : Cx}
/-! ### the same by content -/
variable {kx vx iter iter1 tgx tgx1 : Expr} {ifs ifs1 : List Expr} {scope : Scope} {own : List (Str × Nat)} {vs1 : List Nat} {wi wi1 : TDI} {tg tg1 : Tg} {tt tt1 : TDT} {tk tv : TDE} {pos : Pos}
/-! ### {k: v for x in ..}, to be changed -/
/-! ### readings -/
end
end DL

/-! Deep layer AM: y in t, t a tuple of content. -/
namespace DL
open PySem PySem.Spec PyProof.Rows L2
section
variable {X : Cx}
def rInTp (neg : Bool) (K : PySem.W.Frag) : R2 := fun x y H Q => ∃ d ds, Dp K H x d ∧ Dp K H y (.tuple ds) ∧ SeqAt.shaped d = true ∧ SeqAt.shaped (.tuple ds) = true ∧ Q (.bl (if neg then !ds.any fun z => PyData.eqv z d else ds.any fun z => PyData.eqv z d)) H
theorem op_notInTp (hu : X.A.units + 65 < cLine) : OpR X (compareOp .NotIn) (rInTp true X.K) := by
  intro pins s σ H x y v u Q I rx ry h
  obtain ⟨d, ds, hd, he, sd, se, q⟩ := h
  obtain ⟨as, r1⟩ := Dp.reads I d x v hd rx
  obtain ⟨bs, r2⟩ := Dp.reads I (.tuple ds) y u he ry
  exact SeqAt.notIn_tuple_reads r2 r1 (SeqAt.canLay_of_shaped se) (SeqAt.canLay_of_shaped sd) (room_in_shaped sd hu) ⟨.bl _, H, I, rfl, q⟩
def rrInTp (neg : Bool) : RR2 := fun x y _ P => okD x = true ∧ ∃ ds, y = .tup ds ∧ okD y = true ∧ P (.bl (if neg then !ds.any fun d => eqD d x else ds.any fun d => eqD d x))
theorem ref_inTp {K : Fg} {neg : Bool} : RefCmp K (rrInTp neg) (rInTp neg K) := by
  intro x y P v u H g Q rg rx ry k ⟨h1, ds, ey, h2, h⟩
  unfold okD at h1 h2
  rw [Bool.and_eq_true] at h1 h2
  subst ey
  refine ⟨_, _, rx.dp h1.1, ry.dp h2.1, h1.2, h2.2, ?_⟩
  rw [py_any]
  exact k _ h
theorem rd_inTp {g : DG} {x : DV} {ds : List DV} {P : DV → Prop} {neg : Bool} (c : okD x = true) (c2 : okD (.tup ds) = true) (h : P (.bl (if neg then !ds.any fun d => eqD d x else ds.any fun d => eqD d x))) : rrInTp neg x (.tup ds) g P := ⟨c, ds, rfl, c2, h⟩
end
end DL

/-! Deep layer AN: walks over instances, list(x): __iter__ that hands out a list's iterator; what is changed on the left of a comparison. -/
namespace DL
open PySem PySem.Spec PyProof.Rows L2
/-! ### a list's iterator at its start -/
section
variable {X : Cx} {C f : Addr} {i n : Nat} {tgx e : Expr} {te : TE}
end
section
variable {X : Cx} {K : Fg} {C f fl : Addr} {n nl i : Nat} {spl : Sp} {sd : SpD}
end
/-! ### reading -/
section
variable {C : Addr} {ds es : List DV} {x y d : DV} {g : DG} {P : DV → Prop} {sd : SpD} {i : Nat}
variable {δ : DS} {a : TDE} {QA : List DV → DG → Prop}
end
/-! ### a changed list on the left of == and != -/
end DL

/-! Deep layer AO: name = {k: v for ..} on one line, the name a local. -/
namespace DL
open PySem PySem.Spec PyProof.Rows L2
section
variable {X : Cx}
variable {kx vx iter tgx : Expr} {ifs : List Expr} {scope : Scope} {own : List (Str × Nat)} {wi : TDI} {tg : Tg} {tt : TDT} {tk tv : TDE} {pos spos : Pos}
end
end DL

/-! Deep layer AP: sorted(set(xs)), xs a tuple of ints. -/
namespace L2
open PyProof.Rows PySem.Spec PySem
section
variable {P : Program} {u : World} {A : Around} {E : Value → Shared → Prop} {s : Shared}
end
end L2
namespace DL
open PyProof.Rows PySem.Spec PySem L2
section
variable {X : Cx} {pos : Pos} {a : Expr} {ta : TDE}
end
/-! ### sorted(xs), xs a list or a tuple -/
section
open PySem.W (EachIs)
variable {X : Cx}
end
end DL

/-! Deep layer AQ: dicts of tuple keys: values(), items(), update(pairs), == with any values, displays to be changed. -/
namespace DL
open PySem PySem.Spec PyProof.Rows L2
open PySem.SeqAt (EqIn EqAt)
/-! ### walks -/
section
variable {P : Program} {w : World} {K : PySem.W.Frag} {tg : Expr} {d : Addr} {o : Obj} {es : Array DictEntry} {ep : Nat}
end
section
variable {X : Cx} {tg e : Expr} {td : TE} {apos cpos : Pos}
end
section
variable {X : Cx} {K : Fg} {e : Expr} {td : TDE} {apos cpos : Pos}
end
/-! ### d.update(pairs), all keys new -/
section
variable {X : Cx} {K : Fg}
end
end DL

/-! Deep layer AR: update, == and != of dicts with any values, displays to be changed; readings. -/
namespace DL
open PySem PySem.Spec PyProof.Rows L2
open PySem.SeqAt (EqIn EqAt)
section
variable {X : Cx} {K : Fg} {pos apos cpos : Pos} {o e : Expr} {to : TDE} {t : TDA}
end
/-! ### == and != -/
section
variable {X : Cx} {pins : List (Addr × Obj)} {σ : L2.St} {H : Hp} {s : Shared}
end
/-! ### a display to be changed -/
section
variable {X : Cx} {K : Fg} {pos : Pos}
end
/-! ### readings of walks -/
section
variable {δ : DS} {g : DG} {a : TDE} {RL : List DV → DG → Prop} {ks : List (List Key)} {ds : List DV}
end
end DL

/-! Deep layer AS: walks and `in` over what is a tuple, a list or a dict of tuple keys. -/
namespace L2.MulT
open PySem PySem.Spec PyProof.Rows
open PySem.AutoSeq1 (wpAny_loadPart')
section
variable {X : Cx}
end
end L2.MulT
namespace DL
open PySem PySem.Spec PyProof.Rows L2
section
variable {X : Cx}
/-! ### t * k, k at least 0 -/
end
section
variable {X : Cx} {tgx : Expr}
end
/-! ### enumerate of a tuple or a list -/
section
variable {X : Cx} {pos : Pos}
end
end DL

/-! Deep layer AT: zip of a list and a tuple; a list times a number. -/
namespace L2.ZM
open PySem PySem.Spec PyProof.Rows
end L2.ZM
namespace DL
open PySem PySem.Spec PyProof.Rows L2
section
variable {X : Cx} {e e2 : Expr} {t : TDA}
/-! ### [..] * k -/
end
end DL

/-! Deep layer AU: list(enumerate(a tuple)). -/
namespace L2.EnL
open PySem PySem.Spec PyProof.Rows L2
section
variable {prog : Program} {w : World} {A : Around} {E : Value → Shared → Prop} {s : Shared}
end
theorem FpOk.at {X : Cx} {pins : List (Addr × Obj)} {H H' : Hp} {b : Addr} (h : FpOk X pins H b) (hn : H' b = none) : FpOk X pins H' b := ⟨hn, h.2⟩
section
variable {X : Cx} {pins : List (Addr × Obj)} {σ : St} {J : It} {S it : Addr} {fp : List Addr} {tn : Nat → Heap → Prop} {A : Around}
end
/-! ### enumerate of a tuple -/
/-! ### the expression -/
end L2.EnL
namespace DL
open PySem PySem.Spec PyProof.Rows L2 Builtin
section
variable {X : Cx} {pos : Pos}
end
end DL

/-! Deep layer AV: dict(zip(a list of tuples, a list)). -/
namespace DL
open PySem PySem.Spec PyProof.Rows L2
section
variable {X : Cx} {K : Fg} {H : Hp} {pins : List (Addr × Obj)} {σ : L2.St} {s : Shared}
end
end DL

/-! Deep layer AW: list(a dict's items). -/
namespace L2.ItL
open PySem PySem.Spec PyProof.Rows L2 DL
section
variable {X : Cx} {pins : List (Addr × Obj)} {σ : L2.St} {H H' : Hp} {s : Shared} {h' : Heap}
end
section
variable {X : Cx} {e : Expr} {td : TE} {p apos cpos pos : Pos}
end
end L2.ItL
namespace DL
open PySem PySem.Spec PyProof.Rows L2 Builtin L2.ItL
section
variable {K : Fg} {g : DG}
end
section
variable {X : Cx} {pos : Pos} {δ : DS} {g : DG} {Q : DV → DG → Prop}
end
end DL
namespace DL
open PySem PySem.Spec PyProof.Rows L2 Builtin
section
variable {X : Cx} {K : Fg}
end
end DL

/-! k07, plain: what the readings need. -/
namespace DL
open PySem L2
theorem tIs (L : List (List Int)) : L.map tuI = L.map tI := rfl
theorem dv_zip (xs ys : List Int) : (zipD (xs.map DV.int) (ys.map DV.int)).all leD = dvB xs ys := zipD_ints_all (r := fun i j => decide (i ≤ j)) (fun _ _ => rfl) xs ys
theorem zip_mem {xs ys : List Int} {d : DV} (h : d ∈ zipD (xs.map DV.int) (ys.map DV.int)) : ∃ i j, d = .tup [.int i, .int j] := by
  rw [zip_ints] at h
  obtain ⟨p, _, e⟩ := List.mem_map.mp h
  exact ⟨p.1, p.2, e.symm⟩
theorem zip_len (xs ys : List Int) : (zipD (xs.map DV.int) (ys.map DV.int)).length ≤ xs.length := by
  rw [zip_ints, List.length_map, List.length_zip]
  omega
def upB (M : List (List Int)) (p : List Int) : Bool := M.any fun m => dvB m p
def dvsD (p : List Int) : DV → Bool
  | .tup ds => (zipD ds (p.map DV.int)).all leD
  | _ => false
theorem dvsD_at (m p : List Int) : dvsD p (tI m) = dvB m p := dv_zip m p
theorem any_dvs (M : List (List Int)) (p : List Int) : (M.map tI).any (dvsD p) = upB M p := by
  rw [List.any_map]
  unfold upB
  congr 1
  funext m
  exact dvsD_at m p
theorem any_id_map (p : DV → Bool) (ds : List DV) : (ds.map p).any id = ds.any p := by rw [List.any_map]; rfl
theorem all_tt (ds : List DV) : (ds.map fun _ => true).all id = true := by rw [List.all_map]; exact List.all_eq_true.mpr fun _ _ => rfl
theorem any_ff (ds : List DV) : (ds.map fun _ => false).any id = false := by rw [List.any_map]; exact List.any_eq_false.mpr fun _ _ => by simp
abbrev lotD (c : Addr) (n : Nat) (M : List (List Int)) : DV := .ins c [.int (n : Int), .tup (M.map tI)]
theorem tI_mem {L : List (List Int)} {d : DV} (h : d ∈ L.map tI) : ∃ m ∈ L, d = tI m := by
  obtain ⟨m, hm, e⟩ := List.mem_map.mp h
  exact ⟨m, hm, e.symm⟩
theorem filter_take {O : List (List Int)} {q : List Int → Bool} {i : Nat} {x : List Int} (h : O[i]? = some x) : (O.take (i + 1)).filter q = (O.take i).filter q ++ if q x = true then [x] else [] := by
  rw [List.take_succ, h, List.filter_append]
  congr 1
  show List.filter q [x] = _
  rw [List.filter_cons]
  rfl
theorem flt_len {O : List (List Int)} {q : List Int → Bool} (i : Nat) : ((O.take i).filter q).length ≤ O.length := by
  refine Nat.le_trans (List.length_filter_le _ _) ?_
  rw [List.length_take]
  omega
theorem rd_neN {i j : Int} {g : DG} {P : DV → Prop} (h : i = j) (k : P (.bl false)) : rrNe (.int i) (.int j) g P := ⟨okD_int _, okD_int _, by rw [eqD_int, decide_eq_true h]; exact k⟩
theorem gdel_ne {g : DG} {p b : Addr} (h : b ≠ p) : gdel g p b = g b := by unfold gdel; rw [if_neg h]
theorem py_tIs : ∀ ws : List (List Int), pyAll (ws.map tI) = ws.map fun w => PyData.tuple (w.map PyData.int)
  | [] => rfl
  | w :: ws => by rw [List.map_cons, pyAll, py_tIs ws, py_tI]; rfl
theorem lay_tIs : ∀ ws : List (List Int), PyData.canLayAll0 (ws.map fun w => PyData.tuple (w.map PyData.int)) = true
  | [] => rfl
  | w :: ws => by simp [PyData.canLayAll0, PyData.canLay0, lay_is, lay_tIs ws]
theorem dep_tIs : ∀ ws : List (List Int), PyData.depthAll (ws.map fun w => PyData.tuple (w.map PyData.int)) ≤ 1
  | [] => by simp [PyData.depthAll]
  | w :: ws => by
    have := dep_tIs ws
    simp only [List.map_cons, PyData.depthAll, PyData.depth, dep_is]
    omega
theorem okD_tIs (ws : List (List Int)) : okD (.tup (ws.map tI)) = true := by
  unfold okD
  rw [show (DV.tup (ws.map tI)).pl = true from pl_tIs ws, Bool.true_and]
  show SeqAt.shaped (.tuple (pyAll (ws.map tI))) = true
  rw [py_tIs]
  have := dep_tIs ws
  simp only [SeqAt.shaped, PyData.canLay0, PyData.depth, lay_tIs, Bool.true_and]
  exact decide_eq_true (by omega)
/-- a new instance, made up -/
theorem mkK_mk {C p : Addr} {Q : DV → DG → Prop} {ds : List DV} {g : DG} {o : DO} (hp : g p = none) (ne : ds ≠ []) (h : Q (.ins C ds) g) : mkK C p Q .non (gup (gup g p o) p (.ins C (ds.map some))) := by
  refine ⟨rfl, ds, gup_same, ne, ?_⟩
  rw [gup_gup, gdel_gup hp]
  exact h
def Told (cK : Addr) (n : Nat) (b : DV) (M : List (List Int)) : Prop := b = .ins cK [.tup (M.map tI)] ∨ ∃ L, b = .tup (L.map tI) ∧ Prods n 8 L ∧ L.length ≤ 24 ∧ M = leastL L
end DL

/-! k07, plain: texts of products and lots. -/
namespace DL
open PySem L2
end DL

/-! k07, plain: the law's own sums, and lots put together. -/
namespace DL
open PySem L2
theorem PotL.more {m n : Nat} {L : List DV} (h : PotL m L) (k : m ≤ n) : PotL n L := by
  obtain ⟨u, v, kk, e, v0, v1, k0, k1⟩ := h
  exact ⟨u, v, kk, e, v0, v1, k0, by omega⟩
theorem cut1 (ns : List Int) : intsD (cutD (ns.map DV.int) none (some 1)) = some (ns.take 1) := by
  cases ns with
  | nil => rfl
  | cons x r =>
    have e : cutD ((x :: r).map DV.int) none (some 1) = [DV.int x] := by
      unfold cutD
      rw [show (some (1 : Int)) = some ((1 : Nat) : Int) from rfl, HT.sIx_nat, HT.sIx_none, Nat.min_eq_left (by rw [List.length_map, List.length_cons]; omega)]
      rfl
    rw [e]
    rfl
/-- as comp_inv, with the bound of the place -/
theorem comp_invJ {tg : Tg} {own : List Nat} {te : TDE} {δ : DS} {Pd : DV → Prop} (I : Nat → DG → Prop) : ∀ {ds : List DV} {m : Nat} {g : DG} {P : List DV → DG → Prop}, I m g →
    (∀ d ∈ ds, ∀ (j : Nat) (g' : DG), j < m + ds.length → I j g' → ∃ δ2, bindT tg d (wipeD δ own) = some δ2 ∧ ∀ Q2 : DV → DG → Prop, (∀ y g2, Pd y → I (j + 1) g2 → Q2 y g2) → te δ2 g' Q2) →
    (∀ ys g', ys.length = ds.length → (∀ y ∈ ys, Pd y) → I (m + ds.length) g' → P ys g') → dComp tg own dYes te δ ds g P
  | [], m, g, P, h0, _, he => he [] g rfl (fun _ h => by cases h) h0
  | d :: ds, m, g, P, h0, hs, he => by
    obtain ⟨δ2, eb, h⟩ := hs d List.mem_cons_self m g (by rw [List.length_cons]; omega) h0
    unfold dComp
    rw [eb]
    dsimp only [dYes]
    rw [if_pos rfl]
    refine h _ fun y g2 hy h2 => comp_invJ I h2 (fun d hd j g' hj => hs d (List.mem_cons_of_mem _ hd) j g' (by rw [List.length_cons]; omega)) fun ys g' hl hp hI => he (y :: ys) g' (by rw [List.length_cons, List.length_cons, hl]) (fun z hz => ?_) (by rw [List.length_cons, show m + (ds.length + 1) = m + 1 + ds.length by omega]; exact hI)
    rcases List.mem_cons.mp hz with e | hz
    · subst e; exact hy
    · exact hp z hz
/-! ### the law's way to divide -/
/-! ### the law's least members -/
theorem eqD_nilL (ds : List DV) : eqD (.lst ds) (.lst []) = ds.isEmpty := by
  cases ds <;> simp [eqD, DV.py, PyData.eqv, pyAll, PyData.eqvAll]
theorem okD_lIs' (ws : List (List Int)) : okD (.lst (ws.map tI)) = true := okD_tIs ws
def dvT (e d : DV) : Bool := match e, d with | .tup xs, .tup ys => (zipD xs ys).all leD | _, _ => false
theorem dvT_at (x y : List Int) : dvT (tI x) (tI y) = dvB x y := dv_zip x y
def lwP (d e : DV) : Bool := !eqD e d && dvT e d
theorem lwP_at (x y : List Int) : lwP (tI y) (tI x) = (!decide (x = y) && dvB x y) := by unfold lwP; rw [dvT_at, eqD_tI]
theorem lw_map (m : List Int) (M : List (List Int)) : ((M.map tI).filter (lwP (tI m))).map (fun d => d) = (M.filter fun x => !decide (x = m) && dvB x m).map tI := by
  rw [List.map_id', List.filter_map]
  congr 1
  exact List.filter_congr fun x _ => lwP_at x m
theorem lw_min (m : List Int) (M : List (List Int)) : ((M.filter fun x => !decide (x = m) && dvB x m).map tI).isEmpty = minB M m := by
  rw [List.isEmpty_map]
  unfold minB
  induction M with
  | nil => rfl
  | cons x r ih =>
    rw [List.all_cons, ← ih]
    by_cases c : (!decide (x = m) && dvB x m) = true
    · rw [List.filter_cons_of_pos (p := fun x => !decide (x = m) && dvB x m) c]
      rw [Bool.and_eq_true, Bool.not_eq_true'] at c
      rw [c.1, c.2]
      rfl
    · rw [List.filter_cons_of_neg (p := fun x => !decide (x = m) && dvB x m) c]
      have : (!dvB x m || decide (x = m)) = true := by
        revert c
        cases dvB x m <;> cases decide (x = m) <;> simp
      rw [this, Bool.true_and]
theorem asc_least {L M : List (List Int)} (asc : M.Pairwise (· < ·)) (e : ∀ k, k ∈ M ↔ k ∈ L) : M.filter (minB M) = leastL L := by
  refine IsLeast.uniq (L := L) ⟨asc.filter _, fun m => ?_⟩ (leastL_is L)
  rw [List.mem_filter, minB_iff, e]
  exact and_congr_right fun _ => forall_congr' fun k => by rw [e]
/-! ### lots put together -/
/-- all exponents at least 0 -/
def Nn (p : List Int) : Prop := ∀ x ∈ p, 0 ≤ x
theorem dv_zeros : ∀ p : List Int, dvB (List.replicate p.length 0) p = true ↔ Nn p
  | [] => ⟨fun _ _ h => (List.not_mem_nil h).elim, fun _ => rfl⟩
  | x :: p => by
    rw [List.length_cons, List.replicate_succ, dvB_cons, Bool.and_eq_true, dv_zeros p, decide_eq_true_eq]
    constructor
    · rintro ⟨h1, h2⟩ z hz
      rcases List.mem_cons.mp hz with e | hz
      · subst e; exact h1
      · exact h2 z hz
    · exact fun h => ⟨h x List.mem_cons_self, fun z hz => h z (List.mem_cons_of_mem _ hz)⟩
/-! ### what is in the lots -/
theorem tIs_of {l : Nat} {m : Int} : ∀ {ys : List DV}, (∀ y ∈ ys, ∃ xs : List Int, y = tI xs ∧ xs.length = l ∧ ∀ x ∈ xs, 0 ≤ x ∧ x ≤ m) → ∃ G : List (List Int), ys = G.map tI ∧ Prods l m G
  | [], _ => ⟨[], rfl, fun _ h => (List.not_mem_nil h).elim⟩
  | y :: ys, h => by
    obtain ⟨xs, rfl, h1, h2⟩ := h y List.mem_cons_self
    obtain ⟨G, rfl, hG⟩ := tIs_of fun z hz => h z (List.mem_cons_of_mem _ hz)
    refine ⟨xs :: G, rfl, fun m hm => ?_⟩
    rcases List.mem_cons.mp hm with e | hm
    · subst e; exact ⟨h1, h2⟩
    · exact hG m hm
theorem gup_self {g : DG} {p : Addr} {o : DO} (h : g p = some o) : gup g p o = g := by
  funext b
  unfold gup
  split
  · rename_i e; rw [e, h]
  · rfl
/-! ### lots of given products, reckoned -/
def ascB : List (List Int) → Bool
  | [] => true
  | [_] => true
  | x :: y :: r => decide (x < y) && ascB (y :: r)
theorem asc_of_ascB : ∀ {M : List (List Int)}, ascB M = true → M.Pairwise (· < ·)
  | [], _ => .nil
  | [_], _ => List.pairwise_singleton _ _
  | x :: y :: r, h => by
    unfold ascB at h
    rw [Bool.and_eq_true, decide_eq_true_eq] at h
    have ih := asc_of_ascB h.2
    refine List.pairwise_cons.mpr ⟨fun z hz => ?_, ih⟩
    rcases List.mem_cons.mp hz with e | hz
    · subst e; exact h.1
    · exact List.lt_trans h.1 ((List.pairwise_cons.mp ih).1 z hz)
def leastIs (L M : List (List Int)) : Bool := ascB M && ((M.all fun m => decide (m ∈ L) && minB L m) && L.all fun k => !minB L k || decide (k ∈ M))
theorem leastL_eq {L M : List (List Int)} (h : leastIs L M = true) : leastL L = M := by
  unfold leastIs at h
  rw [Bool.and_eq_true, Bool.and_eq_true, List.all_eq_true, List.all_eq_true] at h
  obtain ⟨h1, h2, h3⟩ := h
  refine (leastL_is L).uniq ⟨asc_of_ascB h1, fun m => ⟨fun hm => ?_, fun hm => ?_⟩⟩
  · have := h2 m hm
    rw [Bool.and_eq_true, decide_eq_true_eq, minB_iff] at this
    exact this
  · have := h3 m hm.1
    rw [minB_iff.mpr hm.2] at this
    simpa using this
abbrev cE : List (List Int) := [[1, 1, 0, 0], [0, 1, 1, 0], [0, 0, 1, 1]]
abbrev cR : List (List Int) := [[1, 0, 1, 0], [0, 1, 0, 1]]
abbrev cS : List (List Int) := [[2, 0], [1, 1], [0, 3]]
theorem cE_is : leastL cE = [[0, 0, 1, 1], [0, 1, 1, 0], [1, 1, 0, 0]] := leastL_eq (by decide +kernel)
theorem cR_is : leastL cR = [[0, 1, 0, 1], [1, 0, 1, 0]] := leastL_eq (by decide +kernel)
theorem cS_is : leastL cS = [[0, 3], [1, 1], [2, 0]] := leastL_eq (by decide +kernel)
theorem cX_is : leastL [[1, 0]] = [[1, 0]] := leastL_eq (by decide +kernel)
theorem c1 : (leastL (leastL cE ++ leastL cR)).length = 5 := by
  rw [cE_is, cR_is, leastL_eq (M := [[0, 0, 1, 1], [0, 1, 0, 1], [0, 1, 1, 0], [1, 0, 1, 0], [1, 1, 0, 0]]) (by decide +kernel)]
  rfl
theorem c2 : (leastL (pairs ad (leastL cE) (leastL cE))).length = 6 := by
  rw [cE_is, leastL_eq (M := [[0, 0, 2, 2], [0, 1, 2, 1], [0, 2, 2, 0], [1, 1, 1, 1], [1, 2, 1, 0], [2, 2, 0, 0]]) (by decide +kernel)]
  rfl
theorem c3 : leastL (pairs jn (leastL cS) (leastL [[1, 0]])) = [[1, 1], [2, 0]] := by
  rw [cS_is, cX_is]
  exact leastL_eq (by decide +kernel)
end DL

/-! k06, plain: what may be compared, texts, lots told in several ways. -/
namespace DL
open PySem L2
/-! ### what may be compared -/
/-! ### sorted ints -/
/-! ### ints and truth values -/
/-! ### texts -/
/-! ### lots by their members -/
def isAllB : List (List Int) → Bool
  | [m] => m.all fun x => decide (x = 0)
  | _ => false
theorem zeros_of : ∀ {m : List Int}, (m.all fun x => decide (x = 0)) = true → m = List.replicate m.length 0
  | [], _ => rfl
  | x :: m, h => by
    rw [List.all_cons, Bool.and_eq_true, decide_eq_true_eq] at h
    rw [List.length_cons, List.replicate_succ, ← zeros_of h.2, h.1]
theorem zeros_all (n : Nat) : ((List.replicate n (0 : Int)).all fun x => decide (x = 0)) = true := by
  rw [List.all_eq_true]
  intro x hx
  rw [(List.mem_replicate.mp hx).2]
  rfl
theorem isAllB_mem {n : Nat} {B : Int} {M : List (List Int)} (hp : Prods n B M) (hl : IsLeast M M) : isAllB M = decide (List.replicate n 0 ∈ M) := by
  by_cases c : List.replicate n 0 ∈ M
  · rw [decide_eq_true c]
    have h1 : ∀ m ∈ M, m = List.replicate n 0 := fun m hm => by
      refine (((hl.mem m).mp hm).2 _ c ?_).symm
      rw [← (hp m hm).1]
      exact (dv_zeros m).mpr fun x hx => ((hp m hm).2 x hx).1
    cases M with
    | nil => cases c
    | cons m r =>
      cases r with
      | nil =>
        rw [h1 m List.mem_cons_self]
        exact zeros_all n
      | cons k r =>
        have e1 := h1 m List.mem_cons_self
        have e2 := h1 k (List.mem_cons_of_mem _ List.mem_cons_self)
        have := (List.pairwise_cons.mp hl.asc).1 k List.mem_cons_self
        rw [e1, e2] at this
        exact absurd this (lt_irr _)
  · rw [decide_eq_false c]
    cases M with
    | nil => rfl
    | cons m r =>
      cases r with
      | cons k r => rfl
      | nil =>
        rw [Bool.eq_false_iff]
        intro h
        refine c ?_
        rw [← (hp m List.mem_cons_self).1, ← zeros_of h]
        exact List.mem_cons_self
theorem max_zero {m : List Int} {x : Int} (h0 : ∀ y ∈ m, 0 ≤ y) (hx : x ∈ m) (h : ∀ y ∈ m, y ≤ x) : decide (x = 0) = m.all fun y => decide (y = 0) := by
  rw [Bool.eq_iff_iff, decide_eq_true_eq, List.all_eq_true]
  constructor
  · intro h1 y hy
    have h2 := h y hy
    have h3 := h0 y hy
    exact decide_eq_true (by omega)
  · intro h1
    exact of_decide_eq_true (h1 x hx)
/-! ### values that are no products -/
/-! ### the told lots -/
end DL

/-! k14, plain: sets of letters, free sets, dimensions. -/
namespace DL
open PySem L2
/-- all ascending tuples of letters below n, in the sequence of the law -/
def setsL : Nat → List (List Int)
  | 0 => [[]]
  | n + 1 => setsL n ++ (setsL n).map fun s => s ++ [(n : Int)]
/-- those with at most k letters, as the package makes them -/
def setsK (k : Nat) : Nat → List (List Int)
  | 0 => [[]]
  | n + 1 => setsK k n ++ ((setsK k n).filter fun s => decide (s.length < k)).map fun s => s ++ [(n : Int)]
theorem setsL_len : ∀ n, (setsL n).length = 2 ^ n
  | 0 => rfl
  | n + 1 => by rw [setsL, List.length_append, List.length_map, setsL_len n, Nat.pow_succ]; omega
theorem setsL_le {n : Nat} (h : n ≤ 8) : (setsL n).length ≤ 256 := by
  rw [setsL_len]
  exact Nat.le_trans (Nat.pow_le_pow_right (by decide) h) (by decide)
theorem filter_map' {α β : Type} (f : α → β) (p : β → Bool) : ∀ L : List α, (L.map f).filter p = (L.filter fun x => p (f x)).map f
  | [] => rfl
  | x :: L => by
    rw [List.map_cons, List.filter_cons, List.filter_cons, filter_map' f p L]
    cases p (f x) <;> rfl
theorem setsK_is (k : Nat) : ∀ n, setsK k n = (setsL n).filter fun s => decide (s.length ≤ k)
  | 0 => by simp [setsK, setsL]
  | n + 1 => by
    rw [setsK, setsL, List.filter_append, filter_map', setsK_is k n, List.filter_filter]
    congr 2
    refine List.filter_congr fun s _ => ?_
    rw [List.length_append, List.length_singleton]
    by_cases c : s.length < k
    · rw [decide_eq_true c, decide_eq_true (by omega : s.length ≤ k), decide_eq_true (by omega : s.length + 1 ≤ k)]; rfl
    · rw [decide_eq_false c, decide_eq_false (by omega : ¬s.length + 1 ≤ k)]; rfl
theorem setsK_len {k n : Nat} : (setsK k n).length ≤ 2 ^ n := by
  rw [setsK_is, ← setsL_len n]
  exact List.length_filter_le _ _
/-- those with k letters -/
def setsE (n k : Nat) : List (List Int) := (setsL n).filter fun s => decide (s.length = k)
theorem setsE_is (n k : Nat) : ((setsK k n).filter fun s => decide (s.length = k)) = setsE n k := by
  rw [setsK_is, List.filter_filter]
  refine List.filter_congr fun s _ => ?_
  by_cases c : s.length = k
  · rw [decide_eq_true c, decide_eq_true (by omega : s.length ≤ k)]; rfl
  · rw [decide_eq_false c]; rfl
def ascI : List Int → Bool
  | x :: y :: r => decide (x < y) && ascI (y :: r)
  | _ => true
theorem ascI_snoc : ∀ (s : List Int) (x : Int), ascI (s ++ [x]) = (ascI s && s.all fun y => decide (y < x))
  | [], x => rfl
  | [a], x => by simp [ascI]
  | a :: b :: r, x => by
    have ih := ascI_snoc (b :: r) x
    have e1 : ascI (a :: b :: r ++ [x]) = (decide (a < b) && ascI (b :: r ++ [x])) := rfl
    have e2 : ascI (a :: b :: r) = (decide (a < b) && ascI (b :: r)) := rfl
    rw [e1, e2, ih, List.all_cons, List.all_cons, List.all_cons]
    by_cases h1 : a < b
    · by_cases h2 : b < x
      · rw [decide_eq_true h1, decide_eq_true h2, decide_eq_true (by omega : a < x)]; simp
      · rw [decide_eq_false h2]; simp
    · rw [decide_eq_false h1]; simp
/-- an ascending tuple of letters below n -/
def isSet (n : Nat) (s : List Int) : Bool := (s.all fun x => decide (0 ≤ x) && decide (x ≤ (n : Int) - 1)) && ascI s
theorem mem_sets : ∀ {n : Nat} {s : List Int}, s ∈ setsL n ↔ isSet n s = true
  | 0, s => by
    rw [setsL, List.mem_singleton]
    constructor
    · intro e; subst e; rfl
    · intro h
      cases s with
      | nil => rfl
      | cons x r =>
        unfold isSet at h
        rw [List.all_cons, Bool.and_eq_true, Bool.and_eq_true, Bool.and_eq_true, decide_eq_true_eq, decide_eq_true_eq] at h
        omega
  | n + 1, s => by
    rw [setsL, List.mem_append, List.mem_map]
    constructor
    · rintro (h | ⟨t, h, e⟩)
      · have h := mem_sets.mp h
        unfold isSet at h ⊢
        rw [Bool.and_eq_true, List.all_eq_true] at h ⊢
        refine ⟨fun x hx => ?_, h.2⟩
        have := h.1 x hx
        rw [Bool.and_eq_true, decide_eq_true_eq, decide_eq_true_eq] at this ⊢
        omega
      · have h := mem_sets.mp h
        subst e
        unfold isSet at h ⊢
        rw [Bool.and_eq_true, List.all_eq_true] at h
        have hb : ∀ x ∈ t, 0 ≤ x ∧ x ≤ (n : Int) - 1 := fun x hx => by
          have := h.1 x hx
          rw [Bool.and_eq_true, decide_eq_true_eq, decide_eq_true_eq] at this
          exact this
        rw [Bool.and_eq_true, List.all_eq_true, ascI_snoc, h.2]
        refine ⟨fun x hx => ?_, ?_⟩
        · rw [Bool.and_eq_true, decide_eq_true_eq, decide_eq_true_eq]
          rcases List.mem_append.mp hx with hx | hx
          · have := hb x hx; omega
          · rw [List.mem_singleton] at hx; omega
        · rw [Bool.true_and, List.all_eq_true]
          intro x hx
          rw [decide_eq_true_eq]
          have := hb x hx; omega
    · intro h
      unfold isSet at h
      rw [Bool.and_eq_true, List.all_eq_true] at h
      have hb : ∀ x ∈ s, 0 ≤ x ∧ x ≤ ((n + 1 : Nat) : Int) - 1 := fun x hx => by
        have := h.1 x hx
        rw [Bool.and_eq_true, decide_eq_true_eq, decide_eq_true_eq] at this
        exact this
      by_cases c : (n : Int) ∈ s
      · right
        have hs : s ≠ [] := fun z => by rw [z] at c; cases c
        have e := List.dropLast_concat_getLast hs
        have ha := h.2
        rw [← e, ascI_snoc, Bool.and_eq_true, List.all_eq_true] at ha
        have hl : s.getLast hs = n := by
          have h1 := hb _ (List.getLast_mem hs)
          rw [← e] at c
          rcases List.mem_append.mp c with c | c
          · have := ha.2 _ c
            rw [decide_eq_true_eq] at this
            omega
          · rw [List.mem_singleton] at c; exact c.symm
        refine ⟨s.dropLast, mem_sets.mpr ?_, by rw [← hl]; exact e⟩
        unfold isSet
        rw [Bool.and_eq_true, List.all_eq_true]
        refine ⟨fun x hx => ?_, ha.1⟩
        have h2 := ha.2 x hx
        have h3 := hb x (List.dropLast_subset s hx)
        rw [decide_eq_true_eq] at h2
        rw [Bool.and_eq_true, decide_eq_true_eq, decide_eq_true_eq]
        omega
      · left
        refine mem_sets.mpr ?_
        unfold isSet
        rw [Bool.and_eq_true, List.all_eq_true]
        refine ⟨fun x hx => ?_, h.2⟩
        have h3 := hb x hx
        have h4 : x ≠ n := fun z => c (z ▸ hx)
        rw [Bool.and_eq_true, decide_eq_true_eq, decide_eq_true_eq]
        omega
theorem sets_len_le : ∀ {n : Nat} {s : List Int}, s ∈ setsL n → s.length ≤ n
  | 0, s, h => by rw [setsL, List.mem_singleton] at h; subst h; exact Nat.le_refl _
  | n + 1, s, h => by
    rw [setsL, List.mem_append, List.mem_map] at h
    rcases h with h | ⟨t, h, e⟩
    · exact Nat.le_succ_of_le (sets_len_le h)
    · subst e
      rw [List.length_append, List.length_singleton]
      exact Nat.succ_le_succ (sets_len_le h)
theorem nil_sets : ∀ n, [] ∈ setsL n
  | 0 => List.mem_singleton.mpr rfl
  | n + 1 => List.mem_append_left _ (nil_sets n)
/-! ### free sets -/
/-- no member is made of the letters s alone; at: the first place's number -/
def freeM (s : List Int) (m : List Int) : Bool := (List.range m.length).any fun i => decide (0 < m.getD i 0) && !decide ((i : Int) ∈ s)
def freeB (M : List (List Int)) (s : List Int) : Bool := M.all (freeM s)
/-- the first free one of the greatest size below k -/
def fsK (n : Nat) (M : List (List Int)) : Nat → Option (List Int)
  | 0 => none
  | k + 1 => ((setsE n k).find? (freeB M)).or (fsK n M k)
def fsI (n : Nat) (M : List (List Int)) : Option (List Int) := fsK n M (n + 1)
def dimI (n : Nat) (M : List (List Int)) : Int := (fsI n M).elim (-1) fun s => (s.length : Int)
theorem find_E {n k : Nat} {M : List (List Int)} {s : List Int} (h : (setsE n k).find? (freeB M) = some s) : s ∈ setsL n ∧ s.length = k ∧ freeB M s = true := by
  have h1 := List.mem_of_find?_eq_some h
  have h2 := List.find?_some h
  unfold setsE at h1
  rw [List.mem_filter, decide_eq_true_eq] at h1
  exact ⟨h1.1, h1.2, h2⟩
theorem find_N {n k : Nat} {M : List (List Int)} (h : (setsE n k).find? (freeB M) = none) {t : List Int} (ht : t ∈ setsL n) (hk : t.length = k) : freeB M t = false := by
  have := List.find?_eq_none.mp h t (List.mem_filter.mpr ⟨ht, decide_eq_true hk⟩)
  cases e : freeB M t with
  | true => exact absurd e this
  | false => rfl
theorem fsK_some {n : Nat} {M : List (List Int)} {s : List Int} : ∀ {k : Nat}, fsK n M k = some s → s ∈ setsL n ∧ freeB M s = true ∧ s.length < k ∧ ∀ t ∈ setsL n, t.length < k → freeB M t = true → t.length ≤ s.length
  | 0, h => by cases h
  | k + 1, h => by
    rw [fsK] at h
    cases e : (setsE n k).find? (freeB M) with
    | some t =>
      rw [e] at h
      have h : t = s := Option.some.inj h
      subst h
      obtain ⟨h1, h2, h3⟩ := find_E e
      exact ⟨h1, h3, by omega, fun t ht hk _ => by omega⟩
    | none =>
      rw [e] at h
      obtain ⟨h1, h2, h3, h4⟩ := fsK_some (k := k) h
      refine ⟨h1, h2, by omega, fun t ht hk hf => ?_⟩
      by_cases c : t.length = k
      · rw [find_N e ht c] at hf; cases hf
      · exact h4 t ht (by omega) hf
theorem fsK_none {n : Nat} {M : List (List Int)} : ∀ {k : Nat}, fsK n M k = none → ∀ t ∈ setsL n, t.length < k → freeB M t = false
  | 0, h => fun t ht hk => absurd hk (Nat.not_lt_zero _)
  | k + 1, h => fun t ht hk => by
    rw [fsK] at h
    cases e : (setsE n k).find? (freeB M) with
    | some t => rw [e] at h; cases h
    | none =>
      rw [e] at h
      by_cases c : t.length = k
      · exact find_N e ht c
      · exact fsK_none (k := k) h t ht (by omega)
theorem fsI_some {n : Nat} {M : List (List Int)} {s : List Int} (h : fsI n M = some s) : s ∈ setsL n ∧ freeB M s = true ∧ ∀ t ∈ setsL n, freeB M t = true → t.length ≤ s.length := by
  obtain ⟨h1, h2, _, h4⟩ := fsK_some h
  exact ⟨h1, h2, fun t ht hf => h4 t ht (Nat.lt_succ_of_le (sets_len_le ht)) hf⟩
theorem fsI_none {n : Nat} {M : List (List Int)} (h : fsI n M = none) : ∀ t ∈ setsL n, freeB M t = false := fun t ht => fsK_none h t ht (Nat.lt_succ_of_le (sets_len_le ht))
theorem free_nil {n : Nat} {B : Int} {M : List (List Int)} (hp : Prods n B M) : freeB M [] = !decide (List.replicate n 0 ∈ M) := by
  by_cases c : List.replicate n 0 ∈ M
  · rw [decide_eq_true c]
    unfold freeB
    rw [Bool.not_true, ← Bool.not_eq_true, List.all_eq_true]
    intro h
    have := h _ c
    unfold freeM at this
    rw [List.any_eq_true] at this
    obtain ⟨i, hi, h2⟩ := this
    rw [Bool.and_eq_true, decide_eq_true_eq] at h2
    have h3 := h2.1
    rw [List.getD_eq_getElem?_getD, List.getElem?_replicate] at h3
    split at h3 <;> simp at h3
  · rw [decide_eq_false c]
    unfold freeB
    rw [Bool.not_false, List.all_eq_true]
    intro m hm
    obtain ⟨h1, h2⟩ := hp m hm
    unfold freeM
    by_cases z : ∃ i, i < m.length ∧ 0 < m.getD i 0
    · obtain ⟨i, hi, h3⟩ := z
      rw [List.any_eq_true]
      exact ⟨i, List.mem_range.mpr hi, by rw [decide_eq_true h3]; simp⟩
    · exfalso
      apply c
      have : m = List.replicate n 0 := by
        rw [← h1]
        refine List.eq_replicate_iff.mpr ⟨rfl, fun x hx => ?_⟩
        obtain ⟨i, hi⟩ := List.mem_iff_getElem?.mp hx
        have hl := (List.getElem?_eq_some_iff.mp hi).1
        have h4 : m.getD i 0 = x := by rw [List.getD_eq_getElem?_getD, hi]; rfl
        have h5 := (h2 x hx).1
        by_cases h6 : 0 < x
        · exact absurd ⟨i, hl, by rw [h4]; exact h6⟩ z
        · omega
      rw [← this]
      exact hm
/-- an entry of a member that is none, whatever the letters are -/
theorem free_zero {n : Nat} {M : List (List Int)} (h : List.replicate n 0 ∈ M) (s : List Int) : freeB M s = false := by
  unfold freeB
  rw [← Bool.not_eq_true, List.all_eq_true]
  intro hh
  have := hh _ h
  unfold freeM at this
  rw [List.any_eq_true] at this
  obtain ⟨i, hi, h2⟩ := this
  rw [Bool.and_eq_true, decide_eq_true_eq] at h2
  have h3 := h2.1
  rw [List.getD_eq_getElem?_getD, List.getElem?_replicate] at h3
  split at h3 <;> simp at h3
/-- there is a free set but for the lot of all products -/
theorem fsI_all {n : Nat} {B : Int} {M : List (List Int)} (hp : Prods n B M) (hl : IsLeast M M) : (fsI n M = none) ↔ isAllB M = true := by
  rw [isAllB_mem hp hl, decide_eq_true_eq]
  constructor
  · intro h
    have := fsI_none h [] (nil_sets n)
    rw [free_nil hp] at this
    simpa using this
  · intro h
    cases e : fsI n M with
    | none => rfl
    | some s =>
      have := (fsI_some e).2.1
      rw [free_zero h] at this
      cases this
/-- the greatest number of letters of a free set, by all sets -/
theorem dim_due {n : Nat} {M : List (List Int)} {z : Int} (h1 : z ∈ ((setsL n).filter (freeB M)).map (fun s => (s.length : Int)) ++ [-1]) (h2 : ∀ y ∈ ((setsL n).filter (freeB M)).map (fun s => (s.length : Int)) ++ [-1], y ≤ z) : z = dimI n M := by
  unfold dimI
  cases e : fsI n M with
  | none =>
    have hn := fsI_none e
    have hf : (setsL n).filter (freeB M) = [] := List.filter_eq_nil_iff.mpr fun t ht => by rw [hn t ht]; decide
    rw [hf] at h1
    simpa using h1
  | some s =>
    obtain ⟨a1, a2, a3⟩ := fsI_some e
    show z = (s.length : Int)
    have h3 := h2 (s.length : Int) (List.mem_append_left _ (List.mem_map.mpr ⟨s, List.mem_filter.mpr ⟨a1, a2⟩, rfl⟩))
    rcases List.mem_append.mp h1 with h1 | h1
    · obtain ⟨t, ht, et⟩ := List.mem_map.mp h1
      obtain ⟨b1, b2⟩ := List.mem_filter.mp ht
      have := a3 t b1 b2
      omega
    · rw [List.mem_singleton] at h1; omega
theorem dim_neg {n : Nat} {B : Int} {M : List (List Int)} (hp : Prods n B M) (hl : IsLeast M M) : dimI n M = -1 ↔ isAllB M = true := by
  rw [← fsI_all hp hl]
  unfold dimI
  cases fsI n M with
  | none => simp
  | some s => simp only [Option.elim]; constructor <;> intro h <;> first | (exfalso; omega) | cases h
theorem all_one {n : Nat} {B : Int} {M : List (List Int)} (hp : Prods n B M) (h : isAllB M = true) : ∃ m, M = [m] ∧ m.sum = 0 := by
  match M, h with
  | [m], h =>
    refine ⟨m, rfl, ?_⟩
    rw [zeros_of h]
    induction m.length with
    | zero => rfl
    | succ k ih => rw [List.replicate_succ, List.sum_cons, ih]; rfl
/-- a tuple of letters is a free set of the greatest size -/
def isFs (n : Nat) (M : List (List Int)) (s : List Int) : Bool := isSet n s && (decide ((s.length : Int) = dimI n M) && freeB M s)
theorem isFs_due {n : Nat} {M : List (List Int)} {s : List Int} : isFs n M s = (decide ((s.length : Int) = dimI n M) && decide (s ∈ (setsL n).filter (freeB M))) := by
  unfold isFs
  by_cases h : isSet n s = true
  · have hm := mem_sets.mpr h
    rw [h, Bool.true_and]
    cases hf : freeB M s with
    | true => rw [decide_eq_true (List.mem_filter.mpr ⟨hm, hf⟩)]
    | false => rw [decide_eq_false (p := s ∈ _) (fun z => by have := (List.mem_filter.mp z).2; rw [hf] at this; cases this)]
  · rw [Bool.not_eq_true] at h
    rw [h, Bool.false_and, decide_eq_false (p := s ∈ _) (fun z => by have := mem_sets.mp (List.mem_filter.mp z).1; rw [h] at this; cases this), Bool.and_false]
end DL

/-! k12, plain: rests of products (the same as in K04M). -/
namespace DL
open PySem L2
def ls (xs ys : List Int) : List Int := List.zipWith (fun x y => max 0 (x - y)) xs ys
def ch : Nat → Nat → Nat
  | _, 0 => 1
  | 0, _ + 1 => 0
  | n + 1, k + 1 => ch n k + ch n (k + 1)
end DL

/-! k12, the plain law: the numerator of a lot, by one more product at a time. -/
namespace DL
open PySem L2
abbrev KF := Int → Int
def kz : KF := fun d => if d = 0 then 1 else 0
def lsl (M : List (List Int)) (m : List Int) : List (List Int) := M.map fun x => ls x m
/-- the numerator: members taken one by one -/
def kp : List (List Int) → KF
  | [] => kz
  | m :: M => fun d => kp M d - kp (lsl M m) (d - m.sum)
termination_by M => M.length
decreasing_by
  all_goals simp [lsl]
/-! ### one more product -/
/-! ### letters apart -/
/-! ### boxes -/
/-! ### the split at one letter's power -/
def pw (n i : Nat) (e : Int) : List Int := (List.range n).map fun j => if j = i then e else 0
/-! ### the exponent of the split -/
/-! ### how many products are left -/
/-! ### sums over a dict's keys -/
end DL

/-! Deep layer AX: enumerate(zip(a list, a list)). -/
namespace L2.EnZ
open PySem PySem.Spec PyProof.Rows L2 PySem.W
open PySem.AutoSeq1 (wpAny_loadPart')
section
variable {X : Cx} {pins : List (Addr × Obj)} {σ : L2.St} {H H' : Hp} {s : Shared} {h' : Heap}
end
section
variable {prog : Program} {w : World} {A : Around} {E : Value → Shared → Prop} {s : Shared}
/-! ### the zip inside: its tuple is free, or still held -/
abbrev IsZipG (h : Heap) (z TI TO : Addr) (f0 : Value) (f : Bool) : Prop :=
  h.get? z = some { cls := .type "zip", dict := none, data := .fields #[f0, .bool f, .bool false, .ref TI, .ref TO], slots := #[] }
def ZipAt (h : Heap) (e z TI TO i1 i2 a b : Addr) (i : Nat) : Prop :=
  ((∃ f, IsZipG h z TI TO .none f) ∨ ∃ (T : Addr) (f : Bool), IsZipG h z TI TO (rawInt T) f) ∧ IsPair h TI (.ref i1) (.ref i2) ∧ (∃ x y, IsPair h TO x y) ∧ h.IsListIter i1 a i ∧ h.IsListIter i2 b i
theorem ZipAt.ty {e z TI TO i1 i2 a b : Addr} {i : Nat} (h : ZipAt s.heap e z TI TO i1 i2 a b i) : s.TypeIs (.ref z) "zip" := by
  rcases h.1 with ⟨f, h⟩ | ⟨T, f, h⟩
  · exact ⟨_, h, rfl⟩
  · exact ⟨_, h, rfl⟩
theorem ZipAt.has {h : Heap} {e z TI TO i1 i2 a b : Addr} {i : Nat} (q : ZipAt h e z TI TO i1 i2 a b i) : ∀ c ∈ [z, TI, TO, i1, i2], ∃ o, h.get? c = some o ∧ ∀ v, o.data ≠ .cell v := by
  obtain ⟨hz, hTI, ⟨x, y, hTO⟩, ⟨o1, e1, _, d1⟩, ⟨o2, e2, _, d2⟩⟩ := q
  intro c hc
  have e' : c = z ∨ c = TI ∨ c = TO ∨ c = i1 ∨ c = i2 := by simpa using hc
  rcases e' with q | q | q | q | q
  · rw [q]
    rcases hz with ⟨f, h⟩ | ⟨T, f, h⟩
    · exact ⟨_, h, fun v q => nomatch q⟩
    · exact ⟨_, h, fun v q => nomatch q⟩
  · rw [q]; exact ⟨_, hTI, fun v q => nomatch q⟩
  · rw [q]; exact ⟨_, hTO, fun v q => nomatch q⟩
  · rw [q]; exact ⟨o1, e1, fun v q => by rw [d1] at q; cases q⟩
  · rw [q]; exact ⟨o2, e2, fun v q => by rw [d2] at q; cases q⟩
theorem ZipAt.at {h h2 : Heap} {e z TI TO i1 i2 a b : Addr} {i : Nat} (q : ZipAt h e z TI TO i1 i2 a b i) (he : e ∉ [z, TI, TO, i1, i2]) (k : ∀ b o, b ≠ e → h.get? b = some o → h2.get? b = some o) : ZipAt h2 e z TI TO i1 i2 a b i := by
  obtain ⟨hz, hTI, ⟨x, y, hTO⟩, h1, h2⟩ := q
  have ne : ∀ c ∈ [z, TI, TO, i1, i2], c ≠ e := fun c hc z => he (z ▸ hc)
  refine ⟨?_, k _ _ (ne _ (by simp)) hTI, ⟨x, y, k _ _ (ne _ (by simp)) hTO⟩, h1.at fun o q => k _ o (ne _ (by simp)) q, h2.at fun o q => k _ o (ne _ (by simp)) q⟩
  rcases hz with ⟨f, h⟩ | ⟨T, f, h⟩
  · exact .inl ⟨f, k _ _ (ne _ (by simp)) h⟩
  · exact .inr ⟨T, f, k _ _ (ne _ (by simp)) h⟩
end
/-! ### the walk -/
end L2.EnZ
namespace L2.EnZ
open PySem PySem.Spec PyProof.Rows L2 PySem.W
open PySem.AutoSeq1 (wpAny_loadPart')
end L2.EnZ
namespace DL
open PySem PySem.Spec PyProof.Rows L2 Builtin L2.EnZ
section
variable {X : Cx} {pos : Pos} {δ : DS} {g : DG}
end
end DL

/-! Deep layer AY: sorted(tuples, reverse=True), min([], default=d), [x, *d.values()], what is never reached, [None] * n. -/
namespace DL
open PySem PySem.Spec PyProof.Rows L2 Builtin
section
variable {X : Cx} {K : Fg} {pinz : List (Addr × Obj)} {σ : L2.St} {H : Hp} {s : Shared} {a : Addr} {L : List (List Int)}
/-! ### what is never reached -/
/-! ### sorted(.., reverse=True) -/
end
end DL
namespace DL
open PySem PySem.Spec PyProof.Rows L2 Builtin
section
variable {X : Cx} {K : Fg}
/-! ### min(an empty list, default=d) -/
/-! ### [.., *d.values()] -/
/-! ### [..] * k, to be changed -/
end
end DL
namespace DL
open PySem PySem.Spec PyProof.Rows L2 Builtin
section
variable {X : Cx} {pos pos2 : Pos}
/-! ### nested targets -/
end
end DL

/-! Deep layer XA: what is raised, tries. A path that raises is read by its own transformers. -/
namespace DL
open PySem PySem.Spec PyProof.Rows L2
/-- what is raised: its class, its own fields -/
structure XV where
  C : Addr
  fs : List (Str × DV) := []
def RX (K : Fg) (H : Hp) (x : XV) (cls : Value) (d : Option Addr) : Prop :=
  cls = .ref x.C ∧ match x.fs with
  | [] => d = none
  | [(f, u)] => ∃ a v, d = some a ∧ H a = some (.xd [(f, v)]) ∧ RD K H u v
  | _ => False
abbrev WD := DS → XV → DG → Prop
abbrev TDR := WD → DS → DG → Prop
abbrev SpR := List DV → DG → (XV → DG → Prop) → Prop
/-- from here on something is raised that W takes -/
def upR (K : Fg) (W : WX) (t : TDR) : TS := fun _ σ H => ∃ δ g Wd, RS K H δ σ ∧ RG K H g ∧ t Wd δ g ∧
  ∀ δ' σ' x g' H' cls d, Ext g H g' H' → RG K H' g' → RS K H' δ' σ' → RX K H' x cls d → Wd δ' x g' → W cls d σ' H'
def upRE (K : Fg) (W : WX) (t : TDR) : TE := fun σ H _ => ∃ δ g Wd, RS K H δ σ ∧ RG K H g ∧ t Wd δ g ∧
  ∀ δ' σ' x g' H' cls d, Ext g H g' H' → RG K H' g' → RS K H' δ' σ' → RX K H' x cls d → Wd δ' x g' → W cls d σ' H'
def upSpR (K : Fg) (sp : SpR) : Sp := fun vs H _ E => ∃ ds g Wd, RDs K H ds vs ∧ RG K H g ∧ sp ds g Wd ∧
  ∀ x g' H' cls d, Ext g H g' H' → RG K H' g' → RX K H' x cls d → Wd x g' → E cls d H'
section
variable {X : Cx} {W : WX} {pos : Pos} {st : Stmt} {rest : List Stmt}
/-! ### statements -/
def rSeq (t : TDS) (r : TDR) : TDR := fun Wd δ g => t ⟨fun δ' g' => r Wd δ' g', fun _ _ => False, fun _ _ => False, fun _ _ => False⟩ δ g
def rNo : TDR := fun _ _ _ => False
def rIf (c : TDT) (r r' : TDR) : TDR := fun Wd δ g => c δ g fun b g1 => if b = true then r Wd δ g1 else r' Wd δ g1
theorem prs_no {sts : List Stmt} : PSs X sts (upR X.K W rNo) := ⟨fun _ _ _ _ _ _ ⟨_, _, _, _, _, h, _⟩ => h.elim⟩
theorem prs_seq {t : TDS} {r : TDR} (h1 : PS X st (upS X.K t)) (h2 : PSs X rest (upR X.K W r)) : PSs X (st :: rest) (upR X.K W (rSeq t r)) :=
  PSs_weak (pss_cons h1 h2) fun D σ H ⟨δ, g, Wd, rs, rg, h, k⟩ => ⟨δ, g, _, rs, rg, h,
    fun δ' g' σ' H' e rg' rs' hr => ⟨δ', g', Wd, rs', rg', hr, fun δ2 σ2 x g2 H2 cls d e2 rg2 rs2 rx hw => k δ2 σ2 x g2 H2 cls d (e.trans e2) rg2 rs2 rx hw⟩,
    fun _ _ _ _ _ _ _ z => z.elim, fun _ _ _ _ _ _ _ z => z.elim, fun _ _ _ _ _ _ _ z => z.elim⟩
theorem prs_now {r : TDR} (h : PS X st (upR X.K W r)) : PSs X (st :: rest) (upR X.K W r) :=
  PSs_weak (pss_cons h (pss_never (sts := rest))) fun D σ H z => z
theorem pr_if {c : Expr} {a b : List Stmt} {tc : TDT} {r r' : TDR} (hc : PT X c (upT X.K tc)) (ha : PSs X a (upR X.K W r)) (hb : PSs X b (upR X.K W r')) : PS X (.If c a b pos) (upR X.K W (rIf tc r r')) := by
  refine PS_weak (ps_if hc ha hb) fun D σ H ⟨δ, g, Wd, rs, rg, h, k⟩ => ⟨δ, g, _, rs, rg, h, fun b g1 H1 e1 rg1 h1 => ?_⟩
  cases b with
  | true =>
    rw [if_pos rfl] at h1 ⊢
    exact ⟨δ, g1, Wd, rs.mono (e1.kp rg), rg1, h1, fun δ2 σ2 x g2 H2 cls d e2 rg2 rs2 rx hw => k δ2 σ2 x g2 H2 cls d (e1.trans e2) rg2 rs2 rx hw⟩
  | false =>
    rw [if_neg Bool.false_ne_true] at h1 ⊢
    exact ⟨δ, g1, Wd, rs.mono (e1.kp rg), rg1, h1, fun δ2 σ2 x g2 H2 cls d e2 rg2 rs2 rx hw => k δ2 σ2 x g2 H2 cls d (e1.trans e2) rg2 rs2 rx hw⟩
variable {e : Expr} {r : TDR}
theorem pr_expr (h : PE X e (upRE X.K W r)) (hs : swapsWith e none pos.line X.env = pure false := by rfl) : PS X (.Expr e pos) (upR X.K W r) := PS_weak (ps_expr h hs) fun D σ H z => z
theorem pr_ret (h : PE X e (upRE X.K W r)) : PS X (.Return (some e) pos) (upR X.K W r) := PS_weak (ps_ret h) fun D σ H z => z
/-! ### raise -/
abbrev TDM := DS → DG → (XV → DG → Prop) → Prop
def upMk (K : Fg) (t : TDM) : L2.St → Hp → XK → Prop := fun σ H Q => ∃ δ g P, RS K H δ σ ∧ RG K H g ∧ t δ g P ∧ ∀ x g' H' cls d, Ext g H g' H' → RG K H' g' → RX K H' x cls d → P x g' → Q cls d H'
def rRaise (t : TDM) : TDR := fun Wd δ g => t δ g fun x g' => Wd δ x g'
theorem RS.ext {K : Fg} {H H' : Hp} {g g' : DG} {δ : DS} {σ : L2.St} (rs : RS K H δ σ) (rg : RG K H g) (e : Ext g H g' H') : RS K H' δ σ := rs.mono (e.kp rg)
theorem pr_raise {t : TDM} (hc : X.calm = true) (tk : Takes X W) (he : PMk X e (upMk X.K t)) : PS X (.Raise (some e) none pos) (upR X.K W (rRaise t)) :=
  PS_weak (ps_raise hc tk he) fun D σ H ⟨δ, g, Wd, rs, rg, h, k⟩ => ⟨δ, g, _, rs, rg, h, fun x g' H' cls d e rg' rx hw => k δ σ x g' H' cls d e rg' (rs.ext rg e) rx hw⟩
/-! ### calls that raise -/
def rCall (sp : SpR) (t : TDA) : TDR := fun Wd δ g => t δ g fun xs g1 => sp xs g1 (Wd δ)
variable {x : Str} {p : Pos} {es : List Expr} {t : TDA}
theorem pr_call {k : Nat} {f : Addr} {fd : FuncData} {ps : List Str} {sp : SpR} (F : FnOk X.prog X.w X.K X.mg X.base (L2.CX X.prog X.w) k f fd ps (upSpR X.K sp)) (hr : Room k X.A) (hm : X.mg x = some (.ref f)) (hk : PySem.W.keepIn X.K (.ref f) = true) (hb : Binds X.K fd ps [])
    (tk : Takes X W) (ha : PA X (e :: es) (upA X.K t)) (hg : Gl X x := by rfl) (hdb : (x == ("__debug__" : Str)) = false := by decide) (he : starEach (e :: es) X.env = (false, eval e X.env) :: starEach es X.env := by rfl) (hpl : (backTo pos (starEach es X.env)).any (·.1) = false := by rfl) :
    PE X (.Call (.Name x p) (e :: es) [] pos) (upRE X.K W (rCall sp t)) :=
  PE_weak (pe_callS F hr hg hm hk hb (fun σ => passAt tk σ) ha hdb he hpl) fun σ H Q ⟨δ, g, Wd, rs, rg, h, k⟩ => ⟨δ, g, _, rs, rg, h, fun ds g1 vs H1 e1 rg1 rd1 h1 =>
    (⟨ds, g1, Wd δ, rd1, rg1, h1, fun x g' H' cls d e rg' rx hw => k δ σ x g' H' cls d (e1.trans e) rg' (rs.ext rg (e1.trans e)) rx hw⟩ : upSpR X.K sp vs H1 Q (WE W σ))⟩
end
/-! ### defs that raise -/
theorem fun_okR {P : Program} {w : World} {K : Fg} {mg : Str → Option Value} {base : Heap} {x qual : Str} {st : Stmt} {f : Addr} {fd : FuncData} {N ps : List Str} {k : Nat} {sp : SpR} (F : Fun K x qual st f fd) (S : FnScope N ps (defScope st))
    (len : ∀ ds g Wd, sp ds g Wd → ds.length = ps.length)
    (hbody : ∀ (cdv : Value) (A : Around) (outer : List Env) (s : Shared) (H : Hp) (E : XK), Room k (A.deeper (envOfC qual (defScope st) s.heap.objs.size f cdv)) →
      ∃ r : TDR, PSs (cxOf (L2.CX P w) P w K mg base N qual (defScope st) f cdv A outer s H E) (defBody st) (upR K (fun cls d _ H => E cls d H) r) ∧ ∀ ds g Wd, sp ds g Wd → r (fun _ x g' => Wd x g') (startD N ds) g) :
    FnOk P w K mg base (L2.CX P w) (k + 1) f fd ps (upSpR K sp) := by
  refine F.okX S (fun vs H Q E ⟨ds, g, R, rd, rg, h, _⟩ => by rw [← rd.length]; exact len _ _ _ h) fun cdv A outer s H vs Q E hr ⟨ds, g, R, rd, rg, h, k⟩ => ?_
  obtain ⟨r, ht, hq⟩ := hbody cdv A outer s H E hr
  exact ⟨_, ht, startD N ds, g, _, start_rs rd, rg, hq ds g R h, fun δ' σ' x g' H' cls d e rg' _ rx hw => k x g' H' cls d e rg' rx hw⟩
/-! ### promises of defs that raise -/
abbrev sr1 (f : DV → DG → (XV → DG → Prop) → Prop) : SpR := fun ds g W => ∃ a, ds = [a] ∧ f a g W
abbrev sr2 (f : DV → DV → DG → (XV → DG → Prop) → Prop) : SpR := fun ds g W => ∃ a b, ds = [a, b] ∧ f a b g W
abbrev sr3 (f : DV → DV → DV → DG → (XV → DG → Prop) → Prop) : SpR := fun ds g W => ∃ a b c, ds = [a, b, c] ∧ f a b c g W
theorem sr1_len {f : DV → DG → (XV → DG → Prop) → Prop} {ds : List DV} {g : DG} {W : XV → DG → Prop} (h : sr1 f ds g W) : ds.length = 1 := by obtain ⟨a, rfl, _⟩ := h; rfl
end DL

/-! Deep layer XB: try with several clauses, some of them named. -/
namespace DL
open PySem PySem.Spec PyProof.Rows L2
abbrev SuT := Addr → Value → Option Addr → TS
/-- behind a named clause the name is gone -/
def goneE (i : Nat) (D : Ends) : Ends := { nx := fun σ H => D.nx (σ.set i none) H, rt := D.rt, bk := fun σ H => D.bk (σ.set i none) H, ct := fun σ H => D.ct (σ.set i none) H }
def suW (oi : Option Nat) (ts : SuT) (D : Ends) (a : Addr) (cls : Value) (d : Option Addr) (σ : L2.St) (H : Hp) : Prop := match oi with
  | none => ts a cls d D σ H
  | some i => ts a cls d (goneE i D) (σ.set i (some (.ref a))) H
/-- what the clauses wish, one after the other -/
def wMix (K : Fg) (Wout : WX) (D : Ends) : List (Value × Option Nat × SuT) → WX
  | [] => Wout
  | (c, oi, ts) :: r => fun cls d σ H => ∃ b, PySem.W.exmOne K cls c = some b ∧ (b = true → ∀ a, H a = none → suW oi ts D a cls d σ H) ∧ (b = false → wMix K Wout D r cls d σ H)
def SuOk (X : Cx) (b₀ : Stmt) (suite : List Stmt) (ts : SuT) : Prop := ∀ (a : Addr) (oe : Obj) (cls : Value) (d : Option Addr) (pn : List (Addr × Obj)), Zc cls d oe → (∃ vs, oe.data = .fields vs) → PSs (X.suite a ((a, oe) :: pn)) (b₀ :: suite) (ts a cls d)
inductive HdsMix (X : Cx) : List ExceptHandler → List (Value × Option Nat × SuT) → Prop
  | nil : HdsMix X [] []
  | plain {x : Str} {c : Value} {ts : SuT} {b₀ : Stmt} {suite : List Stmt} {np pos' : Pos} {hds : List ExceptHandler} {l : List (Value × Option Nat × SuT)} (hc : Names X x c) (hsu : SuOk X b₀ suite ts) (r : HdsMix X hds l) :
      HdsMix X (.ExceptHandler (some (.Name x np)) none (b₀ :: suite) pos' :: hds) ((c, none, ts) :: l)
  | named {x n : Str} {i : Nat} {c : Value} {ts : SuT} {b₀ : Stmt} {suite : List Stmt} {np pos' : Pos} {hds : List ExceptHandler} {l : List (Value × Option Nat × SuT)} (hi : X.N[i]? = some n) (hln : X.env.kindOf n = some .local) (hc : Names X x c) (hsu : SuOk X b₀ suite ts) (r : HdsMix X hds l) :
      HdsMix X (.ExceptHandler (some (.Name x np)) (some n) (b₀ :: suite) pos' :: hds) ((c, some i, ts) :: l)
section
variable {X : Cx} {body : List Stmt} {h₀ : ExceptHandler} {hds : List ExceptHandler} {l : List (Value × Option Nat × SuT)} {pos : Pos} {tb : WX → TS} {Wout : WX}
/-- by the road of the kit's rules for several clauses and for a named one -/
theorem ps_try_mix (hs : X.stack = X.env :: X.outer) (hf : X.env.frame = some X.env.locals) (hN : X.N.Nodup) (tk : Takes X Wout)
    (hb : ∀ (W : WX) (pn : List (Addr × Obj)) (xe : Value → Shared → Prop), Takes (X.tr pn xe) W → PassesOwn (model X.prog X.w) X.A X.env xe → PSs (X.tr pn xe) body (tb W))
    (hh : HdsMix X (h₀ :: hds) l) : PS X (.Try body (h₀ :: hds) [] [] pos) (fun D σ H => tb (wMix X.K Wout D l) D σ H) := by
  refine ⟨fun pins s σ H D I h => ?_⟩
  have ok := I.ok
  have hfr : X.A.frames = some (X.env :: X.outer) := by rw [ok.frames, hs]
  refine wpAny_Try_except ?_
  refine wpAny_mono ((hb (wMix X.K Wout D l) (X.pn ++ pins) (fun e s₁ => wpAny (model X.prog X.w) X.A (noteFrame e X.env) (fun _ s₂ => wpAny (model X.prog X.w) X.A (setFlight e none) (fun _ s₃ =>
    wpAny (model X.prog X.w) X.A (handleBy e X.env (h₀ :: hds)) (SP X pins D) X.xe s₃) X.xe s₂) X.xe s₁) (fun u s' xx => ?_) PassesOwn.looking).run [] s σ H D (I.toTry _) h) (fun f s1 hsp => ?_) (fun e s1 he => he)
  · obtain ⟨a, B, sI, pins', σ', H', cls, d, rfl, J', nb, up, sky, na, os, ag, w⟩ := xx
    have J : Inv X pins σ' H' sI := J'.ofTry ok
    have sky' : Sky B (X.env :: X.outer) a (Zc cls d) X.env.locals s'.heap := by rw [← hs]; exact sky
    show wpAny (model X.prog X.w) X.A (noteFrame (.ref a) X.env) _ _ _
    refine Sky.land Zc.steady hfr hf sky' fun h3 fl3 up3 => ?_
    have J3 : Inv X pins σ' H' { s' with heap := h3 } := J.landed nb fl3.1 (up.trans up3) os ag
    obtain ⟨oe3, vs3, he3, hz3, hd3⟩ := fl3.there
    have notFr : ∀ {h : Heap} {o : Obj} {vs : Array Value}, h.FunFrames B (X.env :: X.outer) → h.get? a = some o → o.data = .fields vs → a ∉ frs (X.env :: X.outer) := fun {h o vs} ff e dd hm => by
      obtain ⟨_, o', e', hnf⟩ := ff.mem hm
      rw [e] at e'; cases e'
      exact hnf _ dd
    have nfr := notFr fl3.2.2.1 he3 hd3
    have nL : a ≠ X.env.locals := fun z => nfr (List.mem_filterMap.mpr ⟨X.env, List.mem_cons_self, by rw [hf, z]⟩)
    have nF : a ∉ X.fs := fun hm => by
      obtain ⟨e, he, q⟩ := List.mem_filterMap.mp hm
      exact nfr (List.mem_filterMap.mpr ⟨e, List.mem_cons_of_mem _ he, q⟩)
    have S3 := J3.suite he3 hd3 na nL nF
    have LT : PySem.W.Looks (model X.prog X.w) h3 (typeOf (.ref a)) cls := fun A Q E s k q => wpAny_typeOf_ref (k _ _ he3) (by rw [hz3.1]; exact q)
    have test : ∀ {x : Str} {c : Value} {np : Pos} {Q : Value → Shared → Prop} {E : Value → Shared → Prop}, Names X x c → Q c { s' with heap := h3 } → wpAny (model X.prog X.w) (X.A.mark (some (.ref a))) (eval (.Name x np) X.env) Q E { s' with heap := h3 } := fun {x c np Q E} hc q => by
      obtain ⟨hg, hdbg, hm | ⟨hm, hv, hnn⟩⟩ := hc
      · exact ld_glob (X := X.suite a ((a, oe3) :: (X.pn ++ pins))) S3 hg hm q hdbg
      · exact ld_blt (X := X.suite a ((a, oe3) :: (X.pn ++ pins))) S3 hg hm hv q hnn hdbg
    have go : ∀ {hds' : List ExceptHandler} {l' : List (Value × Option Nat × SuT)}, HdsMix X hds' l' → wMix X.K Wout D l' cls d σ' H' →
        wpAny (model X.prog X.w) X.A (handleBy (.ref a) X.env hds') (SP X pins D) X.xe { s' with heap := h3 } := by
      intro hds' l' hk
      induction hk with
      | nil =>
        intro w
        refine wpAny_handleBy_nil ?_
        obtain ⟨k1, k2, k3, oe, vs, T, oT, ts', he, hz, hd, h1, hr⟩ := id fl3
        unfold PySem.passOn
        refine wpAny_bind (wpAny_field he hd h1 ?_)
        rw [if_neg (show ¬ ((Value.ref T == Value.none) = true) from by simp)]
        have fin : wpAny (model X.prog X.w) X.A (setFlight (.ref a) X.env.frame) (fun _ s4 => wpAny (model X.prog X.w) X.A (throw (.ref a) : Sem Flow) (SP X pins D) X.xe s4) X.xe { s' with heap := h3 } := by
          rw [hf]
          refine HandSPX.setFlight_upZ fl3 fun h4 hh4 up4 => wpAny_throw (tk _ _ ?_)
          exact ⟨a, B, sI, pins, σ', H', cls, d, rfl, J, nb, (up.trans up3).trans up4, .inr (.inr (by rw [hs]; exact hh4)), na, os, ag, w⟩
        first
          | exact wpAny_bind (wpAny_pure (wpAny_bind fin))
          | exact wpAny_bind fin
      | @plain x c ts b₀ suite np pos' hds2 l2 hc hsu r ih =>
        intro w
        obtain ⟨b, hb1, hyes, hno⟩ := w
        refine wpAny_handleBy_cons (codeAny_handlers_test ?_) (by intro q; cases q)
        have LM := PySem.W.exm_one (M := model X.prog X.w) (J3.kIn) LT hb1
        refine test hc (LM.here ?_)
        cases b with
        | true =>
          refine codeAny_handlers_suite ?_
          refine HandSPX.lands_againZ fl3 fun h4 fl4 up4 => ?_
          have J4 : Inv X pins σ' H' { s' with heap := h4 } := J.landed nb fl4.1 ((up.trans up3).trans up4) os ag
          obtain ⟨oe4, vs4, he4, hz4, hd4⟩ := fl4.there
          have S4 := J4.suite he4 hd4 na nL nF
          refine wpAny_mono ((hsu a oe4 cls d (X.pn ++ pins) hz4 ⟨_, hd4⟩).run [] _ _ H' _ S4 (hyes rfl a na)) (fun f s6 hsp => ?_) (fun _ _ z => False.elim z)
          cases f with
          | next =>
            obtain ⟨σ6, H6, S6, q6⟩ := hsp
            exact ⟨_, _, S6.unsuite ok, q6⟩
          | brk =>
            obtain ⟨σ6, H6, S6, q6⟩ := hsp
            exact ⟨_, _, S6.unsuite ok, q6⟩
          | cont =>
            obtain ⟨σ6, H6, S6, q6⟩ := hsp
            exact ⟨_, _, S6.unsuite ok, q6⟩
          | ret u =>
            obtain ⟨v6, σ6, H6, S6, r6, q6⟩ := hsp
            exact ⟨_, _, _, S6.unsuite ok, r6, q6⟩
        | false =>
          show wpAny _ X.A (handleBy (.ref a) X.env hds2) _ _ _
          exact ih (hno rfl)
      | @named x n i c ts b₀ suite np pos' hds2 l2 hi hln hc hsu r ih =>
        intro w
        obtain ⟨b, hb1, hyes, hno⟩ := w
        refine wpAny_handleBy_cons (codeAny_handlers_test ?_) (by intro q; cases q)
        have LM := PySem.W.exm_one (M := model X.prog X.w) (J3.kIn) LT hb1
        refine test hc (LM.here ?_)
        cases b with
        | true =>
          have hloc : Loc X.env.scope n := .inl hln
          refine codeAny_handlers_suite_as ?_
          refine HandSPX.lands_againZ fl3 fun h4 fl4 up4 => ?_
          have J4 : Inv X pins σ' H' { s' with heap := h4 } := J.landed nb fl4.1 ((up.trans up3).trans up4) os ag
          obtain ⟨oe4, vs4, he4, hz4, hd4⟩ := fl4.there
          have S4 := J4.suite he4 hd4 na nL nF
          refine store_ok (X := X.suite a ((a, oe4) :: (X.pn ++ pins))) (v := .ref a) S4 hN hi hloc rfl (fun s5 S5 => ?_) (.inr hln)
          refine wpAny_mono ((hsu a oe4 cls d (X.pn ++ pins) hz4 ⟨_, hd4⟩).run [] s5 _ H' _ S5 (hyes rfl a na)) (fun f s6 hsp => ?_) (fun _ _ z => False.elim z)
          have end_ : ∀ {σ6 : L2.St} {H6 : Hp} {Q : Shared → Prop}, Inv (X.suite a ((a, oe4) :: (X.pn ++ pins))) [] σ6 H6 s6 → (∀ s7, Inv X pins (σ6.set i none) H6 s7 → Q s7) →
              wpAny (model X.prog X.w) X.A (do bindName X.env n .none; unbindBehindTheSuite X.env n pos') (fun _ s7 => Q s7) X.xe s6 := fun {σ6 H6 Q} S6 hq => gone_ok (S6.unsuite ok) hN hi hln hq
          cases f with
          | next =>
            obtain ⟨σ6, H6, S6, q6⟩ := hsp
            exact end_ S6 fun s7 J7 => ⟨_, _, J7, q6⟩
          | brk =>
            obtain ⟨σ6, H6, S6, q6⟩ := hsp
            exact end_ S6 fun s7 J7 => ⟨_, _, J7, q6⟩
          | cont =>
            obtain ⟨σ6, H6, S6, q6⟩ := hsp
            exact end_ S6 fun s7 J7 => ⟨_, _, J7, q6⟩
          | ret u =>
            obtain ⟨v6, σ6, H6, S6, r6, q6⟩ := hsp
            exact end_ S6 fun s7 J7 => ⟨_, _, _, J7, r6, q6⟩
        | false =>
          show wpAny _ X.A (handleBy (.ref a) X.env hds2) _ _ _
          exact ih (hno rfl)
    exact go hh w
  · cases f with
    | next =>
      obtain ⟨σ', H', J', q⟩ := hsp
      exact wpAny_execs_nil ⟨σ', H', J'.ofTry ok, q⟩
    | brk =>
      obtain ⟨σ', H', J', q⟩ := hsp
      exact ⟨σ', H', J'.ofTry ok, q⟩
    | cont =>
      obtain ⟨σ', H', J', q⟩ := hsp
      exact ⟨σ', H', J'.ofTry ok, q⟩
    | ret u =>
      obtain ⟨v, σ', H', J', r, q⟩ := hsp
      exact ⟨v, σ', H', J'.ofTry ok, r, q⟩
end
/-! ### over contents -/
abbrev SuD := Addr → Value → Option Addr → TDS
/-- a clause: its class, what is known of the classes that may come, its name's slot, its suite -/
structure HS where
  c : Value
  ms : List (Addr × Bool)
  oi : Option Nat
  th : SuD
def excD (a : Addr) (d : Option Addr) (x : XV) : Option DV := match x.fs, d with
  | [(f, u)], some dd => some (.exc a dd f u)
  | _, _ => none
def goneD (i : Nat) (E : DEnds) : DEnds := ⟨fun δ g => E.nx (δ.set i none) g, E.rt, fun δ g => E.bk (δ.set i none) g, fun δ g => E.ct (δ.set i none) g⟩
def suD (s : HS) (E : DEnds) (δ : DS) (x : XV) (g : DG) (a : Addr) (d : Option Addr) : Prop := match s.oi with
  | none => s.th a (.ref x.C) d E δ g
  | some i => s.th a (.ref x.C) d (goneD i E) (δ.set i (excD a d x)) g
def hW (Wo : WD) (E : DEnds) : List HS → WD
  | [] => Wo
  | s :: r => fun δ x g => ∃ b, (x.C, b) ∈ s.ms ∧ (b = true → ∀ a d, (x.fs ≠ [] → ∃ dd, d = some dd) → suD s E δ x g a d) ∧ (b = false → hW Wo E r δ x g)
def noW : WD := fun _ _ _ => False
/-- the body ends, or something is raised in it -/
def dTry (t : TDS) (r : TDR) (hs : List HS) : TDS := fun E δ g => t E δ g ∨ r (hW noW E hs) δ g
inductive HdsD (X : Cx) : List ExceptHandler → List HS → Prop
  | nil : HdsD X [] []
  | plain {x : Str} {c : Value} {ms : List (Addr × Bool)} {th : SuD} {b₀ : Stmt} {suite : List Stmt} {np pos' : Pos} {hds : List ExceptHandler} {l : List HS} (hc : Names X x c) (hm : ∀ m ∈ ms, PySem.W.exmOne X.K (.ref m.1) c = some m.2)
      (hsu : SuOk X b₀ suite fun a cls d => upS X.K (th a cls d)) (r : HdsD X hds l) : HdsD X (.ExceptHandler (some (.Name x np)) none (b₀ :: suite) pos' :: hds) (⟨c, ms, none, th⟩ :: l)
  | named {x n : Str} {i : Nat} {c : Value} {ms : List (Addr × Bool)} {th : SuD} {b₀ : Stmt} {suite : List Stmt} {np pos' : Pos} {hds : List ExceptHandler} {l : List HS} (hi : X.N[i]? = some n) (hln : X.env.kindOf n = some .local) (hc : Names X x c) (hm : ∀ m ∈ ms, PySem.W.exmOne X.K (.ref m.1) c = some m.2)
      (hsu : SuOk X b₀ suite fun a cls d => upS X.K (th a cls d)) (r : HdsD X hds l) : HdsD X (.ExceptHandler (some (.Name x np)) (some n) (b₀ :: suite) pos' :: hds) (⟨c, ms, some i, th⟩ :: l)
section
variable {X : Cx} {hds : List ExceptHandler} {l : List HS}
def mixOf (K : Fg) (l : List HS) : List (Value × Option Nat × SuT) := l.map fun s => (s.c, s.oi, fun a cls d => upS K (s.th a cls d))
theorem HdsD.mix (h : HdsD X hds l) : HdsMix X hds (mixOf X.K l) := by
  induction h with
  | nil => exact .nil
  | plain hc hm hsu r ih => exact .plain hc hsu ih
  | named hi hln hc hm hsu r ih => exact .named hi hln hc hsu ih
theorem RS.setO {K : Fg} {H : Hp} {δ : DS} {σ : L2.St} {i : Nat} {o : Option DV} {v : V} (rs : RS K H δ σ) (h : ∀ d, o = some d → RD K H d v) : RS K H (δ.set i o) (σ.set i (some v)) := by
  cases o with
  | some d => exact rs.set i (h d rfl)
  | none =>
    refine ⟨by rw [List.length_set, List.length_set]; exact rs.1, fun j d e => ?_⟩
    by_cases hj : i = j
    · subst hj
      by_cases hi : i < δ.length
      · rw [List.getElem?_set_self hi] at e; cases e
      · rw [List.getElem?_eq_none (by rw [List.length_set]; omega)] at e; cases e
    · rw [List.getElem?_set_ne hj] at e ⊢
      exact rs.2 j d e
theorem rx_some {K : Fg} {H : Hp} {x : XV} {cls : Value} {d : Option Addr} (h : RX K H x cls d) : x.fs ≠ [] → ∃ dd, d = some dd := fun ne => by
  obtain ⟨C, fs⟩ := x
  obtain ⟨_, r⟩ := h
  dsimp only at r ne
  cases fs with
  | nil => exact absurd rfl ne
  | cons p r2 =>
    obtain ⟨f, u⟩ := p
    cases r2 with
    | nil => obtain ⟨a, v, e, _⟩ := r; exact ⟨a, e⟩
    | cons _ _ => exact r.elim
theorem hW_up {D : Ends} {E : DEnds} {g0 : DG} {H0 : Hp}
    (k1 : ∀ δ' g' σ' H', Ext g0 H0 g' H' → RG X.K H' g' → RS X.K H' δ' σ' → E.nx δ' g' → D.nx σ' H') (k2 : ∀ d g' v H', Ext g0 H0 g' H' → RG X.K H' g' → RD X.K H' d v → E.rt d g' → D.rt v H')
    (k3 : ∀ δ' g' σ' H', Ext g0 H0 g' H' → RG X.K H' g' → RS X.K H' δ' σ' → E.bk δ' g' → D.bk σ' H') (k4 : ∀ δ' g' σ' H', Ext g0 H0 g' H' → RG X.K H' g' → RS X.K H' δ' σ' → E.ct δ' g' → D.ct σ' H')
    (h : HdsD X hds l) : ∀ {δ σ x g H cls d}, Ext g0 H0 g H → RG X.K H g → RS X.K H δ σ → RX X.K H x cls d → hW noW E l δ x g → wMix X.K (fun _ _ _ _ => False) D (mixOf X.K l) cls d σ H := by
  induction h with
  | nil => exact fun _ _ _ _ h => h.elim
  | @plain xx c ms th b₀ suite np pos' hds2 l2 hc hm hsu r ih =>
    intro δ σ x g H cls d e rg rs rx ⟨b, hb, hy, hn⟩
    have ec := rx.1
    refine ⟨b, by rw [ec]; exact hm _ hb, fun hb1 a na => ?_, fun hb1 => ih e rg rs rx (hn hb1)⟩
    have := hy hb1 a d (rx_some rx)
    rw [ec]
    exact ⟨δ, g, E, rs, rg, this, fun δ' g' σ' H' e2 rg' rs' z => k1 δ' g' σ' H' (e.trans e2) rg' rs' z, fun d g' v H' e2 rg' rd z => k2 d g' v H' (e.trans e2) rg' rd z,
      fun δ' g' σ' H' e2 rg' rs' z => k3 δ' g' σ' H' (e.trans e2) rg' rs' z, fun δ' g' σ' H' e2 rg' rs' z => k4 δ' g' σ' H' (e.trans e2) rg' rs' z⟩
  | @named xx n i c ms th b₀ suite np pos' hds2 l2 hi hln hc hm hsu r ih =>
    intro δ σ x g H cls d e rg rs rx ⟨b, hb, hy, hn⟩
    have ec := rx.1
    refine ⟨b, by rw [ec]; exact hm _ hb, fun hb1 a na => ?_, fun hb1 => ih e rg rs rx (hn hb1)⟩
    have := hy hb1 a d (rx_some rx)
    rw [ec]
    have rs2 : RS X.K H (δ.set i (excD a d x)) (σ.set i (some (.ref a))) := rs.setO fun dv hd => by
      obtain ⟨_, r2⟩ := rx
      obtain ⟨C, fs⟩ := x
      unfold excD at hd
      dsimp only at hd r2
      cases fs with
      | nil => cases d <;> cases hd
      | cons p r =>
        obtain ⟨f, u⟩ := p
        cases r with
        | cons _ _ => exact r2.elim
        | nil =>
          cases d with
          | none => cases hd
          | some dd =>
            cases hd
            obtain ⟨a2, v, e1, e2, rd⟩ := r2
            cases e1
            exact .exc e2 rd
    exact ⟨_, g, goneD i E, rs2, rg, this, fun δ' g' σ' H' e2 rg' rs' z => k1 _ g' _ H' (e.trans e2) rg' (rs'.unset i) z, fun d g' v H' e2 rg' rd z => k2 d g' v H' (e.trans e2) rg' rd z,
      fun δ' g' σ' H' e2 rg' rs' z => k3 _ g' _ H' (e.trans e2) rg' (rs'.unset i) z, fun δ' g' σ' H' e2 rg' rs' z => k4 _ g' _ H' (e.trans e2) rg' (rs'.unset i) z⟩
theorem pds_try {body : List Stmt} {h₀ : ExceptHandler} {pos : Pos} {t : TDS} {r : TDR} (hs : X.stack = X.env :: X.outer) (hf : X.env.frame = some X.env.locals) (hN : X.N.Nodup)
    (ht : ∀ (pn : List (Addr × Obj)) (xe : Value → Shared → Prop), PassesOwn (model X.prog X.w) X.A X.env xe → PSs (X.tr pn xe) body (upS X.K t))
    (hr : ∀ (W : WX) (pn : List (Addr × Obj)) (xe : Value → Shared → Prop), Takes (X.tr pn xe) W → PassesOwn (model X.prog X.w) X.A X.env xe → PSs (X.tr pn xe) body (upR X.K W r))
    (hh : HdsD X (h₀ :: hds) l) : PS X (.Try body (h₀ :: hds) [] [] pos) (upS X.K (dTry t r l)) := by
  refine PS_weak (ps_try_mix (tb := fun W D σ H => upS X.K t D σ H ∨ upR X.K W r D σ H) (Wout := fun _ _ _ _ => False) hs hf hN takes_none5 (fun W pn xe tk po => ?_) hh.mix) fun D σ H ⟨δ, g, E, rs, rg, h, k1, k2, k3, k4⟩ => ?_
  · refine ⟨fun pins s σ H D I q => ?_⟩
    rcases q with q | q
    · exact (ht pn xe po).run pins s σ H D I q
    · exact (hr W pn xe tk po).run pins s σ H D I q
  · rcases h with h | h
    · exact .inl ⟨δ, g, E, rs, rg, h, k1, k2, k3, k4⟩
    · exact .inr ⟨δ, g, _, rs, rg, h, fun δ' σ' x g' H' cls d e rg' rs' rx hw => hW_up k1 k2 k3 k4 hh e rg' rs' rx hw⟩
end
/-! ### within a suite: a field of what was caught -/
def dXf (a : Addr) (cls : Value) (d : Option Addr) (C : Addr) (f : Str) (t : TDE) : TDE := fun δ g Q => t δ g fun x g1 => match x with
  | .exc a' d' f' u => a' = a ∧ cls = .ref C ∧ d = some d' ∧ f' = f ∧ Q u g1
  | _ => False
theorem pd_xf {X : Cx} {a C : Addr} {oe : Obj} {cls : Value} {d : Option Addr} {pn : List (Addr × Obj)} {e : Expr} {te : TDE} {pos : Pos} {n : Str} (T : XfC X.K C) (hno : PySem.W.findIn X.K (.ref C) n = some none)
    (hz : Zc cls d oe) (hf : ∃ vs, oe.data = .fields vs) (he : PE (X.suite a ((a, oe) :: pn)) e (upE X.K te)) (hb : attributeBase e n X.env (eval e X.env) = eval e X.env := by rfl) :
    PE (X.suite a ((a, oe) :: pn)) (.Attribute e n pos) (upE X.K (dXf a cls d C n te)) := by
  refine PE_weak (pe_xf T hno hz hf he hb) fun σ H Q ⟨δ, g, P, rs, rg, h, k⟩ => ⟨δ, g, _, rs, rg, h, fun x g1 v H1 e1 rg1 rd1 h1 => ?_⟩
  cases x <;> first | exact False.elim h1 | skip
  rename_i a' d' f' u
  obtain ⟨z1, z2, z3, z4, q⟩ := h1
  subst z1 z4
  cases rd1 with
  | @exc _ _ _ _ w hw rw' => exact ⟨rfl, z2, d', _, w, z3, hw, by simp [List.lookup], k _ _ _ _ e1 rg1 rw' q⟩
end DL
namespace DL
open PySem PySem.Spec PyProof.Rows L2
theorem exm_mk {K : Fg} {C D : Addr} {b : Bool} (h1 : PySem.W.subIn K (.ref D) (.type "BaseException") = some true) (h2 : PySem.W.isClsIn K D = true) (h3 : PySem.W.typeIn K (.ref D) = some (.type "type")) (h4 : PySem.W.subIn K (.ref C) (.ref D) = some b) :
    PySem.W.exmOne K (.ref C) (.ref D) = some b := by
  have e1 : (PySem.W.subIn K (.ref D) (.type "BaseException") == some true) = true := by rw [h1]; rfl
  have e2 : ((PySem.W.clsIn K D).isSome && PySem.W.typeIn K (.ref D) == some (.type "type")) = true := by
    have h2' : (PySem.W.clsIn K D).isSome = true := h2
    rw [h2', h3]; rfl
  show (if (PySem.W.subIn K (.ref D) (.type "BaseException") == some true) = true then (if ((PySem.W.clsIn K D).isSome && PySem.W.typeIn K (.ref D) == some (.type "type")) = true then PySem.W.subIn K (.ref C) (.ref D) else none) else none) = some b
  rw [if_pos e1, if_pos e2]
  exact h4
theorem ms_nil {K : Fg} {c : Value} : ∀ m ∈ ([] : List (Addr × Bool)), PySem.W.exmOne K (.ref m.1) c = some m.2 := fun m h => nomatch h
theorem ms_cons {K : Fg} {c : Value} {C : Addr} {b : Bool} {r : List (Addr × Bool)} (h : PySem.W.exmOne K (.ref C) c = some b) (hr : ∀ m ∈ r, PySem.W.exmOne K (.ref m.1) c = some m.2) : ∀ m ∈ (C, b) :: r, PySem.W.exmOne K (.ref m.1) c = some m.2 := fun m hm => by
  rcases List.mem_cons.mp hm with e | e
  · rw [e]; exact h
  · exact hr m e
/-! ### readings -/
section
variable {Wd : WD} {δ : DS} {g : DG} {E : DEnds}
theorem rd_rseq {t : TDS} {r : TDR} (h : t ⟨fun δ' g' => r Wd δ' g', fun _ _ => False, fun _ _ => False, fun _ _ => False⟩ δ g) : rSeq t r Wd δ g := h
theorem rd_rif {c : TDT} {r r' : TDR} (h : c δ g fun b g1 => if b = true then r Wd δ g1 else r' Wd δ g1) : rIf c r r' Wd δ g := h
theorem rd_rraise {t : TDM} (h : t δ g fun x g' => Wd δ x g') : rRaise t Wd δ g := h
theorem rd_rcall {sp : SpR} {t : TDA} (h : t δ g fun xs g1 => sp xs g1 (Wd δ)) : rCall sp t Wd δ g := h
theorem rd_sr1 {f : DV → DG → (XV → DG → Prop) → Prop} {x : DV} {W : XV → DG → Prop} (h : f x g W) : sr1 f [x] g W := ⟨x, rfl, h⟩
theorem rd_sr2 {f : DV → DV → DG → (XV → DG → Prop) → Prop} {x y : DV} {W : XV → DG → Prop} (h : f x y g W) : sr2 f [x, y] g W := ⟨x, y, rfl, h⟩
theorem rd_sr3 {f : DV → DV → DV → DG → (XV → DG → Prop) → Prop} {x y z : DV} {W : XV → DG → Prop} (h : f x y z g W) : sr3 f [x, y, z] g W := ⟨x, y, z, rfl, h⟩
theorem rd_tryN {t : TDS} {r : TDR} {hs : List HS} (h : t E δ g) : dTry t r hs E δ g := .inl h
theorem rd_tryR {t : TDS} {r : TDR} {hs : List HS} (h : r (hW noW E hs) δ g) : dTry t r hs E δ g := .inr h
theorem rd_hYesN {Wo : WD} {c : Value} {ms : List (Addr × Bool)} {i : Nat} {th : SuD} {r : List HS} {x : XV} (hm : (x.C, true) ∈ ms) (h : ∀ a d, (x.fs ≠ [] → ∃ dd, d = some dd) → th a (.ref x.C) d (goneD i E) (δ.set i (excD a d x)) g) : hW Wo E (⟨c, ms, some i, th⟩ :: r) δ x g :=
  ⟨true, hm, fun _ a d hd => h a d hd, (fun z => Bool.noConfusion z)⟩
/-- what was raised keeps one thing -/
theorem rd_hYesF {Wo : WD} {c : Value} {ms : List (Addr × Bool)} {i : Nat} {th : SuD} {r : List HS} {C : Addr} {f : Str} {u : DV} (hm : (C, true) ∈ ms) (h : ∀ a dd, th a (.ref C) (some dd) (goneD i E) (δ.set i (some (.exc a dd f u))) g) : hW Wo E (⟨c, ms, some i, th⟩ :: r) δ ⟨C, [(f, u)]⟩ g :=
  rd_hYesN hm fun a d hd => by
    obtain ⟨dd, rfl⟩ := hd (by simp)
    exact h a dd
end
end DL
namespace DL
open PySem PySem.Spec PyProof.Rows L2
end DL
namespace DL
open PySem PySem.Spec PyProof.Rows L2
theorem rd_xf {a d C : Addr} {f : Str} {t : TDE} {δ : DS} {g : DG} {Q : DV → DG → Prop} (h : t δ g fun x g1 => ∃ u, x = .exc a d f u ∧ Q u g1) : dXf a (.ref C) (some d) C f t δ g Q := by
  have : (fun (x : DV) (g1 : DG) => ∃ u, x = .exc a d f u ∧ Q u g1) = fun x g1 => match x with
      | .exc a' d' f' u => a' = a ∧ (Value.ref C) = .ref C ∧ some d = some d' ∧ f' = f ∧ Q u g1
      | _ => False := by
    funext x g1
    refine propext ⟨fun ⟨u, e, q⟩ => by rw [e]; exact ⟨rfl, rfl, rfl, rfl, q⟩, fun z => ?_⟩
    cases x <;> first | exact z.elim | skip
    obtain ⟨e1, _, e3, e4, q⟩ := z
    cases e1; cases e3; cases e4
    exact ⟨_, rfl, q⟩
  unfold dXf
  rw [← this]
  exact h
theorem rd_excK {a d : Addr} {f : Str} {u : DV} {Q : DV → Prop} (h : Q u) : ∃ v, DV.exc a d f u = .exc a d f v ∧ Q v := ⟨u, rfl, h⟩
end DL

/-! Deep layer XC: == and != of tuples with texts and dicts of any values in them. -/
namespace PySem.SeqAt
open PySem PySem.Calls PyProof.Rows PySem.Spec PySem.W
section
variable {prog : Program} {w : World}
end
end PySem.SeqAt
namespace DL
open PySem PySem.Spec PyProof.Rows L2
section
variable {X : Cx} {pins : List (Addr × Obj)} {σ : L2.St} {H : Hp} {s : Shared}
end
end DL

/-! Deep layer XL: a lambda without parameters handed to a def that calls it; what the lambda raises may be caught there. -/
namespace DL
open PySem PySem.Spec PyProof.Rows L2 LamX
/-! ### the tables of code objects that g tells of -/
structure TbG (T : List (Addr × Str)) (g : DG) : Prop where
  all : ∀ p ∈ T, g p.1 = some (.tbl p.2)
  only : ∀ a q, g a = some (.tbl q) → (a, q) ∈ T
theorem TbG.gup {T : List (Addr × Str)} {g : DG} {p : Addr} {o : DO} (h : TbG T g) (hp : ∀ q, g p ≠ some (.tbl q)) (ho : ∀ q, o ≠ .tbl q) : TbG T (gup g p o) := by
  refine ⟨fun e he => ?_, fun a q e => ?_⟩
  · have h1 := h.all e he
    rw [gup_ne (fun z => hp e.2 (by rw [← z]; exact h1))]
    exact h1
  · by_cases ha : a = p
    · subst ha
      rw [gup_same] at e
      exact absurd (Option.some.inj e) (ho q)
    · rw [gup_ne ha] at e
      exact h.only a q e
theorem TbG.lst {T : List (Addr × Str)} {g : DG} {p : Addr} {ds es : List DV} (h : TbG T g) (hp : g p = some (.lst ds)) : TbG T (DL.gup g p (.lst es)) := h.gup (fun q z => by rw [hp] at z; cases z) fun q z => by cases z
theorem TbG.new {T : List (Addr × Str)} {g : DG} {p : Addr} {o : DO} (h : TbG T g) (hp : g p = none) (ho : ∀ q, o ≠ .tbl q) : TbG T (DL.gup g p o) := h.gup (fun q z => by rw [hp] at z; cases z) ho
theorem TbG.tabs {T : List (Addr × Str)} {K : Fg} {H : Hp} {g : DG} (h : TbG T g) (rg : RG K H g) : Tabs T H := fun p hp => rg _ _ (h.all p hp)
theorem kp_extN {H H1 : Hp} (e : ExtN H H1) : Kp H H1 :=
  ⟨fun b xs q => e b _ q (fun ps z => by cases z), fun b o u q => e b _ q (fun ps z => by cases z), fun b fs q => e b _ q (fun ps z => by cases z), fun b n q => e b _ q codeO_ne⟩
theorem ro_trkN {K : Fg} {H : Hp} {a : Addr} {o : DO} (r : RO K H a o) (hn : ∀ q, o ≠ .tbl q) : ∃ u, H a = some u ∧ ∀ ps, u ≠ .tbl ps := by
  cases o with
  | lst ds => obtain ⟨vs, e, _⟩ := r; exact ⟨_, e, fun ps z => by cases z⟩
  | dK ks ds => obtain ⟨vs, e, _⟩ := r; exact ⟨_, e, fun ps z => by cases z⟩
  | dT ks ds => obtain ⟨vs, e, _⟩ := r; exact ⟨_, e, fun ps z => by cases z⟩
  | ins C ds =>
    obtain ⟨dx, vs, _, h | h, _⟩ := r
    · exact ⟨_, h.1, fun ps z => by cases z⟩
    · exact ⟨_, h.1, fun ps z => by unfold SlX.SlO at z; cases z⟩
  | tbl q => exact absurd rfl (hn q)
theorem rg_extN {T : List (Addr × Str)} {K : Fg} {H H1 : Hp} {g : DG} (rg : RG K H g) (h : TbG T g) (e : ExtN H H1) (t : Tabs T H1) : RG K H1 g := fun a o ha => by
  by_cases c : ∃ q, o = .tbl q
  · obtain ⟨q, rfl⟩ := c
    exact t (a, q) (h.only a q ha)
  · have r := rg a o ha
    obtain ⟨u, hu, nu⟩ := ro_trkN r fun q z => c ⟨q, z⟩
    exact r.keep (kp_extN e) ((e a u hu nu).trans hu.symm)
theorem ext_extN {H H1 : Hp} {g : DG} (e : ExtN H H1) : Ext g H g H1 := fun a o ha n w => ⟨e a o ha fun ps z => w (by rw [z]; exact trivial), n⟩
/-! ### the maker's values, as the lambda finds them -/
/-! ### the call of what was handed over -/
section
variable {X : Cx} {pins : List (Addr × Obj)} {σ : L2.St} {H : Hp} {s : Shared}
end
section
variable {X : Cx}
end
end DL

/-! Deep layer XE: an own exception whose __init__ says super().__init__('..') and keeps what it was given. -/
namespace DL
open PySem PySem.Spec PyProof.Rows PySem.Calls L2 PySem.W
theorem ns_one {h : Heap} {dx : Addr} {ep : Nat} {hs : Int} {f : Str} {tk : Tok} {v : Value} (e : h.get? dx = some (dictOf [⟨hs, .str f tk, v⟩] ep)) : h.Ns1 dx (fun y => if y = f then some v else none) := by
  refine ⟨_, _, _, e, rfl, ?_, ?_, fun y => ?_⟩
  · intro x hx
    simp at hx
    subst hx
    exact ⟨f, tk, rfl⟩
  · exact List.pairwise_singleton _ _
  · unfold nsFind findBy
    show _ = if y = f then some v else none
    by_cases c : y = f
    · subst c
      simp [Value.isStr]
    · rw [if_neg c]
      simp [Value.isStr]
      exact fun z => c z.symm
section
variable {prog : Program} {w : World} {K : PySem.W.Frag} {mg mb : Str → Option Value} {A : Around} {R : Result → Shared → Prop} {hp : Heap} {s : Shared} {C fI cda cc e t0 : Addr} {B newId initId : String} {bmB : List Value} {fld x0 x1 qual msg : Str} {params : Arguments} {scope : Scope}
  {dV kV doc pm ct oc ccl cl : Value} {an od cdd cld : Option Addr} {osl ccs csl : Array (Option Value)} {vs : Array Value} {file : Str} {tf : Tok} {j : Nat} {p1 p2 p3 p4 p5 p6 p7 p8 p9 p10 : Pos} {u : Value} {a0 a1 : Arg}
/-- __init__ walked -/
theorem sup_init (X : K.In hp) (hg : hp.Ns mainGlobals mg) (hb : hp.Ns builtinsNs mb) (hbb : mb "super" = some (.type "super")) (hms : mg "super" = none) (hlim : hp.NoLimit) (hsz : hp.objs.size ≤ s.heap.objs.size)
    (kk : ∀ b o, hp.get? b = some o → s.heap.get? b = some o) (he : s.heap.get? e = some (excObj C t0 none .none)) (hen : hp.get? e = none) (room : A.depth < recursionLimit)
    (hfI : K.lookup fI = some ⟨oc, od, .func (ksFn "__init__" qual params [.Expr (.Call (.Attribute (.Call (.Name "super" p1) [] [] p2) "__init__" p3) [.Constant (.str msg) j p4] [] p5) p6, .Assign [.Attribute (.Name x0 p7) fld p8] (.Name x1 p9) p10] scope dV kV doc pm an (.ref cda) ct cc), osl⟩)
    (hcd : codeIn K (.ref cda) qual = true) (hcode : K.lookup cda = some ⟨ccl, cdd, .fields vs, ccs⟩) (hvs : vs[2]? = some (.str file tf)) (hfile : ((prog.main.file : Str) == file) = true) (htop : (prog.main.scope.names.lookup ("super" : Str)).isSome = false)
    (hcell : K.lookup cc = some ⟨cl, cld, .cell (some (.ref C)), csl⟩) (hpar : (params.posonlyargs ++ params.args).head? = some a0) (ha0 : a0.arg = x0)
    (hbind : ∀ (s : Shared) (a b : Value), BindsTo s (ksFn "__init__" qual params [.Expr (.Call (.Attribute (.Call (.Name "super" p1) [] [] p2) "__init__" p3) [.Constant (.str msg) j p4] [] p5) p6, .Assign [.Attribute (.Name x0 p7) fld p8] (.Name x1 p9) p10] scope dV kV doc pm an (.ref cda) ct cc) ⟨[a, b], []⟩ [(x0, a), (x1, b)])
    {pl : Env → Sem Bool} (hev : ∀ env : Env, eval (.Call (.Attribute (.Call (.Name "super" p1) [] [] p2) "__init__" p3) [.Constant (.str msg) j p4] [] p5) env = (do
      let ov ← attributeBase (.Call (.Name "super" p1) [] [] p2) "__init__" env (eval (.Call (.Name "super" p1) [] [] p2) env)
      standAt p3.atName
      let (f, first) ← holding [ov] (getMethod ov "__init__" (pl env))
      callWith p5 f first (backTo p5 (starEach [.Constant (.str msg) j p4] env)) []))
    (hint : ∀ env : Env, env.scope = scope → interactive env = false) (s_sup : scope.names.lookup ("super" : Str) = some .globalImplicit) (s_cls : scope.names.lookup ("__class__" : Str) = some .free) (s_x0 : scope.names.lookup x0 = some .local) (s_x1 : scope.names.lookup x1 = some .local) (ne : x0 ≠ x1) (nd0 : (x0 == ("__debug__" : Str)) = false) (nd1 : (x1 == ("__debug__" : Str)) = false)
    (s_cell : ∀ x ∈ scope.names, x.2 ≠ .cell) (s_co : scope.isCoroutine = false) (s_gen : scope.isGenerator = false) (s_k : scope.kind = .function)
    (KF : KxsFacts B initId) (FB : ExcBaseFacts B newId initId bmB) (SF : StoreFacts B bmB "object.__setattr__" "object") (q : excInitIn K C bmB newId = true) (ov : excOver K C bmB = true) (sa : findIn K (.ref C) "__setattr__" = some (some (.builtin "object.__setattr__")))
    (tkr : takerIn K C fld = some none) (hdt : hasDictIn K C = true) (su : ks_superIn K C C "__init__" = some (some (.builtin initId))) (sB : subIn K (.ref C) (.type B) = some true) (np : nsIn K cStatics "thirdparty.any" = some none) (mr : mroIn K C (.ref C) = some true)
    (out : ∀ h' dx t1 tk', (∀ b o, hp.get? b = some o → h'.get? b = some o) → hp.get? dx = none → e < dx → h'.get? e = some (excObj C t1 (some dx) .none) → h'.Ns1 dx (fun y => if y = fld then some u else none) → R (.ok (.ret .none)) { s with heap := h', toks := tk' }) :
    codeAny (model prog w) A (.call (.ref fI) ⟨[.ref e, u], []⟩) R s := by
  refine ks_codeAny_call_defAt (binds := [(x0, .ref e), (x1, u)]) room (kk _ _ (X _ _ hfI)) rfl (hlim.keeps kk) (codeRec_of (X.keeps kk) hcd) rfl (hbind s (.ref e) u) s_cell (fun y hy => ?_) (fun h₁ hns hk₁ => ?_) s_co s_gen s_k
  · simp only [List.mem_cons, List.not_mem_nil, or_false] at hy
    rcases hy with rfl | rfl
    · exact s_x0
    · exact s_x1
  have F0 : Fr hp s.heap.objs.size h₁ (fun y => [(x0, Value.ref e), (x1, u)].reverse.lookup y) := ⟨hns, fun b o z => hk₁ b o (kk b o z), hsz⟩
  have N0 : News hp s.heap.objs.size h₁ [(e, excObj C t0 none .none)] := fun p hp' => by
    rw [List.mem_singleton.mp hp']
    exact ⟨hk₁ _ _ he, Nat.ne_of_lt (Heap.lt_size he), hen⟩
  have v0 : (fun y => [(x0, Value.ref e), (x1, u)].reverse.lookup y) x0 = some (.ref e) := by
    show List.lookup x0 [(x1, u), (x0, Value.ref e)] = _
    simp [List.lookup, show (x0 == x1) = false from by simpa using ne]
  have v1 : (fun y => [(x0, Value.ref e), (x1, u)].reverse.lookup y) x1 = some u := by
    show List.lookup x1 [(x1, u), (x0, Value.ref e)] = _
    simp [List.lookup]
  obtain ⟨cdD, hD⟩ : ∃ cd, clsIn K C = some cd := by
    cases z : clsIn K C with
    | some cd => exact ⟨cd, rfl⟩
    | none => unfold excOver at ov; rw [z] at ov; cases ov
  obtain ⟨hh, g, d, t, os⟩ := s
  obtain ⟨oD, hD1, hD2⟩ : ∃ oD, h₁.get? C = some oD ∧ oD.data = .cls cdD := by
    unfold clsIn at hD
    split at hD
    · rename_i c d cd' sl ho
      cases hD
      exact ⟨_, F0.keep _ _ (X _ _ ho), rfl⟩
    · cases hD
  refine ks_wpAt_execs_cons (ks_wpAt_Expr_any (ks_wpAt_MethodCall ?_ (hev _)) (hint _ rfl))
  refine ks_wpAt_super_base s_sup s_cls (by decide) rfl (F0.keep _ _ (X _ _ hfI)) rfl hpar rfl (F0.keep _ _ (X _ _ hcode)) rfl hvs hfile htop ?_
  refine ks_loadName_global s_k s_sup (loadGlobal_builtin (hg.keeps F0.keep) hms (hb.keeps F0.keep) hbb ⟨rfl, ?_⟩)
  refine wpAny_loadName_free s_k s_cls rfl ⟨_, F0.keep _ _ (X _ _ hcell), rfl⟩ ?_
  rw [ha0]
  refine wpAny_loadName_local s_k s_x0 hns v0 ?_
  refine ks_wpAny_isType_cls hD1 hD2 ⟨rfl, ?_⟩
  refine ks_wpAny_call_super (C := C) (D := C) (x := e) hD1 hD2 (ox := excObj C t0 none .none) (N0 (e, excObj C t0 none .none) (by simp)).1 rfl (fun c z => by cases z) (looks_mroIn (X.keeps F0.keep) mr) (fun h2 e2 k2 => ?_)
  obtain ⟨F1, N1, l1⟩ := ks_newsPush (s := ⟨h₁, g, d, t, os⟩) F0 N0 rfl e2 k2
  refine kxs_method (x := e) (C := C) (D := C) KF F1 X N1 List.mem_cons_self (InstAt.of_exc0 N1 (t := t0) (c2 := .none) (List.mem_cons_of_mem _ List.mem_cons_self)) np su sB (by decide) (fun q3 h3 F3 N3 l3 => ?_)
  refine kxs_callWith1 N3 List.mem_cons_self (spliced_cons (Calls.Constant_str (k := j) (pos := p4) (spliced_nil ⟨kxs_at N3 List.mem_cons_self, ?_⟩)))
  have so_e : h₁.objs.size ≠ e := fun z => Nat.lt_irrefl _ (z ▸ (l1 (e, excObj C t0 none .none) List.mem_cons_self))
  have q3_e : q3 ≠ e := fun z => Nat.lt_irrefl _ (z ▸ (l3 (e, excObj C t0 none .none) (List.mem_cons_of_mem _ List.mem_cons_self)))
  have U3 : UpdF e (excObj C t0 none .none) [(q3, kxs_mw initId e), (h₁.objs.size, ks_superObj C e C), (e, excObj C t0 none .none)] (fun o' => (q3, kxs_mw initId e) :: (h₁.objs.size, ks_superObj C e C) :: [(e, o')]) := .tail q3_e (.tail so_e (.head fun p hp' => absurd hp' (by simp)))
  refine kxs_call (dv := none) (t := t0) (c2 := .none) F3 X N3 FB q List.mem_cons_self U3 (by show 1 ≤ sizeLine; rw [sizeLine_eq]; decide) (fun t4 h4 F4 N4 l4 => ?_)
  have t4_e : t4 ≠ e := fun z => Nat.lt_irrefl _ (z ▸ (l4 (e, excObj C t0 none .none) (by simp)))
  refine ks_wpAt_execs_cons (ks_wpAt_Assign_Attr (wpAt_of_wpAny (wpAny_Name (wpAny_loadName_local s_k s_x1 F4.ns v1 (wpAny_Name (wpAny_loadName_local s_k s_x0 F4.ns v0 ?_) nd0)) nd1)))
  refine set_exc0 (nw := fun o' => (t4, excTup [.str msg _]) :: (q3, kxs_mw initId e) :: (h₁.objs.size, ks_superObj C e C) :: [(e, o')]) SF F4 X N4 (by simp) sa ov tkr hdt rfl (.tail t4_e (.tail q3_e (.tail so_e (.head fun p hp' => absurd hp' (by simp))))) (by show 1 ≤ 1000; decide) (fun dx h5 F5 N5 l5 => ?_)
  have dx_e : e < dx := l5 (e, excObj C t4 none .none) (by simp)
  have g1 := N5 (dx, _) List.mem_cons_self
  have g2 := N5 (e, excObj C t4 (some dx) .none) (by simp)
  exact wpAt_of_wpAny (wpAny_pure (out h5 dx t4 _ F5.keep g1.2.2 dx_e g2.1 (ns_one g1.1)))
end
/-- the text of such an __init__ -/
def SupT (st : Stmt) (fld : Str) : Prop := ∃ (x0 x1 msg : Str) (j : Nat) (p1 p2 p3 p4 p5 p6 p7 p8 p9 p10 : Pos) (pl : Env → Sem Bool) (a0 : Arg),
    defBody st = [.Expr (.Call (.Attribute (.Call (.Name "super" p1) [] [] p2) "__init__" p3) [.Constant (.str msg) j p4] [] p5) p6, .Assign [.Attribute (.Name x0 p7) fld p8] (.Name x1 p9) p10] ∧
    (∀ env : Env, eval (.Call (.Attribute (.Call (.Name "super" p1) [] [] p2) "__init__" p3) [.Constant (.str msg) j p4] [] p5) env = (do
      let ov ← attributeBase (.Call (.Name "super" p1) [] [] p2) "__init__" env (eval (.Call (.Name "super" p1) [] [] p2) env)
      standAt p3.atName
      let (f, first) ← holding [ov] (getMethod ov "__init__" (pl env))
      callWith p5 f first (backTo p5 (starEach [.Constant (.str msg) j p4] env)) [])) ∧
    ((defArgs st).posonlyargs ++ (defArgs st).args).head? = some a0 ∧ a0.arg = x0 ∧
    (∀ (qual : Str) (kV doc pm cdv ct : Value) (an : Option Addr) (cc : Addr) (s : Shared) (a b : Value), BindsTo s (ksFn "__init__" qual (defArgs st) (defBody st) (defScope st) .none kV doc pm an cdv ct cc) ⟨[a, b], []⟩ [(x0, a), (x1, b)]) ∧
    (defScope st).names.lookup ("super" : Str) = some .globalImplicit ∧ (defScope st).names.lookup ("__class__" : Str) = some .free ∧ (defScope st).names.lookup x0 = some .local ∧ (defScope st).names.lookup x1 = some .local ∧
    (x0 == x1) = false ∧ (x0 == ("__debug__" : Str)) = false ∧ (x1 == ("__debug__" : Str)) = false ∧ ((defScope st).names.all fun y => !decide (y.2 = .cell)) = true
/-- C('..') whose __init__ says super().__init__('..') and keeps its argument as fld -/
structure SupF (P : Program) (K : Fg) (mg : Str → Option Value) (C fI : Addr) (st : Stmt) (B newId initId : String) (bmB : List Value) (fld : Str) : Prop where
  q : excInitIn K C bmB newId = true
  ov : excOver K C bmB = true
  sa : findIn K (.ref C) "__setattr__" = some (some (.builtin "object.__setattr__"))
  tkr : takerIn K C fld = some none
  hdt : hasDictIn K C = true
  su : ks_superIn K C C "__init__" = some (some (.builtin initId))
  sB : subIn K (.ref C) (.type B) = some true
  np : nsIn K cStatics "thirdparty.any" = some none
  mr : mroIn K C (.ref C) = some true
  kC : keepIn K (.ref C) = true
  bx : subIn K (.ref C) (.type "BaseException") = some true
  ty : typeIn K (.ref C) = some (.type "type")
  iC : findIn K (.ref C) "__init__" = some (some (.ref fI))
  tI : typeIn K (.ref fI) = some (.type "function")
  ms : mg "super" = none
  top : (P.main.scope.names.lookup ("super" : Str)).isSome = false
  fn : ∃ (qual : Str) (kV doc pm ct oc ccl cl : Value) (an od cdd cld : Option Addr) (osl ccs csl : Array (Option Value)) (vs : Array Value) (file : Str) (tf : Tok) (cda cc : Addr),
    K.lookup fI = some ⟨oc, od, .func (ksFn "__init__" qual (defArgs st) (defBody st) (defScope st) .none kV doc pm an (.ref cda) ct cc), osl⟩ ∧ codeIn K (.ref cda) qual = true ∧ K.lookup cda = some ⟨ccl, cdd, .fields vs, ccs⟩ ∧ vs[2]? = some (.str file tf) ∧ ((P.main.file : Str) == file) = true ∧ K.lookup cc = some ⟨cl, cld, .cell (some (.ref C)), csl⟩
  tx : SupT st fld
  sc : (defScope st).isCoroutine = false ∧ (defScope st).isGenerator = false ∧ (defScope st).kind = .function
  KF : KxsFacts B initId
  FB : ExcBaseFacts B newId initId bmB
  SF : StoreFacts B bmB "object.__setattr__" "object"
def mkF (C : Addr) (fld : Str) (te : TDE) : TDM := fun δ g P => te δ g fun v g' => P ⟨C, [(fld, v)]⟩ g'
theorem rd_mkF {C : Addr} {fld : Str} {te : TDE} {δ : DS} {g : DG} {P : XV → DG → Prop} (h : te δ g fun v g' => P ⟨C, [(fld, v)]⟩ g') : mkF C fld te δ g P := h
theorem pmd_sup {X : Cx} {C fI : Addr} {st : Stmt} {B newId initId : String} {bmB : List Value} {fld x : Str} {e1 : Expr} {te : TDE} {p pos : Pos} (F : SupF X.prog X.K X.mg C fI st B newId initId bmB fld) (gC : X.mg x = some (.ref C)) (hr : Room 1 X.A) (he1 : PE X e1 (upE X.K te)) (hg : Gl X x := by rfl) (hdb : (x == ("__debug__" : Str)) = false := by decide)
    (hs : starEach [e1] X.env = (false, eval e1 X.env) :: starEach [] X.env := by rfl) (hpl : (backTo pos (starEach [] X.env)).any (·.1) = false := by rfl) : PMk X (.Call (.Name x p) [e1] [] pos) (upMk X.K (mkF C fld te)) := by
  intro pins s σ H Q I ⟨δ, g, P, rs, rg, h, k⟩
  refine wpAny_Call_Name_kw (ld_glob I hg gC ?_ hdb)
  have ha : PA X [e1] (tCons (upE X.K te) tNil) := pa_cons he1 pa_nil hs
  refine PySem.W.callWith_K (h₀ := X.base) I.ok.mod.kin F.kC (thn (ha.run pos pins s σ H (fun vs H1 => ∃ v d g', vs = [v] ∧ Ext g H g' H1 ∧ RG X.K H1 g' ∧ RD X.K H1 d v ∧ P ⟨C, [(fld, d)]⟩ g') I ⟨δ, g, _, rs, rg, h, fun d g' v H' e rg' rd hp => ⟨v, d, g', rfl, e, rg', rd, hp⟩⟩) fun us s1 hh => ?_) hs hpl
  obtain ⟨vs, H1, I1, r1, v, d, g', ev, ex, rg1, rd1, hP⟩ := hh
  subst ev
  refine ⟨I1.kIn, ?_⟩
  cases r1 with
  | cons ru rn =>
    rename_i u us'
    cases rn
    show wpAny _ _ (call (.ref C) [u]) _ _ _
    obtain ⟨hp, gn, dr, tk, os⟩ := s1
    obtain ⟨nm, N', qn, bs, bm, hdct, sn, sub, ab, col, dd, k0, k1, k2, k3, k5, hC, hT⟩ := excInit_of I1.kIn F.q
    obtain ⟨qual, kV, doc, pm, ct, oc, ccl, cl, an, od, cdd, cld, osl, ccs, csl, vs, file, tf, cda, cc, f1, f2, f3, f4, f5, f6⟩ := F.fn
    obtain ⟨x0, x1, msg, j, p1, p2, p3, p4, p5, p6, p7, p8, p9, p10, pl, a0, t1, t2, t3, t4, t5, t6, t7, t8, t9, t10, t11, t12, t13⟩ := F.tx
    obtain ⟨c1, c2, c3⟩ := F.sc
    have hsz : hp.objs.size ≤ hp.objs.size + 1 := Nat.le_succ _
    have kk : ∀ b o, hp.get? b = some o → ((hp.push (PySem.W.kdv_tup [u])).push (PySem.HandSPX.excO C hp.objs.size)).get? b = some o := fun b o e => Heap.get?_push_of_some _ (Heap.get?_push_of_some _ e)
    have hget : ((hp.push (PySem.W.kdv_tup [u])).push (PySem.HandSPX.excO C hp.objs.size)).get? (hp.objs.size + 1) = some (PySem.HandSPX.excO C hp.objs.size) := by heap_get
    obtain ⟨mb, hb1, hb2⟩ := I1.mod.blt
    have ta : (((defScope st).names.all fun y => !decide (y.2 = .cell)) = true) := t13
    rw [t1] at f1 t5
    refine wpAny_call (PySem.HandSPX.call_own F.FB hT hC (PySem.W.looks_findIn I1.kIn F.iC) (fun self => PySem.W.bind_fn I1.kIn self F.tI) (by show 1 ≤ sizeLine; rw [sizeLine_eq]; decide) ?_)
    refine sup_init (hp := hp) (t0 := hp.objs.size) (a0 := a0) (x0 := x0) (x1 := x1) (pl := pl) I1.kIn (I1.mod.glob.keeps I1.bk) (hb1.keeps I1.bk) ((hb2 _ (by decide +kernel)).trans (by decide +kernel)) F.ms (I1.mod.nolimit.keeps I1.bk) (by simp only [Heap.push, Array.size_push]; omega) kk hget (Heap.get?_none_of_le hsz)
      (hr.make C [u] []).depth f1 f2 f3 f4 f5 F.top f6 t3 t4 (fun s a b => t5 qual kV doc pm (.ref cda) ct an cc s a b) t2 (fun env z => by unfold interactive; rw [z, c3]; rfl) t6 t7 t8 t9 (by simpa using t10) t11 t12 (fun y hy => by simpa using List.all_eq_true.mp ta y hy) c1 c2 c3
      F.KF F.FB F.SF F.q F.ov F.sa F.tkr F.hdt F.su F.sB F.np F.mr (fun h' dx t1' tk' w1 w2 w3 w4 w5 => ⟨rfl, ?_⟩)
    obtain ⟨G, g1, g2⟩ := restrict h' fun b => decide (b ≠ hp.objs.size + 1)
    have gk : ∀ b, b ≠ hp.objs.size + 1 → G.get? b = h'.get? b := fun b hb => g1 b (decide_eq_true hb)
    have ge : G.get? (hp.objs.size + 1) = none := g2 _ (by simp)
    have w3' : hp.objs.size + 1 < dx := w3
    have szd : hp.objs.size ≤ dx := by omega
    have hdx : H1 dx = none := I1.hok.fresh szd
    have na : H1 (hp.objs.size + 1) = none := I1.hok.fresh hsz
    have old : ∀ b o, hp.get? b = some o → b ≠ hp.objs.size + 1 := fun b o z => Nat.ne_of_lt (Nat.lt_of_lt_of_le (Heap.lt_size z) hsz)
    have J : Inv X pins σ (upd H1 dx (.xd [(fld, v)])) ⟨G, gn, dr, tk', os⟩ := I1.laid (t' := tk') (a := dx) (o := .xd [(fld, v)]) (h' := G) (fun b o z => by rw [gk b (old b o z)]; exact w1 b o z) szd
      ⟨_, w5.at fun o y => (gk dx (by omega)).trans y, fun f => by
        by_cases c : f = fld
        · subst c
          simp [List.lookup]
          exact ru
        · rw [if_neg c]
          have : (f == fld) = false := by simpa using c
          simp [List.lookup, this]
          trivial⟩
    refine ⟨hp.objs.size + 1, _, _, ⟨G, gn, dr, tk', os⟩, _, .ref C, some dx, rfl, J, fun b o z => ?_, ge, w4, ⟨rfl, rfl⟩, rfl, rfl, by rw [upd_ne (show hp.objs.size + 1 ≠ dx by omega)]; exact na, rfl, I1.bare, raises_own F.bx F.ty, ?_⟩
    · by_cases hb : b = hp.objs.size + 1
      · rw [hb, ge] at z
        cases z
      · exact (gk b hb).symm.trans z
    · exact k ⟨C, [(fld, d)]⟩ g' _ _ _ (ex.trans (Ext.fresh rg1 hdx)) (rg1.fresh hdx) ⟨rfl, dx, v, rfl, upd_same, rd1.mono (Kp.fresh hdx)⟩ hP
end DL

/-! Deep layer AZ: d.pop(k), the keys tuples, k there. -/
namespace DL
open PySem PySem.Spec PyProof.Rows L2
section
variable {X : Cx} {K : Fg} {pos apos cpos : Pos} {o e : Expr} {to : TDE} {t : TDA}
end
end DL

/-! Deep layer BA: min of a list of tuples of ints with default=, xs.index(y). -/
namespace DL
open PySem PySem.Spec PyProof.Rows L2 Builtin
section
variable {X : Cx} {e d : Expr} {p kpos pos : Pos}
end
/-! ### xs.index(y) -/
section
variable {X : Cx} {K : Fg} {apos cpos : Pos} {o e : Expr} {to : TDE} {t : TDA}
end
end DL

/-! Deep layer BB: max of a dict whose keys are ints. -/
namespace DL
open PySem PySem.Spec PyProof.Rows L2
section
variable {X : Cx} {K : Fg}
end
end DL

/-! Deep layer BC: a dict against {}, comprehensions of two clauses whose inner walk hangs on the outer one. -/
namespace DL
open PySem PySem.Spec PyProof.Rows L2
section
variable {X : Cx} {pins : List (Addr × Obj)} {σ : L2.St} {H : Hp} {s : Shared}
end
section
variable {g : DG} {δ : DS}
end
end DL

/-! Deep layer BD: comprehensions of dicts with int keys; such a dict against {}. -/
namespace DL
open PySem PySem.Spec PyProof.Rows L2
section
variable {X : Cx}
variable {kx vx iter tgx : Expr} {ifs : List Expr} {scope : Scope} {own : List (Str × Nat)} {wi : TDI} {tg : Tg} {tt : TDT} {tk tv : TDE} {pos : Pos}
end
section
variable {X : Cx} {pins : List (Addr × Obj)} {σ : L2.St} {H : Hp} {s : Shared}
end
/-! ### min(xs, default=d) -/
section
variable {X : Cx} {K : Fg} {σ : L2.St} {H : Hp}
end
end DL

/-! Deep layer BE: enumerate(zip(a tuple, a list)). -/
namespace L2.EnZ
open PySem PySem.Spec PyProof.Rows L2 PySem.W
section
variable {prog : Program} {w : World} {A : Around} {E : Value → Shared → Prop} {s : Shared}
def ZipTL (h : Heap) (e z TI TO i1 i2 a b : Addr) (i : Nat) : Prop :=
  ((∃ f, IsZipG h z TI TO .none f) ∨ ∃ (T : Addr) (f : Bool), IsZipG h z TI TO (rawInt T) f) ∧ IsPair h TI (.ref i1) (.ref i2) ∧ (∃ x y, IsPair h TO x y) ∧ h.IsTupleIter i1 a i ∧ h.IsListIter i2 b i
theorem ZipTL.ty {e z TI TO i1 i2 a b : Addr} {i : Nat} (h : ZipTL s.heap e z TI TO i1 i2 a b i) : s.TypeIs (.ref z) "zip" := by
  rcases h.1 with ⟨f, h⟩ | ⟨T, f, h⟩
  · exact ⟨_, h, rfl⟩
  · exact ⟨_, h, rfl⟩
theorem ZipTL.has {h : Heap} {e z TI TO i1 i2 a b : Addr} {i : Nat} (q : ZipTL h e z TI TO i1 i2 a b i) : ∀ c ∈ [z, TI, TO, i1, i2], ∃ o, h.get? c = some o ∧ ∀ v, o.data ≠ .cell v := by
  obtain ⟨hz, hTI, ⟨x, y, hTO⟩, ⟨o1, e1, _, d1⟩, ⟨o2, e2, _, d2⟩⟩ := q
  intro c hc
  have e' : c = z ∨ c = TI ∨ c = TO ∨ c = i1 ∨ c = i2 := by simpa using hc
  rcases e' with q | q | q | q | q
  · rw [q]
    rcases hz with ⟨f, h⟩ | ⟨T, f, h⟩
    · exact ⟨_, h, fun v q => nomatch q⟩
    · exact ⟨_, h, fun v q => nomatch q⟩
  · rw [q]; exact ⟨_, hTI, fun v q => nomatch q⟩
  · rw [q]; exact ⟨_, hTO, fun v q => nomatch q⟩
  · rw [q]; exact ⟨o1, e1, fun v q => by rw [d1] at q; cases q⟩
  · rw [q]; exact ⟨o2, e2, fun v q => by rw [d2] at q; cases q⟩
theorem ZipTL.at {h h2 : Heap} {e z TI TO i1 i2 a b : Addr} {i : Nat} (q : ZipTL h e z TI TO i1 i2 a b i) (he : e ∉ [z, TI, TO, i1, i2]) (k : ∀ b o, b ≠ e → h.get? b = some o → h2.get? b = some o) : ZipTL h2 e z TI TO i1 i2 a b i := by
  obtain ⟨hz, hTI, ⟨x, y, hTO⟩, h1, h2⟩ := q
  have ne : ∀ c ∈ [z, TI, TO, i1, i2], c ≠ e := fun c hc z => he (z ▸ hc)
  refine ⟨?_, k _ _ (ne _ (by simp)) hTI, ⟨x, y, k _ _ (ne _ (by simp)) hTO⟩, h1.at fun o q => k _ o (ne _ (by simp)) q, h2.at fun o q => k _ o (ne _ (by simp)) q⟩
  rcases hz with ⟨f, h⟩ | ⟨T, f, h⟩
  · exact .inl ⟨f, k _ _ (ne _ (by simp)) h⟩
  · exact .inr ⟨T, f, k _ _ (ne _ (by simp)) h⟩
end
/-! ### the walk -/
end L2.EnZ
namespace L2.EnZ
open PySem PySem.Spec PyProof.Rows L2 PySem.W
end L2.EnZ
namespace DL
open PySem PySem.Spec PyProof.Rows L2 Builtin L2.EnZ
section
variable {X : Cx} {pos : Pos} {δ : DS} {g : DG}
end
end DL

/-! Deep layer BF: sorted(list, key=a def of the text). -/
namespace DL
open PySem PySem.Spec PyProof.Rows L2 Builtin
section
variable {X : Cx} {pins : List (Addr × Obj)} {σ : L2.St} {H : Hp} {s : Shared}
end

section
variable {X : Cx} {pins : List (Addr × Obj)} {σ : L2.St} {H : Hp} {s : Shared} {k : Nat} {f a kS : Addr} {fd : FuncData} {ps : List Str} {sp : Sp} {xs : List V} {vs : List Value} {e1 : Nat} {J : Nat → List V → Hp → Prop} {Q : VK} {E : Value → Shared → Prop}
end
section
variable {X : Cx} {k : Nat} {f : Addr} {fd : FuncData} {ps : List Str} {sp : Sp} {sd : SpD}
end
end DL

/-! Deep layer BG: tuples whose whole object is known (made by tuple(a list), a display, t + u), and dict(such a tuple of pairs). -/
namespace DL
open PySem PySem.Spec PyProof.Rows L2 Builtin
section
variable {X : Cx} {K : Fg} {pins : List (Addr × Obj)} {σ : L2.St} {H : Hp} {s : Shared}
theorem Inv.tpl {a : Addr} {xs : List V} (I : Inv X pins σ H s) (h : TpH X.K H a xs) : ∃ its : List Value, Vals xs its ∧ PlainSeq "tuple" s.heap a its.toArray ∧ xs.length ≤ sizeLine := by
  obtain ⟨o, ho, hd⟩ := h
  obtain ⟨e, z, its, r, o', e', hc, n, hdat⟩ := (show ObjOk X.prog X.w H s.heap a (.frz o (.tup xs)) from I.hok a _ ho)
  rw [e] at e'
  cases e'
  exact ⟨its, r, ⟨o, n, e, hc, hd, hdat⟩, z⟩
/-! ### tuple(a list) -/
/-! ### a display -/
variable {es : List Expr} {t : TDA} {pos : Pos}
/-! ### t + u -/
/-! ### dict(a tuple of pairs) -/
end
end DL

/-! Deep layer BH: dicts with int (and text) keys: a lock at an expression, dict(d), dict(pairs), displays, walks over keys and items, == and !=; max of a list of tuples of ints. -/
namespace DL
open PySem PySem.Spec PyProof.Rows L2 Builtin
section
variable {X : Cx} {K : Fg} {pins : List (Addr × Obj)} {σ : L2.St} {H : Hp} {s : Shared}
/-! ### a new dict, locked where it is made -/
/-! ### dict(d) -/
/-! ### dict(pairs) -/
end
/-! ### displays -/
section
variable {X : Cx} {K : Fg} {pos : Pos}
end
/-! ### walks -/
section
variable {X : Cx} {K : Fg} {e : Expr} {td : TDE} {apos cpos : Pos}
end
/-! ### == and != -/
section
variable {X : Cx} {K : Fg} {pins : List (Addr × Obj)} {σ : L2.St} {H : Hp} {s : Shared}
end
/-! ### max of a list of tuples of ints -/
section
variable {X : Cx} {K : Fg}
end
end DL

/-! k12: dicts with int keys as functions; what the readings need. -/
namespace DL
open PySem L2
/-! ### what is added while a dict's items are walked -/
/-! ### the clean dict: no number 0, keys in order -/
/-! ### a clean dict by a comprehension -/
/-! ### the letter most often used -/
/-! ### bounds of numbers -/
/-! ### what the comprehensions say -/
theorem leastL_le (L : List (List Int)) : (leastL L).length ≤ L.length := by
  unfold leastL
  rw [List.length_mergeSort]
  exact Nat.le_trans (List.length_filter_le _ _) (onceL_len L)
theorem gup_swap2 {g : DG} {p q : Addr} {a b c : DO} (h : q ≠ p) : gup (gup (gup g p a) q b) p c = gup (gup g p c) q b := by
  funext x
  unfold gup
  by_cases h1 : x = p
  · rw [if_pos h1, if_neg (fun z => h (z.symm.trans h1)), if_pos h1]
  · rw [if_neg h1, if_neg h1]
    by_cases h2 : x = q
    · rw [if_pos h2, if_pos h2]
    · rw [if_neg h2, if_neg h2, if_neg h1]
/-! ### the law's counts -/
theorem leastL_prods {n : Nat} {B : Int} {L : List (List Int)} (h : Prods n B L) : Prods n B (leastL L) := (leastL_is L).prods h
def gt12D : DV → Bool
  | .tup [.int i, .int j] => decide (i > j)
  | _ => false
theorem ones_map (ds : List DV) : ((ds.filter gt12D).map fun _ => DV.int 1) = ((ds.filter gt12D).map fun _ => (1 : Int)).map DV.int := by
  rw [List.map_map]
  rfl
theorem ones_nil : ∀ {xs ys : List Int}, decide (((zipD (xs.map DV.int) (ys.map DV.int)).filter gt12D).map (fun _ => (1 : Int)) = []) = dvB xs ys := by
  intro xs ys
  rw [Bool.eq_iff_iff, decide_eq_true_eq, List.map_eq_nil_iff, List.filter_eq_nil_iff, zip_ints]
  unfold dvB
  rw [List.all_eq_true]
  constructor
  · intro h p hp
    have := h _ (List.mem_map_of_mem hp)
    rw [decide_eq_true_eq]
    have h2 : ¬ (decide (p.1 > p.2) = true) := this
    rw [decide_eq_true_eq] at h2
    omega
  · intro h d hd
    obtain ⟨p, hp, rfl⟩ := List.mem_map.mp hd
    have := of_decide_eq_true (h p hp)
    show ¬ (decide (p.1 > p.2) = true)
    rw [decide_eq_true_eq]
    omega
end DL

/-! Deep layer XG: defs that know that nothing is being shown around them; repr; the end with tables. -/
namespace DL
open PySem PySem.Spec PyProof.Rows L2 LamX
/-- a def whose code object is known -/
structure FunC (K : PySem.W.Frag) (x qual : Str) (st : Stmt) (f : Addr) (fd : FuncData) (c : Addr) : Prop where
  ex : ∃ (oc : Value) (od : Option Addr) (kV doc pm : Value) (an : Option Addr) (ct : Value) (osl : Array (Option Value)),
    fd = PySem.W.fnOf x qual (defArgs st) (defBody st) (defScope st) .none kV doc pm an (.ref c) ct ∧ K.lookup f = some ⟨oc, od, .func fd, osl⟩ ∧ PySem.W.codeIn K (.ref c) qual = true
  kp : PySem.W.keepIn K (.ref f) = true
structure FnG (P : Program) (w : World) (K : PySem.W.Frag) (mg : Str → Option Value) (base : Heap) (k : Nat) (f : Addr) (fd : FuncData) (ps : List Str) (sp : Sp) : Prop where
  len : ∀ vs H Q E, sp vs H Q E → vs.length = ps.length
  run : ∀ (A : Around) (outer : List Env) (s : Shared) (H : Hp) (args : Args) (us : List Value) (vs : List V) (Q : VK) (E : XK), Room k A → A.guards = some [] → Env0 P w K mg base A outer s H → BindsTo s fd args (ps.zip us) → Vals vs us → sp vs H Q E →
    codeAny (model P w) A (.call (.ref f) args) (CR CX0 outer P w H s Q E) s
theorem fun_okG {P : Program} {w : World} {K : Fg} {mg : Str → Option Value} {base : Heap} {x qual : Str} {st : Stmt} {f c : Addr} {fd : FuncData} {N ps : List Str} {k : Nat} {sp : SpD} (F : FunC K x qual st f fd c) (S : FnScope N ps (defScope st))
    (len : ∀ ds g Q, sp ds g Q → ds.length = ps.length)
    (hbody : ∀ (A : Around) (outer : List Env) (s : Shared) (H : Hp) (E : XK), Room k (A.deeper (envOfC qual (defScope st) s.heap.objs.size f (.ref c))) → A.guards = some [] →
      ∃ t : TDS, PSs (cxOf CX0 P w K mg base N qual (defScope st) f (.ref c) A outer s H E).nox (defBody st) (upS K t) ∧ ∀ ds g Q, sp ds g Q → t (dEnds Q) (startD N ds) g) :
    FnG P w K mg base (k + 1) f fd ps (upSp K sp) := by
  obtain ⟨oc, od, kV, doc, pm, an, ct, osl, rfl, lk, hcd⟩ := F.ex
  refine ⟨fun vs H Q E ⟨ds, g, R, rd, rg, h, _⟩ => by rw [← rd.length]; exact len _ _ _ h, fun A outer s H args us vs Q E hr hgd e0 hb rv hsp => ?_⟩
  obtain ⟨ds, g, R, rd, rg, h, out⟩ := hsp
  refine run_ofS lk hcd S hr e0 hb rv (by rw [← rd.length]; exact len _ _ _ h) fun hr' => ?_
  obtain ⟨t, ht, hq⟩ := hbody A outer s H E hr' hgd
  refine ⟨_, ht.nox, startD N ds, g, dEnds R, start_rs rd, rg, hq ds g R h, fun δ' g' σ' H' e rg' _ z => ?_, fun d g' v H' e rg' rv z => ?_, fun _ _ _ _ _ _ _ z => z, fun _ _ _ _ _ _ _ z => z⟩
  · obtain ⟨g2, su, z⟩ := z
    exact out _ g2 _ _ (su.ext e) (su.rg rg') .non z
  · obtain ⟨g2, su, z⟩ := z
    exact out _ g2 _ _ (su.ext e) (su.rg rg') rv z
section
variable {X : Cx} {x : Str} {p pos : Pos} {e : Expr} {es : List Expr} {t : TDA}
theorem pd_callG {k : Nat} {f : Addr} {fd : FuncData} {ps : List Str} {sp : SpD} (F : FnG X.prog X.w X.K X.mg X.base k f fd ps (upSp X.K sp)) (hr : Room k X.A) (hgd : X.A.guards = some []) (hm : X.mg x = some (.ref f)) (hk : PySem.W.keepIn X.K (.ref f) = true) (hb : Binds X.K fd ps [])
    (ha : PA X (e :: es) (upA X.K t)) (hg : Gl X x := by rfl) (hdb : (x == ("__debug__" : Str)) = false := by decide) (he : starEach (e :: es) X.env = (false, eval e X.env) :: starEach es X.env := by rfl) (hpl : (backTo pos (starEach es X.env)).any (·.1) = false := by rfl) :
    PE X (.Call (.Name x p) (e :: es) [] pos) (upE X.K (dCall sp t)) := by
  refine ⟨fun pins s σ H Q I ⟨δ, g, P, rs, rg, h, out⟩ => ?_⟩
  refine wpAny_Call_Name_kw (ld_glob I hg hm ?_ hdb)
  refine PySem.W.callWith_K (h₀ := X.base) I.ok.mod.kin hk (thn (ha.run pos pins s σ H (fun vs H1 => ∃ ds g1, RDs X.K H1 ds vs ∧ RG X.K H1 g1 ∧ Ext g H g1 H1 ∧ sp ds g1 P) I ⟨δ, g, _, rs, rg, h, fun ds g1 vs H1 e1 rg1 rd1 h1 => ⟨ds, g1, rd1, rg1, e1, h1⟩⟩) fun us s1 ⟨vs, H1, I1, r1, ds, g1, rd1, rg1, e1, h1⟩ => ⟨I1.kIn, ?_⟩) he hpl
  have hsp : upSp X.K sp vs H1 Q (fun _ _ _ => False) := ⟨ds, g1, P, rd1, rg1, h1, fun d g' v H' e rg' rd' p' => out d g' v H' (e1.trans e) rg' rd' p'⟩
  have hl : us.length = ps.length := by rw [← r1.length]; exact F.len _ _ _ _ hsp
  have b := hb s1 us I1.kIn (by rw [List.append_nil]; exact hl)
  rw [List.append_nil] at b
  refine wpAny_call (codeAny_mono (F.run X.A X.stack s1 H1 ⟨us, []⟩ us vs Q (fun _ _ _ => False) hr hgd I1.env0 b r1 hsp) fun r s' hq => ?_)
  cases r with
  | error er => exact (show False from hq).elim
  | ok fl =>
    cases fl with
    | ret u => exact I1.after hq
    | next => exact False.elim hq
    | brk => exact False.elim hq
    | cont => exact False.elim hq
/-! ### repr -/
end
/-! ### facts for the printer -/
/-- a def of the top whose code object is known -/
structure DfnC (K : Fg) (mg : Str → Option Value) (n : Str) (st : Stmt) (ps : List Str) (f : Addr) (fd : FuncData) (c : Addr) : Prop where
  fn : FunC K n n st f fd c
  at_ : mg n = some (.ref f)
  bd : L2.Binds K fd ps []
theorem tabIn_mk {K : Fg} {x : Str} {f c P : Addr} {oc ccl : Value} {od cdd : Option Addr} {fd : FuncData} {osl ccs : Array (Option Value)} {vs : Array Value} (h1 : PySem.W.nsIn K mainGlobals x = some (some (.ref f))) (h2 : K.lookup f = some ⟨oc, od, .func fd, osl⟩) (h3 : fd.code = .ref c) (h4 : K.lookup c = some ⟨ccl, cdd, .fields vs, ccs⟩) (h5 : vs[11]? = some (.ref P)) :
    PySem.W.tabIn K x = some (c, P) := by
  unfold PySem.W.tabIn
  rw [h1]
  dsimp only
  rw [h2]
  dsimp only
  rw [h3]
  dsimp only
  rw [h4]
  dsimp only
  rw [h5]
/-! ### tuple(range(a, b)) -/
section
variable {X : Cx} {pos : Pos}
end
/-! ### displays, pair by pair -/
/-! ### range(a, b, c) of any step -/
section
variable {X : Cx} {tgx : Expr} {t : TDA} {pos : Pos}
end
end DL

/-! Deep layer NX: next((elt for .. in .. if ..), None): the generator is woken once, then dropped. -/
namespace DL
open PySem PySem.Spec PyProof.Rows L2 LamX GenW

/-! ### the code object of the generator expression -/
section
variable {M : Model} {A : Around} {E : Value → Shared → Prop} {s : Shared}
theorem genexpr_codeX {env : Env} {c P : Addr} {ps : Array Value} {pos : Pos} {qual : Str} {scope : Scope} {Q : Value → Shared → Prop} (hc : env.code = .ref c) (hok : s.heap.IsCode c P ps) (hP : s.heap.get? P = some (PySem.W.tabObj ps)) (hnf : codeAmong pos ps.toList = none)
    (h : ∀ c' h' tk, Heap.ExtBut P s.heap h' → s.heap.objs.size ≤ c' → c' < h'.objs.size → h'.CodeRec (.ref c') qual → h'.get? P = some (PySem.W.tabObj (ps ++ #[rawInt pos.line, rawInt pos.col, .ref c'])) → Q (.ref c') { s with heap := h', toks := tk }) :
    wpAny M A (genexprCode env pos qual scope) Q E s := by
  obtain ⟨o, vs, file, tf, flags, tg, inF, text, tt, op, ho, hd, h11, h2, h7, h9, h10, hop, hpd, htr, hne⟩ := id hok
  rw [hP] at hop
  cases hop
  unfold genexprCode codeAt
  rw [hc, if_neg (show ¬ ((Value.ref c == Value.none) = true) from Bool.false_ne_true)]
  refine wpAny_bind (wpAny_fieldsOf ho hd ?_)
  rw [h11]
  refine wpAny_bind (wpAny_fieldsOf hP rfl ?_)
  cases hq : codeAmong pos ps.toList with
  | some cv => rw [hnf] at hq; cases hq
  | none =>
    rw [h2, h7, h9, h10]
    refine wpAny_bind (wpAny_newCode fun c' P' h' tk hk hc' hP' hcode' hrec' => ?_)
    have hop' := hk _ _ hP
    refine wpAny_bind (wpAny_updateFieldsOfTheText hop' rfl ?_)
    have hnew : (Obj.mapFields (fun vs => if (codeAmong pos vs.toList).isSome = true then vs else vs ++ #[rawInt pos.line, rawInt pos.col, .ref c']) (PySem.W.tabObj ps)) = PySem.W.tabObj (ps ++ #[rawInt pos.line, rawInt pos.col, .ref c']) := by
      show ({ cls := Value.none, data := Data.fields (if (codeAmong pos ps.toList).isSome = true then ps else ps ++ #[rawInt pos.line, rawInt pos.col, .ref c']) } : Obj) = _
      rw [hnf]; rfl
    have hget := Heap.get?_update_self (h := h') (fun o => Obj.mapFields (fun vs => if (codeAmong pos vs.toList).isSome = true then vs else
      vs ++ #[rawInt pos.line, rawInt pos.col, .ref c']) o) hop' (by rw [hnew]; rfl)
    have hget := hget
    rw [hnew] at hget
    refine wpAny_bind (wpAny_fieldsOf hget rfl ?_)
    have hl : (ps ++ #[rawInt pos.line, rawInt pos.col, Value.ref c']).toList = ps.toList ++ [rawInt pos.line, rawInt pos.col, .ref c'] := by simp
    rw [hl, codeAmong_snoc _ htr hnf]
    have sb := Heap.SameBut.update h' P (fun o => Obj.mapFields (fun vs => if (codeAmong pos vs.toList).isSome = true then vs else vs ++ #[rawInt pos.line, rawInt pos.col, Value.ref c']) o)
    have hPc : c' ≠ P := Nat.ne_of_gt (Nat.lt_of_lt_of_le (Heap.lt_size hP) hc')
    refine wpAny_pure (h _ _ _ (fun b o' hb e => sb.extBut b o' hb (hk b o' e)) hc' ?_ ?_ hget)
    · show c' < (h'.update P _).objs.size
      rw [sb.1]
      exact hcode'.lt.1
    · obtain ⟨c2, oc, ws, t, e2, hoc, hd2, hv⟩ := hrec'
      cases e2
      exact ⟨_, oc, ws, t, rfl, sb.extBut _ _ hPc hoc, hd2, hv⟩
end
/-! ### the names of a generator expression -/
structure GenS (N : List Str) (sc scope : Scope) (own : List (Str × Nat)) : Prop where
  kind : scope.kind = .function
  co : scope.isCoroutine = false
  nocell : ∀ y ∈ scope.names, y.2 ≠ .cell
  zero : scope.names.lookup (".0" : Str) = some NameKind.local
  ix : ∀ p ∈ own, N[p.2]? = some p.1
  own : ∀ y ∈ scope.names, y.2 = .local → y.1 ∈ own.map (·.1) ∨ y.1 ∉ N
  free : ∀ y ∈ scope.names, y.2 = .free → sc.names.lookup y.1 = some .cell ∨ sc.names.lookup y.1 = some .free
def genSB (N : List Str) (sc scope : Scope) (own : List (Str × Nat)) : Bool :=
  decide (scope.kind = .function) && !scope.isCoroutine && decide (scope.names.lookup (".0" : Str) = some NameKind.local) && own.all (fun p => decide (N[p.2]? = some p.1)) &&
  scope.names.all fun y => !decide (y.2 = .cell) && (!decide (y.2 = .local) || decide (y.1 ∈ own.map (·.1)) || decide (y.1 ∉ N)) && (!decide (y.2 = .free) || decide (sc.names.lookup y.1 = some .cell) || decide (sc.names.lookup y.1 = some .free))
theorem genS_by {N : List Str} {sc scope : Scope} {own : List (Str × Nat)} (h : genSB N sc scope own = true) : GenS N sc scope own := by
  unfold genSB at h
  simp only [Bool.and_eq_true, Bool.or_eq_true, Bool.not_eq_true', decide_eq_true_eq, decide_eq_false_iff_not, List.all_eq_true] at h
  obtain ⟨⟨⟨⟨h1, h2⟩, h3⟩, h4⟩, h5⟩ := h
  refine ⟨h1, h2, fun y hy => (h5 y hy).1.1, h3, h4, fun y hy e => ?_, fun y hy e => ?_⟩
  · rcases (h5 y hy).1.2 with (z | z) | z
    · exact absurd e z
    · exact .inl z
    · exact .inr z
  · rcases (h5 y hy).2 with (z | z) | z
    · exact absurd e z
    · exact .inl z
    · exact .inr z
section
variable {X : Cx} {pins : List (Addr × Obj)} {σ : L2.St} {H : Hp} {s : Shared}
theorem GenS.has {scope : Scope} {own : List (Str × Nat)} (L : GenS X.N X.env.scope scope own) (ok : X.Ok) : ∀ y ∈ scope.names, y.2 = .free → ∃ c, X.env.cells.lookup y.1 = some c := fun y hy e => by
  rcases L.free y hy e with k | k
  · exact ok.has _ (.inl k)
  · exact ok.has _ (.inr k)
abbrev gxEnv (X : Cx) (scope : Scope) (C : Addr) (code : Value) : Env := genEnv scope (cloFrom X.env.cells scope.names []) C code builtinsNs X.env
/-- the context of the generator's frame, made at s, its iterator's objects at fp -/
abbrev genCx (X : Cx) (A : Around) (s : Shared) (H : Hp) (cenv : Env) (fp : List Addr) : Cx :=
  { X with A := A, s_0 := s, H_0 := H, env := cenv, outer := X.stack, stack := cenv :: X.stack, ex := fp, fn := fun _ => false, calm := true, pn := [], xe := fun _ _ => False }
/-- by the road of the kit's lemma for the start of a lambda's frame -/
theorem gen_start {A : Around} {scope : Scope} {own : List (Str × Nat)} {fp : List Addr} {code : Value} {h₁ : Heap} {tk : Nat} {G : Array GenState} {m0 : Str → Option Value} (I : Inv X pins σ H s) (hN : X.N.Nodup) (L : GenS X.N X.env.scope scope own) (hfp : ∀ b ∈ fp, FpOk X pins H b ∧ b < s.heap.objs.size)
    (hd : A.handled = none) (hfr : A.frames = some (gxEnv X scope s.heap.objs.size code :: X.stack)) (hG : AllBare G) (hns : h₁.Ns s.heap.objs.size m0) (kp : ∀ b o, s.heap.get? b = some o → h₁.get? b = some o) :
    Inv (genCx X A s H (gxEnv X scope s.heap.objs.size code) fp) [] (wipe σ (own.map (·.2))) H { s with heap := h₁, toks := tk, gens := G } := by
  have hfree := L.has I.ok
  have cm : ∀ {y c}, (cloFrom X.env.cells scope.names []).lookup y = some c → X.env.cells.lookup y = some c := fun {y c} e => by
    rcases cloFrom_mem (PySem.mem_of_lookup e) with hm | ⟨h1, h2⟩
    · cases hm
    · obtain ⟨c1, hc⟩ := hfree _ h1 rfl
      have hc : X.env.cells.lookup y = some c1 := hc
      have e2 : c = c1 := by rw [h2, hc] <;> rfl
      rw [e2]
      exact hc
  have look : ∀ {y}, scope.names.lookup y = some .free → ∃ c, (cloFrom X.env.cells scope.names []).lookup y = some c := fun {y} hl =>
    mem_lookup (cloFrom_has (cells := X.env.cells) (acc := []) (PySem.mem_of_lookup hl))
  have cellK : ∀ {c : Addr} {v : Option Value}, s.heap.IsCell c v → h₁.IsCell c v := fun {c v} ⟨o, ho, hd⟩ => ⟨_, kp _ _ ho, hd⟩
  refine ⟨⟨I.ok.mod, L.kind, I.ok.glob, rfl, Nat.le_refl _, fun y z c e1 e2 => I.ok.inj y z c (cm e1) (cm e2), fun y hy => ?_, fun y c z _ => ?_, fun _ => hd, hfr, .inr ⟨rfl, rfl⟩, fun b hb => ⟨Nat.ne_of_lt (hfp b hb).2, fun y c e z => ?_⟩, I.bs, Nat.le_trans I.ok.bsz I.sz, fun b o e hb => ?_, fun b hb z => ?_, I.stack, I.stkFree⟩,
    rfl, hG, Un.kept kp, ⟨_, hns, fun i y v e1 e2 e3 => ?_⟩, fun y c e => ?_, I.hok.fresh (Nat.le_refl _), fun y c e => ?_, fun q hq => absurd (show q ∈ ([] : List (Addr × Obj)) ++ [] from hq) (by simp), I.hok.kept kp, by rw [wipe_length]; exact I.len⟩
  · have hy : scope.names.lookup y = some .cell ∨ scope.names.lookup y = some .free := hy
    rcases hy with hy | hy
    · exact absurd rfl (L.nocell _ (PySem.mem_of_lookup hy))
    · exact look hy
  · have z : false = true := z
    cases z
  · have e : (cloFrom X.env.cells scope.names []).lookup y = some c := e
    exact (hfp b hb).1.2.2.2.2.1 y c (cm e) z
  · rcases (hfp b hb).1.2.2.2.1 with z | z
    · exact I.ok.noex b o e z
    · exact absurd (Nat.lt_of_lt_of_le (Heap.lt_size e) (Nat.le_trans I.ok.bsz z)) (Nat.lt_irrefl _)
  · rcases List.mem_cons.mp (I.stkSub b z) with z | z
    · exact (hfp b hb).1.2.1 z
    · exact (hfp b hb).1.2.2.1 z
  · obtain ⟨e2, hne⟩ := wipe_some e2
    have e1 : X.N[i]? = some y := e1
    have e3 : Vis scope y := e3
    rcases e3 with k | k | k
    · exfalso
      rcases L.own _ (PySem.mem_of_lookup k) rfl with e' | e'
      · obtain ⟨p, hp, hpy⟩ := List.mem_map.mp e'
        have e3 := L.ix p hp
        have hpy : p.1 = y := hpy
        rw [hpy] at e3
        exact hne (List.mem_map.mpr ⟨p, hp, nodup_ix hN e3 e1⟩)
      · exact e' (List.mem_of_getElem? e1)
    · exact absurd rfl (L.nocell _ (PySem.mem_of_lookup k))
    · obtain ⟨m, hn, hl⟩ := I.loc
      have hvis : Vis X.env.scope y := (L.free _ (PySem.mem_of_lookup k) rfl).elim (fun k => .inr (.inl k)) (fun k => .inr (.inr k))
      obtain ⟨w', r, q⟩ := hl i y v e1 e2 hvis
      obtain ⟨c2, h2⟩ := look k
      refine ⟨w', r, .inr ⟨.inr k, c2, h2, ?_⟩⟩
      have c1 := cm h2
      rcases q with ⟨k', _⟩ | ⟨_, c3, e', z⟩
      · have k' : X.env.scope.names.lookup y = some .local := k'
        rcases L.free _ (PySem.mem_of_lookup k) rfl with k2 | k2 <;> rw [show X.env.scope.names.lookup y = _ from k2] at k' <;> cases k'
      · rw [c1] at e'
        cases e'
        exact cellK z
  · obtain ⟨w', z⟩ := I.cell y c (cm e)
    exact ⟨w', cellK z⟩
  · exact I.freeC y c (cm e)
end
/-! ### the search -/
def dFind (tg : Tg) (own : List Nat) (tt : TDT) (te : TDE) (δ : DS) : List DV → DG → (DV → DG → Prop) → Prop
  | [], g, Q => Q .non g
  | d :: ds, g, Q => match bindT tg d (wipeD δ own) with
    | some δ2 => tt δ2 g fun b g3 => if b = true then te δ2 g3 Q else dFind tg own tt te δ ds g3 Q
    | none => False
/-- next((te for tg in wi if tt), None); P: the maker's table -/
def dNx (P : Addr) (q : Str) (wi : TDI) (tg : Tg) (own : List Nat) (tt : TDT) (te : TDE) : TDE := fun δ g Q => wi δ g fun ds g1 => (∃ T, TbG T g1 ∧ g1 P = some (.tbl q)) ∧ dFind tg own tt te δ ds g1 Q
/-- the ends of the one run -/
def nxEnd (G : Cx) (Q : VK) : GenEnd := fun _ _ r s₁ => ((r = .ok (.ret .none) ∨ r = .ok .next) ∧ ∃ σ' H', Inv G [] σ' H' s₁ ∧ Q .non H') ∨ ∃ e, r = .error e ∧ False
def nxYld (G : Cx) (Q : VK) : Protocol := fun _ _ v s₁ _ => ∃ pins σ' x H', Inv G pins σ' H' s₁ ∧ RelV x v ∧ Q x H'
section
variable {X : Cx} {A : Around} {elt tgx iter : Expr} {ifs : List Expr} {scope : Scope} {pos : Pos} {s3 : Shared} {H3 HA : Hp} {cenv : Env} {fp : List Addr} {it : Addr} {tn : Nat → Heap → Prop} {J : It} {ds : List DV} {tg : Tg} {own : List Nat} {tt : TDT} {te : TDE} {δ : DS} {σ : L2.St} {gA : DG} {P : DV → DG → Prop} {Q : VK}
/-- by the road of the kit's seg_genLoop, the tests and the elements free -/
theorem seg_find (T : Turn X.prog X.w X.K tgx J fp it tn) (dw : DWalk X.K J ds H3) (hix : ∀ i ∈ tg.ix, i ∈ own) (rs : RS X.K H3 δ σ) (hco : cenv.scope.isCoroutine = false)
    (hg : PG (genCx X (A.deeper cenv) s3 H3 cenv fp) tgx (tgG X.K tg)) (ht : PTs (genCx X (A.deeper cenv) s3 H3 cenv fp) ifs (upT X.K tt)) (he : PE (genCx X (A.deeper cenv) s3 H3 cenv fp) elt (upE X.K te))
    (k : ∀ d g' v H', Ext gA HA g' H' → RG X.K H' g' → RD X.K H' d v → P d g' → Q v H') :
    ∀ (n i : Nat) (H : Hp) (g : DG) (s₀ s : Shared), ds.length - i = n → i ≤ ds.length → Inv (genCx X (A.deeper cenv) s3 H3 cenv fp) [] (wipe σ own) H s → tn i s.heap → (∀ b ∈ fp, H b = none) → Kp H3 H → RG X.K H g → Ext gA HA g H → dFind tg own tt te δ (ds.drop i) g P →
      Seg (model X.prog X.w) A (nxEnd (genCx X (A.deeper cenv) s3 H3 cenv fp) Q) (nxYld (genCx X (A.deeper cenv) s3 H3 cenv fp) Q) 1 s₀
        (.compLoop (.GeneratorExp elt [⟨tgx, iter, ifs, 0⟩] scope pos) 0 (.ref it) .none cenv) ((model X.prog X.w).den (.compLoop (.GeneratorExp elt [⟨tgx, iter, ifs, 0⟩] scope pos) 0 (.ref it) .none cenv)) [] s := by
  have hov : A.over (.compLoop (.GeneratorExp elt [⟨tgx, iter, ifs, 0⟩] scope pos) 0 (.ref it) .none cenv) [] = A.deeper cenv := by rfl
  have stat : ∀ {σ' : L2.St} {H' : Hp} {s' : Shared}, Inv (genCx X (A.deeper cenv) s3 H3 cenv fp) [] σ' H' s' → (∀ b ∈ fp, H' b = none) → ∀ b ∈ fp, FpOk (genCx X (A.deeper cenv) s3 H3 cenv fp) [] H' b := fun {σ' H' s'} I' hn b hb =>
    ⟨hn b hb, (I'.ok.exf b hb).1, I'.ok.exfs b hb, .inl hb, fun x c e => (I'.ok.exf b hb).2 x c e, fun p hp => absurd (show p ∈ ([] : List (Addr × Obj)) ++ [] from hp) (by simp)⟩
  intro n
  induction n with
  | zero =>
    intro i H g s₀ s hn hi I st hf kp rg ex q
    have ei : i = ds.length := by omega
    subst ei
    rw [List.drop_length] at q
    show Seg _ A _ _ _ s₀ _ ((compTurn (.GeneratorExp elt [⟨tgx, iter, ifs, 0⟩] scope pos) 0 (.ref it) .none cenv).onRaise (leaving cenv)) [] s
    rw [compTurn_gen, Sem.onRaise_eq_wrap]
    refine seg_bind_wrap (wpAny_standAt ?_)
    refine seg_bind_wrap ?_
    rw [hov]
    refine thnF (T.done (genCx X (A.deeper cenv) s3 H3 cenv fp) rfl rfl rfl rfl ds.length [] s _ H (fun _ _ => False) I (stat I hf) st (dw.stops H kp)) fun r s1 ⟨er, I1⟩ => ?_
    subst er
    exact seg_end (.ok .next) (.inl ⟨.inr rfl, _, H, I1, k .non g .non H ex rg .non q⟩)
  | succ n ih =>
    intro i H g s₀ s hn hi I st hf kp rg ex q
    have hlt : i < ds.length := by omega
    have hd : ds.drop i = ds[i] :: ds.drop (i + 1) := List.drop_eq_getElem_cons hlt
    rw [hd] at q
    have q' : (match bindT tg ds[i] (wipeD δ own) with
      | some δ2 => tt δ2 g fun b g3 => if b = true then te δ2 g3 P else dFind tg own tt te δ (ds.drop (i + 1)) g3 P
      | none => False) := q
    show Seg _ A _ _ _ s₀ _ ((compTurn (.GeneratorExp elt [⟨tgx, iter, ifs, 0⟩] scope pos) 0 (.ref it) .none cenv).onRaise (leaving cenv)) [] s
    rw [compTurn_gen, Sem.onRaise_eq_wrap]
    refine seg_bind_wrap (wpAny_standAt ?_)
    refine seg_bind_wrap ?_
    rw [hov]
    refine thnF (T.item (genCx X (A.deeper cenv) s3 H3 cenv fp) rfl rfl rfl rfl i [] s _ H (fun _ _ => False) I (stat I hf) st (dw.goes i H hlt kp)) fun r s1 ⟨u, er, h1⟩ => ?_
    subst er
    dsimp only
    refine seg_bind_wrap ?_
    rw [hov]
    refine thnF h1 fun _ s2 ⟨x, H2, I2, rx, y, st2, n2⟩ => ?_
    obtain ⟨gr, rd⟩ := dw.yields i H x H2 ds[i] (by simp [hlt]) kp y
    split at q'
    · rename_i δ2 eb
      have rg2 := step_rg gr rg
      have ex2 := ex.trans (step_ext gr rg)
      have kp2 := kp.trans (step_kp gr)
      have rs2 : RS X.K H2 (wipeD δ own) (wipe σ own) := (rs.mono kp2).wipe own
      have I2' := I2.pinned (stat I2 n2) (T.obj _ _ st2)
      refine seg_bind_wrap ?_
      rw [hov]
      refine thnF (hg.run _ s2 _ H2 x u (fun σ' H' => H' = H2 ∧ RS X.K H2 δ2 σ' ∧ wipe σ' own = wipe σ own) I2' rx (tg_run rd rs2 eb fun σ3 rs3 hw => ⟨rfl, rs3, by rw [hw own hix]; exact wipe_wipe σ own⟩)) fun _ s3' ⟨σ3, H3', I3, eH, rs3, hw⟩ => ?_
      subst eH
      refine seg_bind_wrap ?_
      rw [hov]
      refine thnF (ht.run _ s3' σ3 H3' (fun b H' => ∃ g', Ext g H3' g' H' ∧ RG X.K H' g' ∧ (if b = true then te δ2 g' P else dFind tg own tt te δ (ds.drop (i + 1)) g' P)) I3 ⟨δ2, g, _, rs3, rg2, q', fun b g' H' e rg' z => ⟨g', e, rg', z⟩⟩) fun b s4 ⟨H4, I4, g4, e4, rg4, z⟩ => ?_
      have pin' : ∀ b ∈ fp, ∀ o, s2.heap.get? b = some o → s4.heap.get? b = some o ∧ H4 b = none := fun b hb o e =>
        let z := I4.pin (b, o) (List.mem_append_right _ (List.mem_append_right _ (mem_pinsAt hb e)))
        ⟨z.1, z.2.1⟩
      cases b with
      | false =>
        simp only [Bool.false_eq_true, if_false] at z ⊢
        have hl : (wipe σ own).length = σ3.length := by rw [← hw, wipe_length]
        refine seg_again rfl (ih (i + 1) H4 g4 s₀ s4 (by omega) hlt ((I4.unpinned (pins := [])).weak hl (fun j v e => ?_)) (T.keep _ _ _ st2 fun b hb o e => (pin' b hb o e).1) (fun b hb => ?_) (kp2.trans (e4.kp rg2)) rg4 (ex2.trans e4) z)
        · rw [← hw] at e
          exact (wipe_some e).1
        · obtain ⟨o, e, _⟩ := T.obj _ _ st2 b hb
          exact (pin' b hb o e).2
      | true =>
        simp only [if_true] at z ⊢
        have hy : ∀ v, yieldOut cenv v = yieldValue v := fun v => by simp only [yieldOut, hco, Bool.false_eq_true, if_false]
        simp only [hy]
        rw [Sem.bind_eq_wrap', Sem.bind_eq_wrap', Sem.wrap_wrap, Sem.wrap_wrap]
        refine seg_wrap ?_
        rw [hov]
        refine thnF (he.run _ s4 σ3 H4 Q I4 ⟨δ2, g4, P, rs3.mono (e4.kp rg2), rg4, z, fun d g' v H' e rg' rd' p => k d g' v H' ((ex2.trans e4).trans e) rg' rd' p⟩) fun yv s5 ⟨v, H5, I5, rv, hQ⟩ => ?_
        exact seg_at (seg_yield rfl rfl rfl ⟨_, _, v, H5, I5, rv, hQ⟩)
    · exact q'.elim
theorem seg_find0 {s₀ s : Shared} (T : Turn X.prog X.w X.K tgx J fp it tn) (st : tn 0 s.heap)
    (loop : ∀ s₀, Seg (model X.prog X.w) A (nxEnd (genCx X (A.deeper cenv) s3 H3 cenv fp) Q) (nxYld (genCx X (A.deeper cenv) s3 H3 cenv fp) Q) 1 s₀
        (.compLoop (.GeneratorExp elt [⟨tgx, iter, ifs, 0⟩] scope pos) 0 (.ref it) .none cenv) ((model X.prog X.w).den (.compLoop (.GeneratorExp elt [⟨tgx, iter, ifs, 0⟩] scope pos) 0 (.ref it) .none cenv)) [] s) :
    Seg (model X.prog X.w) A (nxEnd (genCx X (A.deeper cenv) s3 H3 cenv fp) Q) (nxYld (genCx X (A.deeper cenv) s3 H3 cenv fp) Q) 1 s₀
      (.compStart (.GeneratorExp elt [⟨tgx, iter, ifs, 0⟩] scope pos) 0 (.ref it) .none cenv) ((model X.prog X.w).den (.compStart (.GeneratorExp elt [⟨tgx, iter, ifs, 0⟩] scope pos) 0 (.ref it) .none cenv)) [] s := by
  show Seg _ A _ _ _ s₀ _ ((compStart (.GeneratorExp elt [⟨tgx, iter, ifs, 0⟩] scope pos) 0 (.ref it) .none cenv).onRaise (leaving cenv)) [] s
  unfold compStart
  rw [Sem.onRaise_eq_wrap]
  show Seg _ A _ _ _ s₀ _ ((ask >>= _).wrap _ _ _ _) [] s
  refine seg_bind_wrap (wpAny_askSetting ?_)
  split
  · exact seg_again rfl (loop _)
  · first
      | exact seg_bind_wrap (wpAny_rule (seg_bind_wrap (wpAny_standAt (seg_bind_wrap (T.self _ 0 s _ _ st (seg_again rfl (loop _)))))))
      | (refine seg_bind_wrap (wpAny_rule ?_); show Seg _ A _ _ _ s₀ _ ((standAt iter.pos >>= _).wrap _ _ _ _) [] s; exact seg_bind_wrap (wpAny_standAt (seg_bind_wrap (T.self _ 0 s _ _ st (seg_again rfl (loop _))))))
end
/-! ### the rule -/
section
variable {X : Cx} {pins : List (Addr × Obj)} {σ : L2.St} {H : Hp} {s : Shared}
/-- the code object is new, or found in the table -/
theorem gen_code {T : List (Addr × Str)} {c P : Addr} {scope : Scope} {pos : Pos} {A : Around} {E : Value → Shared → Prop} {Q : Value → Shared → Prop} (I : Inv X pins σ H s) (TB : TabB X.base X.mg c P) (hcode : X.env.code = .ref c)
    (hm : (P, X.env.qual ++ "<genexpr>") ∈ T) (hu : ∀ p ∈ T, p.1 = P → p.2 = X.env.qual ++ "<genexpr>") (hT : Tabs T H)
    (h : ∀ (code : Value) (H1 : Hp) (s' : Shared), Inv X pins σ H1 s' → ExtN H H1 → Tabs T H1 → s'.gens = s.gens → (∀ b o, H b = none → s.heap.get? b = some o → s'.heap.get? b = some o ∧ H1 b = none) → Q code s') :
    wpAny (model X.prog X.w) A (genexprCode X.env pos (X.env.qual ++ "<genexpr>") scope) Q E s := by
  obtain ⟨ps, hP, ht, ha⟩ := hT _ hm
  have hP' : s.heap.get? P = some { cls := .none, data := .fields ps } := I.hok P _ hP
  have C := TB.code.keeps I.bk
  cases hc : codeAmong pos ps.toList with
  | none =>
    refine genexpr_codeX hcode (C.code hP' ht) hP' hc fun c' h' tk hx hge hlt hrec htb => ?_
    obtain ⟨c2, oc, vs, t, e2, hoc, hd, hv⟩ := hrec
    cases e2
    have nC : H c' = none := I.hok.fresh hge
    have I1 := inv_table (t' := tk) (more := #[rawInt pos.line, rawInt pos.col, .ref c']) (h' := h') I hP hx htb hge ⟨oc, vs, t, hoc, hd, hv⟩
    have hE : ExtN H (upd (upd H P (.tbl (ps ++ #[rawInt pos.line, rawInt pos.col, .ref c']))) c' (CodeO c' (X.env.qual ++ "<genexpr>"))) := fun b o e n => by
      rw [upd_ne (ne_of_none e nC), upd_ne (fun z => n ps (Option.some.inj (e.symm.trans (by rw [z]; exact hP))))]
      exact e
    have eL : (ps ++ #[rawInt pos.line, rawInt pos.col, .ref c']).toList = ps.toList ++ [rawInt pos.line, rawInt pos.col, .ref c'] := by simp
    refine h (.ref c') _ _ I1 hE (fun p hp => ?_) rfl (fun b o hb e => ?_)
    · by_cases hb : p.1 = P
      · rw [hu p hp hb, hb]
        refine ⟨_, by rw [upd_ne (ne_of_none hP nC), upd_same], by rw [eL]; exact PySem.TriplesOk_snoc _ _ _ _ ht, fun p' cv hcv => ?_⟩
        rw [eL] at hcv
        rcases among_app _ ht hcv with z | z
        · obtain ⟨c0, e1, e2⟩ := ha p' cv z
          exact ⟨c0, e1, hE _ _ e2 codeO_ne⟩
        · exact ⟨c', z, upd_same⟩
      · obtain ⟨ps', a1, a2, a3⟩ := hT p hp
        refine ⟨ps', by rw [upd_ne (ne_of_none a1 nC), upd_ne hb]; exact a1, a2, fun p' cv hcv => ?_⟩
        obtain ⟨c0, e1, e2⟩ := a3 p' cv hcv
        exact ⟨c0, e1, hE _ _ e2 codeO_ne⟩
    · have n1 : b ≠ P := fun z => by rw [z, hP] at hb; cases hb
      have n2 : b ≠ c' := Nat.ne_of_lt (Nat.lt_of_lt_of_le (Heap.lt_size e) hge)
      exact ⟨hx b o n1 e, by rw [upd_ne n2, upd_ne n1]; exact hb⟩
  | some cv =>
    obtain ⟨c', e, hco⟩ := ha pos cv hc
    obtain ⟨o, vs, file, tf, flags, tg, inF, text, tt, op, ho, hd, h11, h2, h7, h9, h10, hop, hpd, htr, hne⟩ := C.code hP' ht
    rw [hP'] at hop
    cases hop
    unfold genexprCode codeAt
    rw [hcode, if_neg (show ¬ ((Value.ref c == Value.none) = true) from Bool.false_ne_true)]
    refine wpAny_bind (wpAny_fieldsOf ho hd ?_)
    rw [h11]
    refine wpAny_bind (wpAny_fieldsOf hP' rfl ?_)
    rw [hc]
    exact wpAny_pure (h cv H s I (ExtN.refl H) hT rfl fun b o hb e => ⟨e, hb⟩)
theorem pd_nx {elt tgx iter : Expr} {ifs : List Expr} {scope : Scope} {own : List (Str × Nat)} {wi : TDI} {tg : Tg} {tt : TDT} {te : TDE} {c P : Addr} {k : Nat} {p gpos cp pos : Pos} {kk : Nat}
    (hm : X.mg "next" = none) (hN : X.N.Nodup) (TB : TabB X.base X.mg c P) (hr : Room (k + 2) X.A) (hgd : X.A.guards = some []) (hi : PI X tgx iter (upI X.K wi)) (L : GenS X.N X.env.scope scope own)
    (hg : ∀ (A : Around) (s : Shared) (H : Hp) (C : Addr) (code : Value) (fp : List Addr), Room k A → A.guards = some [] → PG (genCx X A s H (gxEnv X scope C code) fp) tgx (tgG X.K tg))
    (ht : ∀ (A : Around) (s : Shared) (H : Hp) (C : Addr) (code : Value) (fp : List Addr), Room k A → A.guards = some [] → PTs (genCx X A s H (gxEnv X scope C code) fp) ifs (upT X.K tt))
    (he : ∀ (A : Around) (s : Shared) (H : Hp) (C : Addr) (code : Value) (fp : List Addr), Room k A → A.guards = some [] → PE (genCx X A s H (gxEnv X scope C code) fp) elt (upE X.K te))
    (hix : ∀ i ∈ tg.ix, i ∈ own.map (·.2) := by decide) (hcode : X.env.code = .ref c := by rfl) (hgl : Gl X "next" := by rfl) (hs : ∀ x, genFold iter X.env x = pure x := by intro _; rfl)
    (hst : starEach [.GeneratorExp elt [⟨tgx, iter, ifs, 0⟩] scope gpos, .Constant .none kk cp] X.env = (false, eval (.GeneratorExp elt [⟨tgx, iter, ifs, 0⟩] scope gpos) X.env) :: starEach [.Constant .none kk cp] X.env := by rfl)
    (hst2 : backTo pos (starEach [.Constant .none kk cp] X.env) = (false, eval (.Constant .none kk cp) X.env) :: [] := by rfl) :
    PE X (.Call (.Name "next" p) [.GeneratorExp elt [⟨tgx, iter, ifs, 0⟩] scope gpos, .Constant .none kk cp] [] pos) (upE X.K (dNx P (X.env.qual ++ "<genexpr>") wi tg (own.map (·.2)) tt te)) := by
  refine ⟨fun pins s σ H Q I ⟨δ, g, Po, rs, rg, h, out⟩ => ?_⟩
  refine wpAny_Call_Name_kw (ld_blt (u := .builtin "next") I hgl hm (by rfl) ?_)
  refine PyProof.Rows.callWith_builtin1 ?_ hst (by rfl)
  rw [hst]
  show wpAny _ _ (spliced ((false, eval (.GeneratorExp elt [⟨tgx, iter, ifs, 0⟩] scope gpos) X.env) :: backTo pos (starEach [.Constant .none kk cp] X.env))) _ _ s
  rw [hst2]
  refine Calls.spliced_cons (wpAny_GeneratorExp_make L.co (closure_ok (L.has I.ok)) L.nocell L.zero L.kind (by have := hr.dp; omega) (wpAny_mono (hi.run pins s σ H (fun J H' => ∃ ds g1, Ext g H g1 H' ∧ RG X.K H' g1 ∧ DWalk X.K J ds H' ∧ (∃ T, TbG T g1 ∧ g1 P = some (.tbl (X.env.qual ++ "<genexpr>"))) ∧ dFind tg (own.map (·.2)) tt te δ ds g1 Po) I
    ⟨δ, g, _, rs, rg, h, fun ds g' J H' e rg' dw z => ⟨ds, g', e, rg', dw, z⟩⟩) (fun v s1 h1 => wpAny_mono h1 (fun itv s2 h2 => ?_) fun _ _ e => e) fun _ _ e => e) hs)
  obtain ⟨it, fp, tn, J, H2, rfl, I2, T, st2, f2, ds, g1, e1, rg1, dw, ⟨Tb, hT, hP⟩, q⟩ := h2
  refine ⟨I2.nolimit, ?_⟩
  refine gen_code I2 TB hcode (hT.only P _ hP) (fun e he z => by
      have h1 := hT.all e he
      rw [z, hP] at h1
      injection h1 with h1
      injection h1 with h1
      exact h1.symm) (hT.tabs rg1) fun code H3 s3 I3 eN T1 eG kp3 => ?_
  obtain ⟨bm, ob, hbm, hne0, _, hneP, hbo, hcls, hdict, hdata⟩ := TB.bm.keeps I3.bk
  rw [show X.env.globals = mainGlobals from I3.ok.glob]
  refine wpAny_builtinsFor (I3.mod.glob.keeps I3.bk) hbm hne0 hbo hcls hdict hdata ?_
  intro h' hns hsb
  refine Calls.spliced_cons (Constant_none (Calls.spliced_nil ?_))
  have rg3 : RG X.K H3 g1 := rg_extN rg1 hT eN T1
  have kpH : Kp H2 H3 := kp_extN eN
  have sz : ∀ b ∈ fp, ∃ o, s2.heap.get? b = some o ∧ (s3.heap.get? b = some o ∧ H3 b = none) := fun b hb => by
    obtain ⟨o, e, _⟩ := T.obj _ _ st2 b hb
    exact ⟨o, e, kp3 b o (f2 b hb).1 e⟩
  have f3 : ∀ b ∈ fp, FpOk X pins H3 b ∧ b < s3.heap.objs.size := fun b hb => by
    obtain ⟨o, _, e3, n3⟩ := sz b hb
    exact ⟨⟨n3, (f2 b hb).2⟩, Heap.lt_size e3⟩
  have st3 : tn 0 s3.heap := T.keep _ _ _ st2 fun b hb o e => by
    obtain ⟨o', e', e3, _⟩ := sz b hb
    rw [e] at e'
    cases e'
    exact e3
  have kp' : ∀ b o, s3.heap.get? b = some o → h'.get? b = some o := fun b o e => hsb.extBut b o (Nat.ne_of_lt (Heap.lt_size e)) (Heap.get?_push_of_some _ e)
  generalize hgo : ({ cls := .type "generator", data := .fields #[.int s3.gens.size 0, .str "<genexpr>" (s3.toks + 1), .str (X.env.qual ++ "<genexpr>") (s3.toks + 1 + 1)] } : Obj) = go
  have kp5 : ∀ b o, s3.heap.get? b = some o → (h'.push go).get? b = some o := fun b o e => Heap.get?_push_of_some _ (kp' b o e)
  have hgen : (h'.push go).IsGen h'.objs.size s3.gens.size := ⟨go, _, _, by rw [← hgo]; exact Heap.get?_push_size _ rfl, by rw [← hgo], by rw [← hgo], by rw [← hgo]⟩
  generalize hc0 : (Code.compStart (.GeneratorExp elt [⟨tgx, iter, ifs, 0⟩] scope gpos) 0 (.ref it) .none (genEnv scope (cloFrom X.env.cells scope.names []) s3.heap.objs.size code builtinsNs X.env)) = c0
  refine Calls.call_function_entry (by decide +kernel) (by decide +kernel) PySem.W.kdk_entry_next (PySem.W.kdk_args_next2 _ _) ?_
  unfold Builtin.«next»
  refine wpAny_bind (m := someArgs "next" 1 2 _) (wpAny_of_eq (a := [Value.ref h'.objs.size, .none]) (by first | rfl | kernel_rfl!) ?_)
  dsimp only
  refine wpAny_bind (wpAny_specialOf (name := Str.ofString "__next__") (Heap.IsGen.typeIs (s := { s3 with gens := _, toks := _, heap := h'.push go }) hgen) slot_gen_next.lookup ?_)
  refine wpAny_ite_split (fun hab => absurd hab (by decide)) (fun _ => ?_)
  have back : ∀ {pins' : List (Addr × Obj)} {σ' : L2.St} {H' : Hp} {s' : Shared} {x : GenState}, Inv (genCx X (X.A.in1.in1.deeper (gxEnv X scope s3.heap.objs.size code)) s3 H3 (gxEnv X scope s3.heap.objs.size code) fp) pins' σ' H' s' → x.bare = true → Inv X pins σ H' (s'.setGen s3.gens.size x) := fun {pins' σ' H' s' x} J hx =>
    I3.call' (ch := fp) J.os J.base J.hok (allBare_setGen J.bare hx) fun b hb => ⟨(f3 b hb).1.2.2.2.1, (f3 b hb).1.2.1, (f3 b hb).1.2.2.2.2.1, (f3 b hb).1.2.2.2.2.2⟩
  have hdp := hr.dp
  have hun := hr.un
  refine wpAny_bind (next_genG (n := 1) (gs := .fresh c0) (F := fun _ _ s₁ => ∃ σ' H', Inv (genCx X (X.A.in1.in1.deeper (gxEnv X scope s3.heap.objs.size code)) s3 H3 (gxEnv X scope s3.heap.objs.size code) fp) [] σ' H' s₁ ∧ Q .non H') (Er := fun _ _ => False) (Y := nxYld (genCx X (X.A.in1.in1.deeper (gxEnv X scope s3.heap.objs.size code)) s3 H3 (gxEnv X scope s3.heap.objs.size code) fp) Q)
    (A := X.A.in1) hr.hd (I3.nolimit.keeps kp5) (by show X.A.depth < _; omega) hgen (Array.getElem?_push_size ..) ⟨rfl, ?_⟩ (fun v s₁ gs' hb ⟨pins', σ', x, H', J, rv, hQ⟩ => ?_) (fun s₁ ⟨σ', H', J, hQ⟩ h2 hk2 => ?_) fun e s₁ z => z.elim)
  · have rm : Room (k + 1) X.A.in1.in1 := ⟨hr.hd, by show X.A.depth + 3 * (k + 1) + 5 < _; omega, by show X.A.units + 1 + 1 + 16 * (k + 1) + 200 < _; omega⟩
    have rm2 := rm.deeper (gxEnv X scope s3.heap.objs.size code)
    have hgd2 : (X.A.in1.in1.deeper (gxEnv X scope s3.heap.objs.size code)).guards = some [] := hgd
    rw [← hc0]
    have bare0 : AllBare (s3.gens.push (GenState.fresh c0)) := AllBare.push I3.bare rfl
    have I4 := gen_start (tk := s3.toks + 1 + 1 + 1) (G := (Shared.setGen { s3 with gens := s3.gens.push (.fresh c0) } s3.gens.size .running).gens) (A := X.A.in1.in1.deeper (gxEnv X scope s3.heap.objs.size code)) (code := code) (h₁ := h'.push go) I3 hN L f3 hr.hd (Around.frames_deeper (A := X.A.in1.in1) I3.ok.frames) (allBare_setGen (s := { s3 with gens := s3.gens.push (.fresh c0) }) bare0 rfl) (hns.push _) kp5
    have st4 : tn 0 (h'.push go) := T.keep _ _ _ st3 fun b _ o e => kp5 b o e
    rw [hc0]
    rw [← hc0]
    refine seg_find0 T st4 fun s₀' => ?_
    refine seg_find (gA := g) (HA := H) (P := Po) T ⟨fun i H' hi k' => dw.goes i H' hi (kpH.trans k'), fun H' k' => dw.stops H' (kpH.trans k'), fun i H1 x H' d hd k' y => dw.yields i H1 x H' d hd (kpH.trans k') y⟩ hix ((rs.mono (e1.kp rg)).mono kpH) L.co (hg _ s3 H3 _ code fp rm2 hgd2) (ht _ s3 H3 _ code fp rm2 hgd2) (he _ s3 H3 _ code fp rm2 hgd2) out
      ds.length 0 H3 g1 s₀' _ (Nat.sub_zero _) (Nat.zero_le _) ?_ st4 (fun b hb => (f3 b hb).1.1) Kp.refl rg3 (e1.trans (ext_extN eN)) q
    rw [hc0]
    exact I4
  · exact wpAny_pure ⟨v, rfl, x, H', back J hb, rv, hQ⟩
  · refine wpAny_pure ⟨.none, rfl, .non, H', ?_, rfl, hQ⟩
    have J2 := back J (x := .finished) rfl
    exact J2.kept (t' := s₁.toks) hk2
end
theorem FunC.toFun {K : PySem.W.Frag} {x qual : Str} {st : Stmt} {f c : Addr} {fd : FuncData} (F : FunC K x qual st f fd c) : Fun K x qual st f fd := by
  obtain ⟨⟨oc, od, kV, doc, pm, an, ct, osl, e, lk, hcd⟩, kp⟩ := F
  exact ⟨⟨oc, od, kV, doc, pm, an, .ref c, ct, osl, e, lk, hcd⟩, kp⟩
/-! ### to be read step by step -/
theorem rd_gnx {P : Addr} {q : Str} {wi : TDI} {tg : Tg} {own : List Nat} {tt : TDT} {te : TDE} {δ : DS} {g : DG} {Q : DV → DG → Prop} (h : wi δ g fun ds g1 => (∃ T, TbG T g1 ∧ g1 P = some (.tbl q)) ∧ dFind tg own tt te δ ds g1 Q) : dNx P q wi tg own tt te δ g Q := h
theorem rd_gnxK {P : Addr} {q : Str} {T : List (Addr × Str)} {g : DG} {B : Prop} (h : TbG T g) (hP : g P = some (.tbl q)) (k : B) : (∃ T, TbG T g ∧ g P = some (.tbl q)) ∧ B := ⟨⟨T, h, hP⟩, k⟩
/-- the items are f's of plain things; the test keeps the heap and tells p -/
theorem find_first {α : Type} {tg : Tg} {own : List Nat} {tt : TDT} {te : TDE} {δ : DS} {g : DG} {Q : DV → DG → Prop} (f r : α → DV) (p : α → Bool) : ∀ (xs : List α),
    (∀ x ∈ xs, ∃ δ2, bindT tg (f x) (wipeD δ own) = some δ2 ∧ ∀ R : Bool → DG → Prop, R (p x) g → tt δ2 g R) → (∀ x ∈ xs, p x = true → ∀ δ2, bindT tg (f x) (wipeD δ own) = some δ2 → Q (r x) g → te δ2 g Q) →
    Q ((xs.find? p).elim .non r) g → dFind tg own tt te δ (xs.map f) g Q
  | [], _, _, h => h
  | x :: xs, h1, h2, h => by
    obtain ⟨δ2, e, ht⟩ := h1 x List.mem_cons_self
    show (match bindT tg (f x) (wipeD δ own) with
      | some δ2 => tt δ2 g fun b g3 => if b = true then te δ2 g3 Q else dFind tg own tt te δ (xs.map f) g3 Q
      | none => False)
    rw [e]
    refine ht _ ?_
    rw [List.find?_cons] at h
    cases hp : p x with
    | true =>
      rw [hp] at h
      rw [if_pos rfl]
      exact h2 x List.mem_cons_self hp δ2 e h
    | false =>
      rw [hp] at h
      rw [if_neg Bool.false_ne_true]
      exact find_first f r p xs (fun y hy => h1 y (List.mem_cons_of_mem _ hy)) (fun y hy => h2 y (List.mem_cons_of_mem _ hy)) h
end DL

/-! Deep layer XT: the end of a law whose defs make lambdas: the tables of their code objects are tracked from the start. By the road of the kit's end with tables. -/
namespace DL
open PySem PySem.Spec PyProof.Rows L2 LamX
/-- what stands at the law's entry: the part, the names, the tables of the makers, the script at a -/
structure AtTop (K : PySem.W.Frag) (mg mb : Str → Option Value) (s : Shared) (cs : List (Addr × Addr)) (a : Addr) (vs : List Value) : Prop where
  kin : K.In s.heap
  glob : s.heap.Ns mainGlobals mg
  blt : s.heap.Ns builtinsNs mb
  boot : ∀ x : Str, x ≠ "__name__" → mb x = bootBuiltins x
  lim : s.heap.NoLimit
  gens : s.gens = #[]
  code : ∀ p ∈ cs, PySem.W.CodeHd s.heap p.1 p.2 ∧ s.heap.get? p.2 = some { cls := .none, data := .fields #[] } ∧ K.lookup p.2 = none
  bmod : ∃ (bm : Addr) (ob : Obj), mg "__builtins__" = some (.ref bm) ∧ bm ≠ builtinsNs ∧ s.heap.get? bm = some ob ∧ ob.cls = .type "module" ∧ ob.dict = some builtinsNs ∧ ob.data = .plain
  scr : s.heap.get? a = some { cls := .type "list", data := .seq vs.toArray }
/-- what may be tracked there: the tables, and the script where the part does not bear it -/
structure Tracks (K : PySem.W.Frag) (cs : List (Addr × Addr)) (a : Addr) (H : Hp) : Prop where
  tb : ∀ p ∈ cs, H p.2 = some (.tbl #[])
  only : ∀ b, H b = none ∨ b ∈ cs.map (·.2) ∨ ∃ o xs, H b = some (.frz o (.lst xs))
  at_ : ∀ b, H b ≠ none → b = a ∨ b ∈ cs.map (·.2)
  free : H a ≠ none → K.lookup a = none
section
variable {P : Program} {w : World} {K : PySem.W.Frag} {mg mb : Str → Option Value} {s : Shared} {cs : List (Addr × Addr)} {a : Addr} {vs : List Value} {H : Hp}
theorem AtTop.tab (D : AtTop K mg mb s cs a vs) {b : Addr} (hb : b ∈ cs.map (·.2)) : s.heap.get? b = some { cls := .none, data := .fields #[] } ∧ K.lookup b = none := by
  obtain ⟨p, hp, rfl⟩ := List.mem_map.mp hb
  exact (D.code p hp).2
theorem AtTop.apart (D : AtTop K mg mb s cs a vs) : a ∉ cs.map (·.2) := fun z => by
  have q := (D.tab z).1.symm.trans D.scr
  injection q with q
  injection q with _ _ q
  cases q
/-- an object that is neither a list nor an empty table is not tracked -/
theorem Tracks.off (T : Tracks K cs a H) (D : AtTop K mg mb s cs a vs) {b : Addr} {o : Obj} (e : s.heap.get? b = some o) (h1 : ∀ us n, o.data ≠ .seq us n) (h2 : o.data ≠ .fields #[]) : H b = none := by
  by_cases q : H b = none
  · exact q
  rcases T.at_ b q with z | z
  · subst z
    cases e.symm.trans D.scr
    exact absurd rfl (h1 _ _)
  · cases e.symm.trans (D.tab z).1
    exact absurd rfl h2
theorem Tracks.ns (T : Tracks K cs a H) (D : AtTop K mg mb s cs a vs) {b : Addr} {m : Str → Option Value} : s.heap.Ns b m → (hidT s.heap H).Ns b m := fun ⟨o, es, ep, e, d, r⟩ =>
  ⟨o, es, ep, hidT_get e (T.off D e (fun us n z => by rw [d] at z; cases z) fun z => by rw [d] at z; cases z), d, r⟩
theorem Tracks.kin (T : Tracks K cs a H) (D : AtTop K mg mb s cs a vs) : K.In (hidT s.heap H) := fun b o e => by
  refine hidT_get (D.kin b o e) ?_
  by_cases q : H b = none
  · exact q
  rcases T.at_ b q with z | z
  · subst z
    rw [T.free q] at e
    cases e
  · rw [(D.tab z).2] at e
    cases e
theorem Tracks.mod (T : Tracks K cs a H) (D : AtTop K mg mb s cs a vs) : L2.Mod K mg (hidT s.heap H) :=
  ⟨T.kin D, T.ns D D.glob, ⟨mb, T.ns D D.blt, D.boot⟩, by obtain ⟨mc, h1, h2⟩ := D.lim; exact ⟨mc, T.ns D h1, h2⟩⟩
/-- what the making of a lambda asks, told under the tracked things -/
theorem Tracks.tabB (T : Tracks K cs a H) (D : AtTop K mg mb s cs a vs) {p : Addr × Addr} (hp : p ∈ cs) : TabB (hidT s.heap H) mg p.1 p.2 := by
  obtain ⟨hc, ht, _⟩ := D.code p hp
  have nd : ∀ {b : Addr} {m : Str → Option Value}, s.heap.Ns b m → b ≠ p.2 := fun ⟨o, es, ep, e, d, _⟩ z => by
    subst z
    cases e.symm.trans ht
    cases d
  refine ⟨?_, ?_, nd D.glob⟩
  · obtain ⟨o, us, file, tf, flags, tg, inF, text, tt, e1, r1, r2, r3, rest⟩ := hc
    refine ⟨o, us, file, tf, flags, tg, inF, text, tt, hidT_get e1 (T.off D e1 (fun ys n z => by rw [r2] at z; cases z) fun z => ?_), r1, r2, r3, rest⟩
    rw [r2] at z
    cases z
    simp at r3
  · obtain ⟨bm, ob, b1, b2, b3, b4, b5, b6⟩ := D.bmod
    have hx : bm ≠ mainGlobals ∧ bm ≠ p.2 := by
      constructor
      · intro z
        obtain ⟨o, es, ep, e, d, _⟩ := D.glob
        rw [← z] at e
        cases e.symm.trans b3
        rw [b6] at d
        cases d
      · intro z
        rw [z] at b3
        cases b3.symm.trans ht
        cases b6
    exact ⟨bm, ob, b1, b2, hx.1, hx.2, hidT_get b3 (T.off D b3 (fun ys n z => by rw [b6] at z; cases z) fun z => by rw [b6] at z; cases z), b4, b5, b6⟩
theorem Tracks.env (T : Tracks K cs a H) (D : AtTop K mg mb s cs a vs) (hok : HOk P w H s.heap) : Env0 P w K mg (hidT s.heap H) callerA [] s H :=
  ⟨rfl, T.mod D, fun b o e => of_hidT e, Nat.le_of_eq (hidT_size _ _), trivial, fun b hb => absurd (show b ∈ ([] : List Addr) from hb) (by simp), hok, .of_eq D.gens⟩
/-- all that stood there stands there still, the tables but grown -/
theorem Tracks.kept (T : Tracks K cs a H) (D : AtTop K mg mb s cs a vs) (hok : HOk P w H s.heap) {H' : Hp} {s' : Shared} (hok' : HOk P w H' s'.heap) (keep : ∀ b o, H b = none → s.heap.get? b = some o → s'.heap.get? b = some o)
    (frzs : ∀ b o xs, H b = some (.frz o xs) → H' b = some (.frz o xs)) (tbls : ∀ b ps, H b = some (.tbl ps) → ∃ more, H' b = some (.tbl (ps ++ more))) : OldK s.heap s'.heap := by
  have grown : ∀ b ∈ cs.map (·.2), ∃ more : Array Value, s'.heap.get? b = some { cls := .none, data := .fields more } := fun b hb => by
    obtain ⟨p, hp, rfl⟩ := List.mem_map.mp hb
    obtain ⟨more, z⟩ := tbls _ _ (T.tb p hp)
    exact ⟨_, hok' _ _ z⟩
  have same : ∀ b o, b ∉ cs.map (·.2) → s.heap.get? b = some o → s'.heap.get? b = some o := fun b o nb e => by
    rcases T.only b with q | q | ⟨o2, xs, q⟩
    · exact keep b o q e
    · exact absurd q nb
    · cases e.symm.trans (hok b _ q).1
      exact (hok' b _ (frzs b _ _ q)).1
  refine ⟨fun b o e => ?_, fun b o e => ?_⟩ <;> by_cases hb : b ∈ cs.map (·.2)
  · obtain ⟨p, hp, rfl⟩ := List.mem_map.mp hb
    obtain ⟨more, hm⟩ := grown _ hb
    obtain ⟨hc, ht, _⟩ := D.code p hp
    cases e.symm.trans ht
    exact .inr (.inl ⟨(hc.tab ht).isCodeTable, rfl, #[], more, rfl, by rw [Array.empty_append]; exact hm⟩)
  · exact .inl (same b o hb e)
  · obtain ⟨more, hm⟩ := grown _ hb
    exact ⟨_, hm⟩
  · exact ⟨o, same b o hb e⟩
/-- the tables alone -/
def hpT (cs : List (Addr × Addr)) : Hp := fun b => if b ∈ cs.map (·.2) then some (.tbl #[]) else none
theorem hpT_in {b : Addr} (h : b ∈ cs.map (·.2)) : hpT cs b = some (.tbl #[]) := if_pos h
theorem hpT_out {b : Addr} (h : b ∉ cs.map (·.2)) : hpT cs b = none := if_neg h
/-- where the script's list lies in the part, the tables alone are tracked; else the list, too -/
theorem AtTop.start (D : AtTop K mg mb s cs a vs) {ns : List Int} (hi : IntsAre vs ns) (hl : ns.length ≤ sizeLine) : ∃ H : Hp, Tracks K cs a H ∧ HOk P w H s.heap ∧ SqL K H a (ns.map V.int) := by
  have rv := vals_ints hi
  have len := hi.length
  have mem : ∀ p ∈ cs, p.2 ∈ cs.map (·.2) := fun p hp => List.mem_map.mpr ⟨p, hp, rfl⟩
  have dec : ∀ b, (b ∈ cs.map (·.2) ∧ hpT cs b = some (.tbl #[])) ∨ hpT cs b = none := fun b => by
    by_cases hb : b ∈ cs.map (·.2)
    · exact .inl ⟨hb, hpT_in hb⟩
    · exact .inr (hpT_out hb)
  cases hk : K.lookup a with
  | some o =>
    cases (D.kin a o hk).symm.trans D.scr
    refine ⟨hpT cs, ⟨fun p hp => hpT_in (mem p hp), fun b => ?_, fun b q => ?_, fun q => absurd (hpT_out D.apart) q⟩, fun b u q => ?_, .inr ⟨_, vs.toArray, _, hk, rfl, rfl, rfl, by rw [List.size_toArray, len]; exact hl, by simpa using rv⟩⟩
    · rcases dec b with z | z
      · exact .inr (.inl z.1)
      · exact .inl z
    · rcases dec b with z | z
      · exact .inr z.1
      · exact absurd z q
    · rcases dec b with z | z
      · cases z.2.symm.trans q
        exact (D.tab z.1).1
      · cases z.symm.trans q
  | none =>
    have at1 : upd (hpT cs) a (.frz { cls := .type "list", data := .seq vs.toArray } (.lst (ns.map V.int))) a = some (.frz { cls := .type "list", data := .seq vs.toArray } (.lst (ns.map V.int))) := upd_same
    have at2 : ∀ {b : Addr}, b ≠ a → upd (hpT cs) a (.frz { cls := .type "list", data := .seq vs.toArray } (.lst (ns.map V.int))) b = hpT cs b := fun h => upd_ne h
    refine ⟨upd (hpT cs) a (.frz { cls := .type "list", data := .seq vs.toArray } (.lst (ns.map V.int))), ⟨fun p hp => ?_, fun b => ?_, fun b q => ?_, fun _ => hk⟩, fun b u q => ?_, .inl (.inr ⟨_, at1⟩)⟩
    · rw [at2 fun z => D.apart (by rw [← z]; exact mem p hp)]
      exact hpT_in (mem p hp)
    · by_cases hb : b = a
      · rw [hb, at1]
        exact .inr (.inr ⟨_, _, rfl⟩)
      · rw [at2 hb]
        rcases dec b with z | z
        · exact .inr (.inl z.1)
        · exact .inl z
    · by_cases hb : b = a
      · exact .inl hb
      · rw [at2 hb] at q
        rcases dec b with z | z
        · exact .inr z.1
        · exact absurd z q
    · by_cases hb : b = a
      · rw [hb, at1] at q
        cases q
        rw [hb]
        exact ⟨D.scr, by rw [List.length_map]; exact hl, vs, _, rv, D.scr⟩
      · rw [at2 hb] at q
        rcases dec b with z | z
        · cases z.2.symm.trans q
          exact (D.tab z.1).1
        · cases z.symm.trans q
/-- the law's def, called at the top -/
theorem law_callG {k : Nat} {fa : Addr} {fd : FuncData} {x : Str} {sp : Sp} {ns : List Int} (D : AtTop K mg mb s cs a vs) (hi : IntsAre vs ns) (hl : ns.length ≤ sizeLine) (hr : Room k callerA)
    (F : ∀ base : Heap, K.In base → base.Ns mainGlobals mg → (∀ p ∈ cs, TabB base mg p.1 p.2) → FnG P w K mg base k fa fd [x] sp) (hbind : ∀ (s : Shared) (u : Value), BindsTo s fd ⟨[u], []⟩ [(x, u)])
    (hsp : ∀ H : Hp, (∀ p ∈ cs, H p.2 = some (.tbl #[])) → (∀ b, H b = none ∨ b ∈ cs.map (·.2) ∨ ∃ o xs, H b = some (.frz o (.lst xs))) → SqL K H a (ns.map V.int) → sp [.ref a] H (fun v _ => v = .bl true) fun _ _ _ => False) :
    codeAny (model P w) callerA (.call (.ref fa) ⟨[.ref a], []⟩) (fun r s' => r = .ok (.ret (.bool true)) ∧ OldK s.heap s'.heap ∧ s'.os = s.os ∧ AllBare s'.gens) s := by
  obtain ⟨H, T, hok, hs⟩ := D.start (P := P) (w := w) hi hl
  have G := F (hidT s.heap H) (T.kin D) (T.ns D D.glob) fun p hp => T.tabB D hp
  refine codeAny_mono (G.run callerA [] s H ⟨[.ref a], []⟩ [.ref a] [.ref a] _ (fun _ _ _ => False) hr rfl (T.env D hok) (hbind s (.ref a)) (.cons rfl .nil) (hsp H T.tb T.only hs)) fun r s' h => ?_
  match r, h with
  | .error _, h => exact (show False from h).elim
  | .ok .next, h => exact False.elim h
  | .ok .brk, h => exact False.elim h
  | .ok .cont, h => exact False.elim h
  | .ok (.ret u), h =>
    obtain ⟨v, H', os, bare, un, hok', r', q⟩ := h
    have q' : v = .bl true := q
    subst q'
    obtain rfl : u = Value.bool true := r'
    exact ⟨rfl, T.kept D hok hok' (fun b o n e => un.keep b o e n (by intro z; exact absurd (show b ∈ ([] : List Addr) from z) (by simp)) (by simp)) (fun b o xs z => un.frzs b o xs z) (fun b ps z => un.tbls b ps z), os, bare⟩
end
/-- what is known of the law's promise at the head's heap -/
def LawAtG (l : PySem.W.OpenLaw) (w : World) (K : PySem.W.Frag) (k n : Nat) (x : Str) (mg : Str → Option Value) (fa : Addr) (h : Heap) : Prop :=
  ∃ (fd : FuncData) (cs : List (Addr × Addr)) (sp : Sp), (∀ p ∈ cs, PySem.W.CodeHd h p.1 p.2 ∧ h.get? p.2 = some { cls := .none, data := .fields #[] } ∧ K.lookup p.2 = none) ∧ (∀ (s : Shared) (u : Value), BindsTo s fd ⟨[u], []⟩ [(x, u)]) ∧
    (∀ (H : Hp) (a : Addr) (ns : List Int), ns.length ≤ n → (∀ p ∈ cs, H p.2 = some (.tbl #[])) → (∀ b, H b = none ∨ b ∈ cs.map (·.2) ∨ ∃ o xs, H b = some (.frz o (.lst xs))) → SqL K H a (ns.map V.int) → sp [.ref a] H (fun v _ => v = .bl true) fun _ _ _ => False) ∧
    ∀ base : Heap, K.In base → base.Ns mainGlobals mg → (∀ p ∈ cs, TabB base mg p.1 p.2) → FnG l.prog w K mg base k fa fd [x] sp
theorem walk_ofG {l : PySem.W.OpenLaw} {n k : Nat} {q : Program} {loose : List Str} {XP : (Str → Option Value) → Heap → Prop} {YP : World → Heap → Prop} {d : DefRec} {K : Params → PySem.W.Frag} {x : Str}
    (hn : l.most = some n) (hn2 : n ≤ sizeLine) (hdf : d.params.defaults = []) (hr : Room k callerA) (hY : ∀ (w : World) (h : Heap), YP w h → (K w.params).In h)
    (F : ∀ (w : World) (mg : Str → Option Value) (fa : Addr) (h : Heap), (K w.params).In h → h.Ns mainGlobals mg → mg d.name = some (.ref fa) →
      (∀ (y : Str) (c P : Addr), ((recsOf q).find? fun e => e.name == y).isSome = true → PySem.W.tabIn (K w.params) y = some (c, P) → PySem.W.CodeHd h c P ∧ h.get? P = some { cls := .none, data := .fields #[] }) → LawAtG l w (K w.params) k n x mg fa h) :
    PySem.W.WalkO q loose XP YP l.row.toRowW d [] (fun f vs => PySem.call f vs) := by
  refine Att.attach_callB hn hdf fun w s₀ s₁ mg mb fa o pm cd doc a vs ns G Y ho hd hcd hmg hobj hints hlen hbits hg => ?_
  have KX := hY w _ Y
  obtain ⟨fd, cs, sp, hT, hb, hsp, hF⟩ := F w mg fa _ KX G.T.g hmg fun y c P hf ht => by
    obtain ⟨d2, e⟩ := Option.isSome_iff_exists.mp hf
    exact PySem.W.tab_of G.T KX e ht
  exact law_callG ⟨KX, G.T.g, G.T.b, G.T.builtins, G.T.nolimit, hg, hT, G.T.bmain, hobj⟩ hints (Nat.le_trans hlen hn2) hr hF hb fun H hH hO hS => hsp H a ns hlen hH hO hS
/-- the tables, as g tells of them -/
def gT (T : List (Addr × Str)) : DG := fun a => (T.find? fun p => p.1 == a).map fun p => .tbl p.2
theorem gT_tb : ∀ {T : List (Addr × Str)}, (T.map (·.1)).Nodup → TbG T (gT T)
  | [], _ => ⟨fun p hp => (List.not_mem_nil hp).elim, fun a q e => by cases e⟩
  | t :: T, h => by
    rw [List.map_cons, List.nodup_cons] at h
    have ih := gT_tb h.2
    have at_ : ∀ a, gT (t :: T) a = if t.1 = a then some (.tbl t.2) else gT T a := fun a => by
      unfold gT
      rw [List.find?_cons]
      by_cases c : t.1 = a
      · have : (t.1 == a) = true := by simpa using c
        rw [this, if_pos c]
        rfl
      · have : (t.1 == a) = false := by simpa using c
        rw [this, if_neg c]
    refine ⟨fun p hp => ?_, fun a q e => ?_⟩
    · rw [at_]
      rcases List.mem_cons.mp hp with z | z
      · rw [z, if_pos rfl]
      · rw [if_neg (fun (y : t.1 = p.1) => h.1 (by rw [y]; exact List.mem_map.mpr ⟨p, z, rfl⟩))]
        exact ih.all p z
    · rw [at_] at e
      by_cases c : t.1 = a
      · rw [if_pos c] at e
        injection e with e
        injection e with e
        subst c e
        exact List.mem_cons_self
      · rw [if_neg c] at e
        exact List.mem_cons_of_mem _ (ih.only a q e)
theorem law_startG {K : Fg} {sp : SpD} {H : Hp} {a : Addr} {ns : List Int} {T : List (Addr × Str)} (hT : ∀ p ∈ T, H p.1 = some (.tbl #[])) (hO : ∀ b, H b = none ∨ b ∈ T.map (·.1) ∨ ∃ o xs, H b = some (.frz o (.lst xs))) (hS : SqL K H a (ns.map V.int)) (nd : (T.map (·.1)).Nodup) (h : sp [.scr ns] (gT T) fun d _ => d = .bl true) :
    upSp K sp [.ref a] H (fun v _ => v = .bl true) fun _ _ _ => False := by
  have tb := gT_tb nd
  have sc : ScL K H a ns := by
    rcases hS with (h | h) | h
    · rcases hO a with e | e | ⟨o, xs, e⟩
      · rw [h] at e; cases e
      · obtain ⟨p, hp, rfl⟩ := List.mem_map.mp e
        rw [hT p hp] at h; cases h
      · rw [h] at e; cases e
    · exact .inl h
    · exact .inr h
  refine ⟨[.scr ns], gT T, _, .cons (.scr sc) .nil, fun b o e => ?_, h, fun d g' v H' _ _ r e => ?_⟩
  · cases o with
    | tbl q => exact TabS.nil (hT (b, q) (tb.only b q e))
    | _ =>
      unfold gT at e
      obtain ⟨p, _, z⟩ := Option.map_eq_some_iff.mp e
      cases z
  · subst e
    cases r
    rfl
/-- the law's promise, from the facts of its top -/
theorem law_endG {l : PySem.W.OpenLaw} {w : World} {K : Fg} {h : Heap} {mg : Str → Option Value} {f c : Addr} {fd : FuncData} {k n : Nat} {nm x : Str} {st : Stmt} {sp : SpD} (cs : List (Addr × Addr)) (T : List (Addr × Str)) (_ : DfnC K mg nm st [x] f fd c)
    (b : ∀ (s : Shared) (v : Value), BindsTo s fd ⟨[v], []⟩ [(x, v)]) (hcs : ∀ p ∈ cs, PySem.W.CodeHd h p.1 p.2 ∧ h.get? p.2 = some { cls := .none, data := .fields #[] } ∧ K.lookup p.2 = none) (hm : T.map (·.1) = cs.map (·.2)) (nd : (T.map (·.1)).Nodup)
    (h0 : ∀ ns : List Int, TbG T (gT T) → sp [.scr ns] (gT T) fun d _ => d = .bl true) (F : ∀ base : Heap, K.In base → base.Ns mainGlobals mg → (∀ p ∈ cs, TabB base mg p.1 p.2) → FnG l.prog w K mg base k f fd [x] (upSp K sp)) : LawAtG l w K k n x mg f h :=
  ⟨fd, cs, _, hcs, b, fun H a ns _ hT hO hS => law_startG (T := T) (fun p hp => by
      have : p.1 ∈ cs.map (·.2) := by rw [← hm]; exact List.mem_map.mpr ⟨p, hp, rfl⟩
      obtain ⟨e, he, ee⟩ := List.mem_map.mp this
      rw [← ee]
      exact hT e he) (fun b => by rw [hm]; exact hO b) hS nd (h0 ns (gT_tb nd)), F⟩
end DL

/-! k14: the readings' maps. -/
namespace DL
open PySem L2
/-- the numbers of a tuple -/
def ofT : DV → List Int
  | .tup ds => ds.map fun d => match d with | .int i => i | _ => 0
  | _ => []
theorem ofT_tI (m : List Int) : ofT (tI m) = m := by
  show (m.map DV.int).map _ = m
  rw [List.map_map]
  exact (List.map_congr_left fun x _ => rfl).trans (List.map_id m)
theorem en_ints14 (m : List Int) : enD (m.map DV.int) = (List.range m.length).map fun (i : Nat) => DV.tup [.int (i : Int), .int (m.getD i 0)] := by
  have hl : (enD (m.map DV.int)).length = m.length := by
    unfold enD
    rw [zipD_len, rangeD_len, List.length_map, Nat.min_self]
  refine List.ext_getElem? fun i => ?_
  by_cases hi : i < m.length
  · rw [List.getElem?_map, List.getElem?_range hi]
    have h1 : i < (enD (m.map DV.int)).length := by omega
    rw [List.getElem?_eq_getElem h1]
    obtain ⟨x, y, e1, e2, e3⟩ := zipD_get (List.getElem?_eq_getElem h1)
    obtain ⟨_, ex⟩ := rangeD_at e1
    rw [List.getElem?_map] at e2
    obtain ⟨z, ez, ey⟩ := Option.map_eq_some_iff.mp e2
    have eg : m.getD i 0 = z := by rw [List.getD_eq_getElem?_getD, ez]; rfl
    rw [show (enD (m.map DV.int))[i] = DV.tup [x, y] from e3, ex, ← ey]
    show _ = some (DV.tup [.int (i : Int), .int (m.getD i 0)])
    rw [eg]
  · rw [List.getElem?_eq_none (by omega), List.getElem?_eq_none (by rw [List.length_map, List.length_range]; omega)]
theorem any_ints (i : Int) : ∀ s : List Int, ((s.map DV.int).any fun d => eqD d (.int i)) = decide (i ∈ s)
  | [] => rfl
  | x :: s => by
    rw [List.map_cons, List.any_cons, any_ints i s, eqD_int]
    by_cases h : x = i
    · subst h; simp
    · rw [decide_eq_false h, Bool.false_or]
      by_cases h2 : i ∈ s
      · rw [decide_eq_true h2, decide_eq_true (List.mem_cons_of_mem _ h2)]
      · rw [decide_eq_false h2, decide_eq_false (fun z => (List.mem_cons.mp z).elim (fun e => h e.symm) h2)]
theorem any_tIs (x : List Int) : ∀ S : List (List Int), ((S.map tI).any fun d => eqD d (tI x)) = decide (x ∈ S)
  | [] => rfl
  | y :: S => by
    rw [List.map_cons, List.any_cons, any_tIs x S, eqD_tI]
    by_cases h : y = x
    · subst h; simp
    · rw [decide_eq_false h, Bool.false_or]
      by_cases h2 : x ∈ S
      · rw [decide_eq_true h2, decide_eq_true (List.mem_cons_of_mem _ h2)]
      · rw [decide_eq_false h2, decide_eq_false (fun z => (List.mem_cons.mp z).elim (fun e => h e.symm) h2)]
/-- entry > 0 and place not in s -/
def freeD (s : List Int) : DV → Bool
  | .tup [.int i, .int e] => decide (0 < e) && !decide (i ∈ s)
  | _ => false
theorem freeD_at (s m : List Int) : ((enD (m.map DV.int)).any (freeD s)) = freeM s m := by
  rw [en_ints14, List.any_map]
  rfl
/-- the sign of entries above 0 whose place is not in s: [1 for ..] -/
theorem free_nilB (s m : List Int) (f : DV → DV) : decide ((((enD (m.map DV.int)).filter (freeD s)).map f).length = 0) = !freeM s m := by
  rw [List.length_map, ← freeD_at]
  cases h : (enD (m.map DV.int)).any (freeD s) with
  | true =>
    obtain ⟨d, hd, hf⟩ := List.any_eq_true.mp h
    exact decide_eq_false fun z => by
      have := List.length_eq_zero_iff.mp z
      have hm := List.mem_filter.mpr ⟨hd, hf⟩
      rw [this] at hm; cases hm
  | false =>
    refine decide_eq_true (List.length_eq_zero_iff.mpr (List.filter_eq_nil_iff.mpr fun d hd hf => ?_))
    have := List.any_eq_false.mp h d hd
    exact this hf
def ltLen (k : Int) : DV → Bool
  | .tup ds => decide ((ds.length : Int) < k)
  | _ => false
def eqLen (k : Int) : DV → Bool
  | .tup ds => decide ((ds.length : Int) = k)
  | _ => false
def endT (n : Int) : DV → DV
  | .tup ds => .tup (ds ++ [.int n])
  | d => d
theorem endT_tI (n : Int) (x : List Int) : endT n (tI x) = tI (x ++ [n]) := by
  show DV.tup (x.map DV.int ++ [.int n]) = .tup ((x ++ [n]).map DV.int)
  rw [List.map_append]; rfl
theorem fil_tIs {p : DV → Bool} {q : List Int → Bool} (h : ∀ x, p (tI x) = q x) (L : List (List Int)) : (L.map tI).filter p = (L.filter q).map tI := by
  rw [filter_map']
  congr 1
  exact List.filter_congr fun x _ => h x
theorem map_tIs {f : DV → DV} {q : List Int → List Int} (h : ∀ x, f (tI x) = tI (q x)) (L : List (List Int)) : (L.map tI).map f = (L.map q).map tI := by
  rw [List.map_map, List.map_map]
  exact List.map_congr_left fun x _ => h x
theorem setsK_D (k n : Nat) : (setsK k n).map tI ++ (((setsK k n).map tI).filter (ltLen (k : Int))).map (endT (n : Int)) = (setsK k (n + 1)).map tI := by
  rw [fil_tIs (q := fun s => decide (s.length < k)), map_tIs (q := fun s => s ++ [(n : Int)]) (endT_tI _), ← List.map_append]
  · rfl
  · intro x
    show decide (((x.map DV.int).length : Int) < k) = _
    rw [List.length_map]
    exact decide_eq_decide.mpr (by omega)
theorem setsE_D (n k : Nat) : (((setsK k n).map tI).filter (eqLen (k : Int))).map (fun d => d) = (setsE n k).map tI := by
  rw [List.map_id', fil_tIs (q := fun s => decide (s.length = k)), setsE_is]
  intro x
  show decide (((x.map DV.int).length : Int) = k) = _
  rw [List.length_map]
  exact decide_eq_decide.mpr (by omega)
theorem setsL_D (n : Nat) : (setsL n).map tI ++ ((setsL n).map tI).map (endT (n : Int)) = (setsL (n + 1)).map tI := by
  rw [map_tIs (q := fun s => s ++ [(n : Int)]) (endT_tI _), ← List.map_append]
  rfl
theorem setsK_le {k n : Nat} (h : n ≤ 8) : (setsK k n).length ≤ 256 := Nat.le_trans setsK_len (Nat.le_trans (Nat.pow_le_pow_right (by decide) h) (by decide))
theorem setsK_each {k n : Nat} {x : List Int} (h : x ∈ setsK k n) : x.length ≤ n := by
  rw [setsK_is] at h
  exact sets_len_le (List.mem_filter.mp h).1
theorem fsK_step {n k : Nat} {M : List (List Int)} (h : (setsE n k).find? (freeB M) = none) : fsK n M (k + 1) = fsK n M k := by rw [fsK, h]; rfl
theorem fsK_hit {n k : Nat} {M : List (List Int)} {s : List Int} (h : (setsE n k).find? (freeB M) = some s) : fsK n M (k + 1) = some s := by rw [fsK, h]; rfl
theorem wi_all (n : Nat) (s : List Int) : ((s.map DV.int).all (isWi 0 ((n : Int) - 1))) = s.all fun x => decide (0 ≤ x) && decide (x ≤ (n : Int) - 1) := by
  rw [List.all_map]
  rfl
theorem lt_asc : ∀ s : List Int, ((zipD (s.map DV.int) ((s.drop 1).map DV.int)).all ltD) = ascI s
  | [] => rfl
  | [x] => rfl
  | x :: y :: r => by
    have ih := lt_asc (y :: r)
    show (decide (x < y) && (zipD ((y :: r).map DV.int) (((y :: r).drop 1).map DV.int)).all ltD) = _
    rw [ih]
    rfl
theorem one_map (ds : List DV) : (ds.map fun _ => DV.int 1) = (ds.map fun _ => (1 : Int)).map DV.int := by rw [List.map_map]; rfl
theorem okD_ones14 (ds : List DV) : okD (.lst (ds.map fun _ => DV.int 1)) = true := by rw [one_map]; exact okD_lI _
theorem ones_free (s m : List Int) : eqD (.lst (((enD (m.map DV.int)).filter (freeD s)).map fun _ => DV.int 1)) (.lst []) = !freeM s m := by
  rw [eqD_nilL, ← free_nilB s m (fun _ => DV.int 1)]
  cases ((enD (m.map DV.int)).filter (freeD s)).map fun _ => DV.int 1 <;> simp
theorem free_in {M : List (List Int)} {s m : List Int} {i : Nat} (h : freeB (M.take i) s = true) (hm : M[i]? = some m) (hf : freeM s m = true) : freeB (M.take (i + 1)) s = true := by
  unfold freeB at h ⊢
  rw [List.take_add_one, hm, List.all_append, h]
  show (true && (freeM s m && true)) = true
  rw [hf]; rfl
theorem free_out {M : List (List Int)} {s m : List Int} {i : Nat} (hm : M[i]? = some m) (hf : freeM s m = false) : freeB M s = false := by
  unfold freeB
  rw [← Bool.not_eq_true, List.all_eq_true]
  intro h
  rw [h m (List.mem_of_getElem? hm)] at hf
  cases hf
/-! ### the law's side -/
def lenD : DV → DV
  | .tup ds => .int (ds.length : Int)
  | d => d
theorem lens_tIs (F : List (List Int)) : (F.map tI).map lenD ++ [DV.int (-1)] = (F.map (fun s : List Int => (s.length : Int)) ++ [-1]).map DV.int := by
  rw [List.map_append, List.map_map, List.map_map]
  congr 1
  refine List.map_congr_left fun x _ => ?_
  show DV.int ((x.map DV.int).length : Int) = .int (x.length : Int)
  rw [List.length_map]
theorem leastL_two (G : List (List Int)) : leastL (leastL G) = leastL G := (leastL_is (leastL G)).uniq (least_self (leastL_is G))
theorem pick123 {d : DV} (h : d ∈ [DV.int 1, .int 2, .int 3]) : ∃ t : Int, d = .int t ∧ 1 ≤ t ∧ t ≤ 3 := by
  simp only [List.mem_cons, List.not_mem_nil, or_false] at h
  rcases h with h | h | h
  · exact ⟨1, h, by decide, by decide⟩
  · exact ⟨2, h, by decide, by decide⟩
  · exact ⟨3, h, by decide, by decide⟩
/-- the values that are judged -/
def OkV (z : Int) (d : DV) : Prop := (∃ s : List Int, d = tI s ∧ s.length ≤ 100) ∨ (d = .tup [.bl true] ∧ z = 0) ∨ d = .non ∨ d = .int 0 ∨ (∃ s : List Int, d = .lst (s.map DV.int)) ∨ d = .str "" ∨ d = .dK [] []
theorem OkV.ty {z : Int} {d : DV} {g : DG} (h : OkV z d) : (∃ s : List Int, d = tI s ∧ s.length ≤ 100) ∨ (d = .tup [.bl true] ∧ z = 0) ∨ ∃ s, tyNm g d = some s ∧ isiN s "tuple" = some false := by
  rcases h with h | h | h | h | ⟨s, h⟩ | h | h
  · exact .inl h
  · exact .inr (.inl h)
  all_goals subst h; exact .inr (.inr ⟨_, rfl, rfl⟩)
theorem OkV.tup {z : Int} {s : List Int} (h : s.length ≤ 100) : OkV z (tI s) := .inl ⟨s, rfl, h⟩
theorem atI_last (s : List Int) (h : s ≠ []) : atI (s.map DV.int) (-1) = some (.int (s.getLast h)) := by
  have hl : 0 < s.length := List.length_pos_iff.mpr h
  have e : ixN (s.map DV.int).length (-1) = some (s.length - 1) := by
    unfold ixN
    rw [List.length_map]
    simp only [show ¬ (0 : Int) ≤ -1 by decide, if_false]
    first
      | (rw [if_pos (by omega)]; congr 1; omega)
      | (rw [if_neg (by omega)]; congr 1; omega)
      | (split <;> first | (congr 1; omega) | omega)
  unfold atI
  rw [e]
  show (s.map DV.int)[s.length - 1]? = _
  rw [List.getElem?_map, List.getElem?_eq_getElem (by omega), List.getLast_eq_getElem]
  rfl
theorem fs_lt {n : Nat} {M : List (List Int)} {s : List Int} (h : fsI n M = some s) : s.length ≤ n := sets_len_le (fsI_some h).1
theorem isFs_self {n : Nat} {M : List (List Int)} {s : List Int} (h : fsI n M = some s) : isFs n M s = true := by
  obtain ⟨h1, h2, _⟩ := fsI_some h
  unfold isFs dimI
  rw [mem_sets.mp h1, h, h2]
  simp
theorem cutD_mem {ds : List DV} {lo hi : Option Int} : ∀ d ∈ cutD ds lo hi, d ∈ ds := fun d hd => by
  unfold cutD at hd
  exact List.mem_of_mem_drop (List.mem_of_mem_take hd)
theorem cutD_le {ds : List DV} {lo hi : Option Int} : (cutD ds lo hi).length ≤ ds.length := by
  unfold cutD
  rw [List.length_take, List.length_drop]
  omega
theorem okV_list {z : Int} {S : List Int} {n : Nat} {d7 : DV} (hS : S.length ≤ 8) (hn : n ≤ 8) (h7 : OkV z d7) : ∀ d ∈ [DV.non, .int 0, .lst (S.map DV.int), .tup (S.map DV.int ++ [.int 0]), .tup (cutD (S.map DV.int) (some 1) none), .tup (S.map DV.int ++ [.int (n : Int)]), d7, .tup [.int 0, .int 0], .str "", .dK [] []] ++ cutD ((setsL n).map tI) none (some 64) ++ [.tup (S.map DV.int).reverse, .tup [.int (0 - 1)], .tup (rangeD 0 (n : Int).toNat)], OkV z d := by
  have tp : ∀ x : List Int, x.length ≤ 100 → ∀ d, d = tI x → OkV z d := fun x hx d e => by rw [e]; exact .tup hx
  intro d hd
  rcases List.mem_append.mp hd with hd | hd
  · rcases List.mem_append.mp hd with hd | hd
    · simp only [List.mem_cons, List.not_mem_nil, or_false] at hd
      rcases hd with e | e | e | e | e | e | e | e | e | e
      · exact .inr (.inr (.inl e))
      · exact .inr (.inr (.inr (.inl e)))
      · exact .inr (.inr (.inr (.inr (.inl ⟨S, e⟩))))
      · exact tp (S ++ [0]) (by rw [List.length_append]; show _ + 1 ≤ _; omega) d (by rw [e, tI, List.map_append]; rfl)
      · exact tp (S.drop 1) (by rw [List.length_drop]; omega) d (by rw [e, show (1 : Int) = ((1 : Nat) : Int) from rfl, cutD_from, ← List.map_drop])
      · exact tp (S ++ [(n : Int)]) (by rw [List.length_append]; show _ + 1 ≤ _; omega) d (by rw [e, tI, List.map_append]; rfl)
      · rw [e]; exact h7
      · exact tp [0, 0] (by decide) d e
      · exact .inr (.inr (.inr (.inr (.inr (.inl e)))))
      · exact .inr (.inr (.inr (.inr (.inr (.inr e)))))
    · obtain ⟨x, hx, e⟩ := tI_mem (cutD_mem d hd)
      have := sets_len_le hx
      exact tp x (by omega) d e
  · simp only [List.mem_cons, List.not_mem_nil, or_false] at hd
    rcases hd with e | e | e
    · exact tp S.reverse (by rw [List.length_reverse]; omega) d (by rw [e, tI, List.map_reverse])
    · exact tp [0 - 1] (by decide) d e
    · exact tp ((List.range n).map fun (i : Nat) => (i : Int)) (by rw [List.length_map, List.length_range]; omega) d (by
        rw [e, Int.toNat_natCast, tI, List.map_map]
        unfold rangeD
        congr 1
        exact List.map_congr_left fun i _ => by show DV.int (0 + (i : Int)) = .int (i : Int); rw [Int.zero_add])
theorem okD_blB (b : Bool) : okD (.bl b) = true := by cases b <;> decide +kernel
theorem rd_neB {b : Bool} {g : DG} {P : DV → Prop} (k : P (.bl false)) : rrNe (.bl b) (.bl b) g P := ⟨okD_blB b, okD_blB b, by rw [show eqD (.bl b) (.bl b) = true by cases b <;> decide +kernel]; exact k⟩
def eF : List (List Int) := [[1, 1, 0, 0], [0, 1, 1, 0], [0, 0, 1, 1]]
def eF' : List (List Int) := [[0, 0, 1, 1], [0, 1, 1, 0], [1, 1, 0, 0]]
theorem eF_pr : Prods 4 8 eF := by unfold Prods eF; decide
theorem eF_is : leastL eF = eF' := leastL_eq (by decide +kernel)
def eH : List (List Int) := [[2, 0], [0, 3]]
def eH' : List (List Int) := [[0, 3], [2, 0]]
theorem eH_pr : Prods 2 8 eH := by unfold Prods eH; decide
theorem eH_is : leastL eH = eH' := leastL_eq (by decide +kernel)
theorem eF60 : Prods 4 60 eF' := by unfold Prods eF'; decide
theorem eH60 : Prods 2 60 eH' := by unfold Prods eH'; decide
theorem eF_a : isFs 4 eF' [0, 2] = true := by decide +kernel
theorem eF_b : isFs 4 eF' [0, 1] = false := by decide +kernel
theorem eH_a : isFs 2 eH' [] = true := by decide +kernel
theorem nil_fs : fsI 3 [] = some [0, 1, 2] := by decide +kernel
theorem nil_is14 : leastL [] = [] := leastL_eq (by decide +kernel)
theorem nil_pr14 (n : Nat) (B : Int) : Prods n B [] := fun m hm => by cases hm
end DL

namespace DL
open PySem L2 LamX

def topS (i : Nat) : Stmt := PySem.Challenge.pw_pureladders_k14_whole_free_sets.main.body.getD i (.Pass ⟨0, 0, 0, 0⟩)
abbrev TT (tb_free_set_in : Addr) : List (Addr × Str) := [(tb_free_set_in, ("free_set_in" ++ ".<locals>.") ++ "<genexpr>")]
theorem tt_free_set_in {tb_free_set_in : Addr} {g : DG} (h : TbG (TT tb_free_set_in) g) : g tb_free_set_in = some (.tbl (("free_set_in" ++ ".<locals>.") ++ "<genexpr>")) := h.all (tb_free_set_in, _) (by simp)
structure Txt (P : Program) (K : Fg) (mg : Str → Option Value) (t_ALL t_MAX_EXPONENT t_MAX_LETTERS t_MAX_MEMBERS t_MAX_MEMBER_EXPONENT t_MAX_PASSED : Tok) (c_KeptMembers c_Lot c_Refused tb_free_set_in : Addr) : Prop where
  b_abs : mg "abs" = none
  b_all : mg "all" = none
  b_any : mg "any" = none
  b_bool : mg "bool" = none
  b_enumerate : mg "enumerate" = none
  b_int : mg "int" = none
  b_isinstance : mg "isinstance" = none
  b_len : mg "len" = none
  b_list : mg "list" = none
  b_max : mg "max" = none
  b_min : mg "min" = none
  b_next : mg "next" = none
  b_range : mg "range" = none
  b_set : mg "set" = none
  b_sorted : mg "sorted" = none
  b_sum : mg "sum" = none
  b_tuple : mg "tuple" = none
  b_zip : mg "zip" = none
  c_ALL : mg "ALL" = some (.str "all" t_ALL)
  c_MAX_EXPONENT : mg "MAX_EXPONENT" = some (.int 60 t_MAX_EXPONENT)
  c_MAX_LETTERS : mg "MAX_LETTERS" = some (.int 8 t_MAX_LETTERS)
  c_MAX_MEMBERS : mg "MAX_MEMBERS" = some (.int 24 t_MAX_MEMBERS)
  c_MAX_MEMBER_EXPONENT : mg "MAX_MEMBER_EXPONENT" = some (.int 8 t_MAX_MEMBER_EXPONENT)
  c_MAX_PASSED : mg "MAX_PASSED" = some (.int 200 t_MAX_PASSED)
  g_KeptMembers : mg "KeptMembers" = some (.ref c_KeptMembers)
  F_KeptMembers : ClsF K c_KeptMembers
  g_Lot : mg "Lot" = some (.ref c_Lot)
  F_Lot : ClsF K c_Lot
  s_KeptMembers_own_members : ∃ p, SlX.Slot1 K c_KeptMembers "own_members" p 0
  s_Lot_own_letters : ∃ p, SlX.Slot1 K c_Lot "own_letters" p 0
  s_Lot_own_members : ∃ p, SlX.Slot1 K c_Lot "own_members" p 1
  xg_Refused : mg "Refused" = some (.ref c_Refused)
  X_Refused : ∃ fI, SupF P K mg c_Refused fI (inClass (topS 8) 0) "ArithmeticError" "ArithmeticError.__new__" "ArithmeticError.__init__" [.type "ArithmeticError", .type "Exception", .type "BaseException", .type "object"] "reason"
  xm_Refused_Refused : PySem.W.exmOne K (.ref c_Refused) (.ref c_Refused) = some true
  XF_Refused : XfC K c_Refused
  xn_Refused_reason : PySem.W.findIn K (.ref c_Refused) "reason" = some none
abbrev s_xRefused : Stmt := inClass (topS 8) 0
theorem tx_Refused : SupT s_xRefused "reason" := ⟨_, _, _, _, _, _, _, _, _, _, _, _, _, _, _, _, rfl, fun _ => rfl, rfl, rfl, fun _ _ _ _ _ _ _ _ _ _ _ => .of_eq rfl, rfl, rfl, rfl, rfl, by decide, by decide, by decide, by decide +kernel⟩

abbrev s_is_whole : Stmt := topS 10
abbrev N_is_whole : List Str := ["value"]
theorem sc_is_whole : FnScope N_is_whole ["value"] (defScope s_is_whole) := ⟨rfl, rfl, rfl, by decide +kernel, rfl, by decide +kernel, by decide +kernel⟩
abbrev sp_is_whole (c_KeptMembers c_Lot c_Refused tb_free_set_in : Addr) : SpD :=
  sp1 fun a g P => (∃ i : Int, a = .int i ∧ P (.bl true) g) ∨ (a.pl = true ∧ P (.bl (isW a)) g)

local macro_rules | `(tactic| walk_at "rr1") => `(tactic| (repeat (first | (with_reducible first | refine rd_seq ?_ | refine rd_seqE ?_ | refine rd_next ?_ | refine rd_rtE ?_ | refine rd_nxE ?_ | refine rd_nx ?_ | refine rd_rt ?_ | refine rd_drop ?_ | refine rd_ret ?_ | refine rd_c ?_ | refine rd_op ?_ | refine rd_b ?_ | refine rd_bK ?_ | refine rd_andV ?_ | refine rd_notV ?_ | refine rd_tvKb ?_ | refine rd_nil ?_ | refine rd_cons ?_ | refine rd_cb ?_ | refine rd_call ?_ | refine rd_sp1 ?_ | refine rd_sp2 ?_ | refine rd_sp3 ?_ | refine rd_int ?_ | refine rd_intb ?_ | refine rd_itet ?_ | refine rd_itef ?_ | refine rd_itnt ?_ | refine rd_itnf ?_) | ((with_reducible apply rd_var); (· exact rfl)))))
theorem ok_is_whole {P : Program} {w : World} {K : Fg} {mg : Str → Option Value} {base : Heap} {t_ALL t_MAX_EXPONENT t_MAX_LETTERS t_MAX_MEMBERS t_MAX_MEMBER_EXPONENT t_MAX_PASSED : Tok} {c_KeptMembers c_Lot c_Refused tb_free_set_in : Addr} {f : Addr} {fd : FuncData} (D : Dfn K mg "is_whole" s_is_whole ["value"] f fd) (T : Txt P K mg t_ALL t_MAX_EXPONENT t_MAX_LETTERS t_MAX_MEMBERS t_MAX_MEMBER_EXPONENT t_MAX_PASSED c_KeptMembers c_Lot c_Refused tb_free_set_in) :
    FnOk P w K mg base CX0 1 f fd ["value"] (upSp K (sp_is_whole c_KeptMembers c_Lot c_Refused tb_free_set_in)) := by
  refine fun_okD D.fn sc_is_whole (fun ds g Q h => len1 h) (fun cdv A outer s H E hr => ⟨_, (pds_one (pds_ret (pd_and (pd_callB call_isiY ref_isi T.b_isinstance (by decide +kernel) (pda_cons (pdv 0) (pda_cons (pd_ty (n := "int") T.b_int (by decide +kernel)) pda_nil))) (pd_one (pd_not (pd_callB call_isiY ref_isi T.b_isinstance (by decide +kernel) (pda_cons (pdv 0) (pda_cons (pd_ty (n := "bool") T.b_bool (by decide +kernel)) pda_nil)))))))), ?_⟩)
  intro ds g Q h
  obtain ⟨a0, rfl, h⟩ := sp1_of h
  rw [show startD N_is_whole [a0] = [some a0] from rfl]
  rcases h with ⟨i, e1, k⟩ | ⟨hp, k⟩
  · subst e1
    walk_at "rr1"
    refine rd_isi (s := "int") (k := true) rfl rfl ?_
    walk_at "rr1"
    refine rd_isi (s := "int") (k := false) rfl rfl ?_
    walk_at "rr1"
    exact dret k
  · cases a0 <;> first | cases hp; done | skip
    all_goals simp [rrNeg, dSeq, dNext, dDrop, dRet, dRetN, dIf, dAsg, bindT, setAll, dPar, dFor, dVar, dC, dOp, dB, dChain, dTru, dAnd, dOr, dNot, dAndV, dOrV, dNotV, dIfE, dUn, dNil, dCons, dTup, dLst, dLstM, dCB, dCall, ixD, optD, wSeq, wRng1, wRng2, wRngD, wZip, one1, one2, one3, dLc, dLcM, dYes, dMt, dMt0, rmAppend, rmExtend, rmPop, atL, dSetI, dSl, dPart, dNoPart, dStar, rr1, rr2, rrLen, rrInt, rrAbs, rrII, rrSum, rrBs, rrTuple, rrList, rrSorted, rrIsi, rrAdd, rrI, rrCmp, rrEq, rrNe, rrIsN, rrNotN, nth, truD, seqD, lstD, seqP, tyNm, isiN, dEnds, List.set, wipeD, gup_same, dFz, dWhile, dNever, dBreak, dCont, atI_c0, atI_c1, atI_c2, ixN_30, ixN_31, ixN_32, List.length_cons, List.length_nil, Nat.zero_add, Nat.reduceAdd, decide_eq_true_eq]
    all_goals exact dret k

abbrev s_is_within : Stmt := topS 11
abbrev N_is_within : List Str := ["value", "least", "greatest"]
theorem sc_is_within : FnScope N_is_within ["value", "least", "greatest"] (defScope s_is_within) := ⟨rfl, rfl, rfl, by decide +kernel, rfl, by decide +kernel, by decide +kernel⟩
abbrev sp_is_within (c_KeptMembers c_Lot c_Refused tb_free_set_in : Addr) : SpD :=
  sp3 fun a b c g P => (∃ i lo hi : Int, a = .int i ∧ b = .int lo ∧ c = .int hi ∧ lo ≤ i ∧ i ≤ hi ∧ P (.bl true) g) ∨ (a.pl = true ∧ ∃ lo hi : Int, b = .int lo ∧ c = .int hi ∧ P (.bl (isWi lo hi a)) g)

local macro_rules | `(tactic| walk_at "rr2") => `(tactic| (repeat (first | (with_reducible first | refine rd_seq ?_ | refine rd_seqE ?_ | refine rd_next ?_ | refine rd_rtE ?_ | refine rd_nxE ?_ | refine rd_nx ?_ | refine rd_rt ?_ | refine rd_drop ?_ | refine rd_ret ?_ | refine rd_c ?_ | refine rd_op ?_ | refine rd_b ?_ | refine rd_bK ?_ | refine rd_andV ?_ | refine rd_tvKb ?_ | refine rd_nil ?_ | refine rd_cons ?_ | refine rd_cb ?_ | refine rd_call ?_ | refine rd_sp1 ?_ | refine rd_sp2 ?_ | refine rd_sp3 ?_ | refine rd_cmp ?_ | refine rd_chain ?_ | refine rd_chnK ?_ | refine rd_itet ?_ | refine rd_itef ?_ | refine rd_itnt ?_ | refine rd_itnf ?_) | ((with_reducible apply rd_var); (· exact rfl)))))
theorem ok_is_within {P : Program} {w : World} {K : Fg} {mg : Str → Option Value} {base : Heap} {t_ALL t_MAX_EXPONENT t_MAX_LETTERS t_MAX_MEMBERS t_MAX_MEMBER_EXPONENT t_MAX_PASSED : Tok} {c_KeptMembers c_Lot c_Refused tb_free_set_in : Addr} {f f_is_whole : Addr} {fd d_is_whole : FuncData} (D : Dfn K mg "is_within" s_is_within ["value", "least", "greatest"] f fd) (T : Txt P K mg t_ALL t_MAX_EXPONENT t_MAX_LETTERS t_MAX_MEMBERS t_MAX_MEMBER_EXPONENT t_MAX_PASSED c_KeptMembers c_Lot c_Refused tb_free_set_in) (D_is_whole : Dfn K mg "is_whole" s_is_whole ["value"] f_is_whole d_is_whole) (G_is_whole : FnOk P w K mg base CX0 1 f_is_whole d_is_whole ["value"] (upSp K (sp_is_whole c_KeptMembers c_Lot c_Refused tb_free_set_in))) :
    FnOk P w K mg base CX0 2 f fd ["value", "least", "greatest"] (upSp K (sp_is_within c_KeptMembers c_Lot c_Refused tb_free_set_in)) := by
  refine fun_okD D.fn sc_is_within (fun ds g Q h => len3 h) (fun cdv A outer s H E hr => ⟨_, (pds_one (pds_ret (pd_and (pd_call G_is_whole (hr.mono (by decide)) D_is_whole.at_ D_is_whole.fn.kp D_is_whole.bd pass0 (pda_cons (pdv 0) pda_nil)) (pd_one (pd_chain op_le ref_cmp op_le ref_cmp (pdv 1) (pdv 0) (pdv 2)))))), ?_⟩)
  intro ds g Q h
  obtain ⟨a0, a1, a2, rfl, h⟩ := sp3_of h
  rw [show startD N_is_within [a0, a1, a2] = [some a0, some a1, some a2] from rfl]
  rcases h with ⟨i, lo, hi, e1, e2, e3, h1, h2, k⟩ | ⟨hp, lo, hi, e1, e2, k⟩
  · subst e1 e2 e3
    walk_at "rr2"
    refine .inl ⟨i, rfl, ?_⟩
    walk_at "rr2"
    rw [if_pos (decide_eq_true h1)]
    walk_at "rr2"
    rw [decide_eq_true h2]
    exact dret k
  · subst e1 e2
    simp only [rrNeg, dSeq, dNext, dDrop, dRet, dRetN, dIf, dAsg, bindT, setAll, dPar, dFor, dVar, dC, dOp, dB, dChain, dTru, dAnd, dOr, dNot, dAndV, dOrV, dNotV, dIfE, dUn, dNil, dCons, dTup, dLst, dLstM, dCB, dCall, ixD, optD, wSeq, wRng1, wRng2, wRngD, wZip, one1, one2, one3, dLc, dLcM, dYes, dMt, dMt0, rmAppend, rmExtend, rmPop, atL, dSetI, dSl, dPart, dNoPart, dStar, rr1, rr2, rrLen, rrInt, rrAbs, rrII, rrSum, rrBs, rrTuple, rrList, rrSorted, rrIsi, rrAdd, rrI, rrCmp, rrEq, rrNe, rrIsN, rrNotN, nth, truD, seqD, lstD, seqP, tyNm, isiN, dEnds, List.set, wipeD, gup_same, dFz, dWhile, dNever, dBreak, dCont, atI_c0, atI_c1, atI_c2, ixN_30, ixN_31, ixN_32, List.length_cons, List.length_nil, Nat.zero_add, Nat.reduceAdd, decide_eq_true_eq, sp_is_whole, sp1]
    refine .inr ⟨hp, ?_⟩
    cases a0 <;> simp only [isW]
    case int i =>
      by_cases c : lo ≤ i
      · simpa [isWi, c] using dret k
      · simpa [isWi, c] using dret k
    all_goals exact dret k

abbrev s_require_within : Stmt := topS 12
abbrev N_require_within : List Str := ["value", "least", "greatest"]
theorem sc_require_within : FnScope N_require_within ["value", "least", "greatest"] (defScope s_require_within) := ⟨rfl, rfl, rfl, by decide +kernel, rfl, by decide +kernel, by decide +kernel⟩
abbrev sp_require_within (c_KeptMembers c_Lot c_Refused tb_free_set_in : Addr) : SpD :=
  sp3 fun a b c g P => ∃ i lo hi : Int, a = .int i ∧ b = .int lo ∧ c = .int hi ∧ lo ≤ i ∧ i ≤ hi ∧ P .non g

local macro_rules | `(tactic| walk_at "rr3") => `(tactic| (repeat (first | (with_reducible first | refine rd_seq ?_ | refine rd_seqE ?_ | refine rd_next ?_ | refine rd_rtE ?_ | refine rd_nxE ?_ | refine rd_nx ?_ | refine rd_rt ?_ | refine rd_drop ?_ | refine rd_ret ?_ | refine rd_dif ?_ | refine rd_c ?_ | refine rd_op ?_ | refine rd_b ?_ | refine rd_bK ?_ | refine rd_tru ?_ | refine rd_tKb ?_ | refine rd_not ?_ | refine rd_nil ?_ | refine rd_cons ?_ | refine rd_cb ?_ | refine rd_call ?_ | refine rd_sp1 ?_ | refine rd_sp2 ?_ | refine rd_sp3 ?_ | refine rd_itet ?_ | refine rd_itef ?_ | refine rd_itnt ?_ | refine rd_itnf ?_) | ((with_reducible apply rd_var); (· exact rfl)))))
theorem ok_require_within {P : Program} {w : World} {K : Fg} {mg : Str → Option Value} {base : Heap} {t_ALL t_MAX_EXPONENT t_MAX_LETTERS t_MAX_MEMBERS t_MAX_MEMBER_EXPONENT t_MAX_PASSED : Tok} {c_KeptMembers c_Lot c_Refused tb_free_set_in : Addr} {f f_is_within : Addr} {fd d_is_within : FuncData} (D : Dfn K mg "require_within" s_require_within ["value", "least", "greatest"] f fd) (T : Txt P K mg t_ALL t_MAX_EXPONENT t_MAX_LETTERS t_MAX_MEMBERS t_MAX_MEMBER_EXPONENT t_MAX_PASSED c_KeptMembers c_Lot c_Refused tb_free_set_in) (D_is_within : Dfn K mg "is_within" s_is_within ["value", "least", "greatest"] f_is_within d_is_within) (G_is_within : FnOk P w K mg base CX0 2 f_is_within d_is_within ["value", "least", "greatest"] (upSp K (sp_is_within c_KeptMembers c_Lot c_Refused tb_free_set_in))) :
    FnOk P w K mg base CX0 3 f fd ["value", "least", "greatest"] (upSp K (sp_require_within c_KeptMembers c_Lot c_Refused tb_free_set_in)) := by
  refine fun_okD D.fn sc_require_within (fun ds g Q h => len3 h) (fun cdv A outer s H E hr => ⟨_, (pds_one (pds_if (pt_notD (pt_truD (pd_call G_is_within (hr.mono (by decide)) D_is_within.at_ D_is_within.fn.kp D_is_within.bd pass0 (pda_cons (pdv 0) (pda_cons (pdv 1) (pda_cons (pdv 2) pda_nil)))))) (pds_one pds_never) pds_nil)), ?_⟩)
  intro ds g Q h
  obtain ⟨a0, a1, a2, rfl, h⟩ := sp3_of h
  rw [show startD N_require_within [a0, a1, a2] = [some a0, some a1, some a2] from rfl]
  obtain ⟨i, lo, hi, e1, e2, e3, h1, h2, k⟩ := h
  subst e1 e2 e3
  walk_at "rr3"
  refine .inl ⟨i, lo, hi, rfl, rfl, rfl, h1, h2, ?_⟩
  walk_at "rr3"
  exact dret k

abbrev s_is_product_in : Stmt := topS 16
abbrev N_is_product_in : List Str := ["letters", "value", "exponent"]
theorem sc_is_product_in : FnScope N_is_product_in ["letters", "value"] (defScope s_is_product_in) := ⟨rfl, rfl, rfl, by decide +kernel, rfl, by decide +kernel, by decide +kernel⟩
abbrev sp_is_product_in (c_KeptMembers c_Lot c_Refused tb_free_set_in : Addr) : SpD :=
  sp2 fun a b g P => ∃ (n : Nat) (xs : List Int), a = .int (n : Int) ∧ b = tI xs ∧ xs.length = n ∧ n ≤ 8 ∧ (∀ x ∈ xs, 0 ≤ x ∧ x ≤ 60) ∧ P (.bl true) g

local macro_rules | `(tactic| walk_at "rr4") => `(tactic| (repeat (first | (with_reducible first | refine rd_seq ?_ | refine rd_seqE ?_ | refine rd_next ?_ | refine rd_rtE ?_ | refine rd_nxE ?_ | refine rd_nx ?_ | refine rd_rt ?_ | refine rd_drop ?_ | refine rd_ret ?_ | refine rd_dif ?_ | refine rd_c ?_ | refine rd_op ?_ | refine rd_b ?_ | refine rd_bK ?_ | refine rd_tru ?_ | refine rd_tKb ?_ | refine rd_or ?_ | refine rd_not ?_ | refine rd_nil ?_ | refine rd_cons ?_ | refine rd_cb ?_ | refine rd_call ?_ | refine rd_sp1 ?_ | refine rd_sp2 ?_ | refine rd_sp3 ?_ | refine rd_lc ?_ | refine rd_yes ?_ | refine rd_wseq ?_ | refine rd_wsT ?_ | refine rd_wsL ?_ | refine rd_wsS ?_ | refine rd_itet ?_ | refine rd_itef ?_ | refine rd_itnt ?_ | refine rd_itnf ?_) | ((with_reducible apply rd_var); (· exact rfl)) | ((with_reducible apply rd_len); (· (first | assumption | exact seqD_ref (by assumption) | exact seqD_up | exact lstD_ref (by assumption) | exact lstD_up | rfl))))))
theorem ok_is_product_in {P : Program} {w : World} {K : Fg} {mg : Str → Option Value} {base : Heap} {t_ALL t_MAX_EXPONENT t_MAX_LETTERS t_MAX_MEMBERS t_MAX_MEMBER_EXPONENT t_MAX_PASSED : Tok} {c_KeptMembers c_Lot c_Refused tb_free_set_in : Addr} {f f_is_within : Addr} {fd d_is_within : FuncData} (D : Dfn K mg "is_product_in" s_is_product_in ["letters", "value"] f fd) (T : Txt P K mg t_ALL t_MAX_EXPONENT t_MAX_LETTERS t_MAX_MEMBERS t_MAX_MEMBER_EXPONENT t_MAX_PASSED c_KeptMembers c_Lot c_Refused tb_free_set_in) (D_is_within : Dfn K mg "is_within" s_is_within ["value", "least", "greatest"] f_is_within d_is_within) (G_is_within : FnOk P w K mg base CX0 2 f_is_within d_is_within ["value", "least", "greatest"] (upSp K (sp_is_within c_KeptMembers c_Lot c_Refused tb_free_set_in))) :
    FnOk P w K mg base CX0 3 f fd ["letters", "value"] (upSp K (sp_is_product_in c_KeptMembers c_Lot c_Refused tb_free_set_in)) := by
  refine fun_okD D.fn sc_is_product_in (fun ds g Q h => len2 h) (fun cdv A outer s H E hr => ⟨_, (pds_cons (pds_if (pwd_pt (pwd_or (pt_notD (pt_truD (pd_callB call_isiY ref_isi T.b_isinstance (by decide +kernel) (pda_cons (pdv 1) (pda_cons (pd_ty (n := "tuple") T.b_tuple (by decide +kernel)) pda_nil))))) (pwd_or1 (pt_cmpD (op_neD hr.units) (RefCmp.op ref_ne) (pd_callB call_len_seq ref_len T.b_len (by decide +kernel) (pda_cons (pdv 1) pda_nil)) (pdv 0) (nomark _))))) (pds_one (pds_ret pd_bl)) pds_nil) (pds_one (pds_ret (pd_callB (cr_all rfl) ref_bs T.b_all (by decide +kernel) (pda_cons (pd_lc (own := [("exponent", 2)]) (tg := .nm 2) rfl sc_is_product_in.nd (pid_seq (pdv 1)) (blkOk_by (own := [("exponent", 2)]) (N := N_is_product_in) (sc := defScope s_is_product_in) (by decide +kernel)) (fun _ _ _ _ _ => (pgd_nm (i := 2) sc_is_product_in.nd)) (fun _ _ _ _ _ => ptsd_nil) (fun _ _ _ _ _ => (pd_call G_is_within (hr.mono (by decide)) D_is_within.at_ D_is_within.fn.kp D_is_within.bd pass0 (pda_cons (pdv 2) (pda_cons pd_int (pda_cons (pd_globI T.c_MAX_EXPONENT) pda_nil)))))) pda_nil))))), ?_⟩)
  intro ds g Q h
  obtain ⟨a0, a1, rfl, h⟩ := sp2_of h
  rw [show startD N_is_product_in [a0, a1] = [some a0, some a1, none] from rfl]
  obtain ⟨n, xs, e1, e2, hl, hn, hx, k⟩ := h
  subst e1 e2 hl
  walk_at "rr4"
  refine rd_isiT ?_
  walk_at "rr4"
  refine rd_neN (by rw [List.length_map]) ?_
  walk_at "rr4"
  refine rd_zK (by rw [List.length_map]; omega) (comp_map (f := fun _ => .bl true) (fun d hd => ?_) ?_)
  · obtain ⟨x, hxm, e⟩ := List.mem_map.mp hd
    subst e
    refine ⟨_, rfl, fun Q2 h2 => ?_⟩
    walk_at "rr4"
    exact .inl ⟨x, 0, 60, rfl, rfl, rfl, (hx x hxm).1, (hx x hxm).2, h2⟩
  · walk_at "rr4"
    refine rd_bs rfl (blsD_fun (fun _ => true) _) ?_
    rw [all_tt]
    walk_at "rr4"
    exact dret k

abbrev s_divides : Stmt := topS 17
abbrev N_divides : List Str := ["one", "other", "least", "most"]
theorem sc_divides : FnScope N_divides ["one", "other"] (defScope s_divides) := ⟨rfl, rfl, rfl, by decide +kernel, rfl, by decide +kernel, by decide +kernel⟩
abbrev sp_divides (c_KeptMembers c_Lot c_Refused tb_free_set_in : Addr) : SpD :=
  sp2 fun a b g P => ∃ xs ys : List Int, a = tI xs ∧ b = tI ys ∧ xs.length ≤ 100 ∧ P (.bl (dvB xs ys)) g

local macro_rules | `(tactic| walk_at "rr5") => `(tactic| (repeat (first | (with_reducible first | refine rd_seq ?_ | refine rd_seqE ?_ | refine rd_next ?_ | refine rd_rtE ?_ | refine rd_nxE ?_ | refine rd_nx ?_ | refine rd_rt ?_ | refine rd_drop ?_ | refine rd_ret ?_ | refine rd_c ?_ | refine rd_op ?_ | refine rd_b ?_ | refine rd_bK ?_ | refine rd_nil ?_ | refine rd_cons ?_ | refine rd_cb ?_ | refine rd_call ?_ | refine rd_sp1 ?_ | refine rd_sp2 ?_ | refine rd_sp3 ?_ | refine rd_cmp ?_ | refine rd_lc ?_ | refine rd_yes ?_ | refine rd_wzip ?_ | refine rd_zipT ?_ | refine rd_itet ?_ | refine rd_itef ?_ | refine rd_itnt ?_ | refine rd_itnf ?_) | ((with_reducible apply rd_var); (· exact rfl)))))
theorem ok_divides {P : Program} {w : World} {K : Fg} {mg : Str → Option Value} {base : Heap} {t_ALL t_MAX_EXPONENT t_MAX_LETTERS t_MAX_MEMBERS t_MAX_MEMBER_EXPONENT t_MAX_PASSED : Tok} {c_KeptMembers c_Lot c_Refused tb_free_set_in : Addr} {f : Addr} {fd : FuncData} (D : Dfn K mg "divides" s_divides ["one", "other"] f fd) (T : Txt P K mg t_ALL t_MAX_EXPONENT t_MAX_LETTERS t_MAX_MEMBERS t_MAX_MEMBER_EXPONENT t_MAX_PASSED c_KeptMembers c_Lot c_Refused tb_free_set_in) :
    FnOk P w K mg base CX0 1 f fd ["one", "other"] (upSp K (sp_divides c_KeptMembers c_Lot c_Refused tb_free_set_in)) := by
  refine fun_okD D.fn sc_divides (fun ds g Q h => len2 h) (fun cdv A outer s H E hr => ⟨_, (pds_one (pds_ret (pd_callB (cr_all rfl) ref_bs T.b_all (by decide +kernel) (pda_cons (pd_lc (own := [("least", 2), ("most", 3)]) (tg := .tp [2, 3]) rfl sc_divides.nd (pid_zip T.b_zip (pda_cons (pdv 0) (pda_cons (pdv 1) pda_nil))) (blkOk_by (own := [("least", 2), ("most", 3)]) (N := N_divides) (sc := defScope s_divides) (by decide +kernel)) (fun _ _ _ _ _ => (pgd_tp (is := [2, 3]) rfl (pgd_cons (i := 2) (pgd_nm (i := 2) sc_divides.nd) (pgd_cons (i := 3) (pgd_nm (i := 3) sc_divides.nd) pgd_nil)))) (fun _ _ _ _ _ => ptsd_nil) (fun _ _ _ _ _ => (pd_cmp op_le (RefCmp.op ref_cmp) (pdv 2) (pdv 3) (nomark _)))) pda_nil)))), ?_⟩)
  intro ds g Q h
  obtain ⟨a0, a1, rfl, h⟩ := sp2_of h
  rw [show startD N_divides [a0, a1] = [some a0, some a1, none, none] from rfl]
  obtain ⟨xs, ys, e1, e2, hx, k⟩ := h
  subst e1 e2
  have hz := zip_len xs ys
  walk_at "rr5"
  refine rd_zK (by omega) (comp_map (f := fun d => .bl (leD d)) (fun d hd => ?_) ?_)
  · obtain ⟨i, j, e⟩ := zip_mem hd
    subst e
    refine ⟨_, rfl, fun Q2 h2 => ?_⟩
    walk_at "rr5"
    exact h2
  · walk_at "rr5"
    refine rd_bs rfl (blsD_fun leD _) ?_
    rw [all_id_map, dv_zip]
    walk_at "rr5"
    exact dret k

abbrev s_require_letters : Stmt := topS 19
abbrev N_require_letters : List Str := ["letters"]
theorem sc_require_letters : FnScope N_require_letters ["letters"] (defScope s_require_letters) := ⟨rfl, rfl, rfl, by decide +kernel, rfl, by decide +kernel, by decide +kernel⟩
abbrev sp_require_letters (c_KeptMembers c_Lot c_Refused tb_free_set_in : Addr) : SpD :=
  sp1 fun a g P => ∃ i : Int, a = .int i ∧ 1 ≤ i ∧ i ≤ 8 ∧ P .non g

local macro_rules | `(tactic| walk_at "rr6") => `(tactic| (repeat (first | (with_reducible first | refine rd_seq ?_ | refine rd_seqE ?_ | refine rd_next ?_ | refine rd_rtE ?_ | refine rd_nxE ?_ | refine rd_nx ?_ | refine rd_rt ?_ | refine rd_drop ?_ | refine rd_ret ?_ | refine rd_c ?_ | refine rd_op ?_ | refine rd_b ?_ | refine rd_bK ?_ | refine rd_nil ?_ | refine rd_cons ?_ | refine rd_cb ?_ | refine rd_call ?_ | refine rd_sp1 ?_ | refine rd_sp2 ?_ | refine rd_sp3 ?_ | refine rd_itet ?_ | refine rd_itef ?_ | refine rd_itnt ?_ | refine rd_itnf ?_) | ((with_reducible apply rd_var); (· exact rfl)))))
theorem ok_require_letters {P : Program} {w : World} {K : Fg} {mg : Str → Option Value} {base : Heap} {t_ALL t_MAX_EXPONENT t_MAX_LETTERS t_MAX_MEMBERS t_MAX_MEMBER_EXPONENT t_MAX_PASSED : Tok} {c_KeptMembers c_Lot c_Refused tb_free_set_in : Addr} {f f_require_within : Addr} {fd d_require_within : FuncData} (D : Dfn K mg "require_letters" s_require_letters ["letters"] f fd) (T : Txt P K mg t_ALL t_MAX_EXPONENT t_MAX_LETTERS t_MAX_MEMBERS t_MAX_MEMBER_EXPONENT t_MAX_PASSED c_KeptMembers c_Lot c_Refused tb_free_set_in) (D_require_within : Dfn K mg "require_within" s_require_within ["value", "least", "greatest"] f_require_within d_require_within) (G_require_within : FnOk P w K mg base CX0 3 f_require_within d_require_within ["value", "least", "greatest"] (upSp K (sp_require_within c_KeptMembers c_Lot c_Refused tb_free_set_in))) :
    FnOk P w K mg base CX0 4 f fd ["letters"] (upSp K (sp_require_letters c_KeptMembers c_Lot c_Refused tb_free_set_in)) := by
  refine fun_okD D.fn sc_require_letters (fun ds g Q h => len1 h) (fun cdv A outer s H E hr => ⟨_, (pds_one (pds_expr (pd_call G_require_within (hr.mono (by decide)) D_require_within.at_ D_require_within.fn.kp D_require_within.bd pass0 (pda_cons (pdv 0) (pda_cons pd_int (pda_cons (pd_globI T.c_MAX_LETTERS) pda_nil)))))), ?_⟩)
  intro ds g Q h
  obtain ⟨a0, rfl, h⟩ := sp1_of h
  rw [show startD N_require_letters [a0] = [some a0] from rfl]
  obtain ⟨i, e1, h1, h2, k⟩ := h
  subst e1
  walk_at "rr6"
  refine ⟨i, 1, 8, rfl, rfl, rfl, h1, h2, ?_⟩
  walk_at "rr6"
  exact dret k

abbrev s_least_of : Stmt := topS 27
abbrev N_least_of : List Str := ["products", "found", "product", "one"]
theorem sc_least_of : FnScope N_least_of ["products"] (defScope s_least_of) := ⟨rfl, rfl, rfl, by decide +kernel, rfl, by decide +kernel, by decide +kernel⟩
abbrev sp_least_of (c_KeptMembers c_Lot c_Refused tb_free_set_in : Addr) : SpD :=
  sp1 fun a g P => ∃ (n : Nat) (L : List (List Int)), (a = .tup (L.map tI) ∨ a = .lst (L.map tI)) ∧ 1 ≤ n ∧ n ≤ 8 ∧ Prods n 60 L ∧ L.length ≤ 24 ∧ P (.tup ((leastL L).map tI)) g

local macro_rules | `(tactic| walk_at "rr7") => `(tactic| (repeat (first | (with_reducible first | refine rd_seq ?_ | refine rd_seqE ?_ | refine rd_next ?_ | refine rd_rtE ?_ | refine rd_nxE ?_ | refine rd_nx ?_ | refine rd_rt ?_ | refine rd_ct ?_ | refine rd_bk ?_ | refine rd_drop ?_ | refine rd_ret ?_ | refine rd_dif ?_ | refine rd_asg ?_ | refine rd_for ?_ | refine rd_c ?_ | refine rd_op ?_ | refine rd_b ?_ | refine rd_bK ?_ | refine rd_tru ?_ | refine rd_tKb ?_ | refine rd_not ?_ | refine rd_nil ?_ | refine rd_cons ?_ | refine rd_lst ?_ | refine rd_lstM ?_ | refine rd_cb ?_ | refine rd_call ?_ | refine rd_sp1 ?_ | refine rd_sp2 ?_ | refine rd_sp3 ?_ | refine rd_mt ?_ | refine rd_yes ?_ | refine rd_wseq ?_ | refine rd_wsT ?_ | refine rd_wsL ?_ | refine rd_wsS ?_ | refine rd_lcR ?_ | refine rd_dcT ?_ | refine rd_sk ?_ | refine rd_itet ?_ | refine rd_itef ?_ | refine rd_itnt ?_ | refine rd_itnf ?_) | ((with_reducible apply rd_var); (· exact rfl)) | ((with_reducible apply rd_asgK); (· exact rfl)) | ((with_reducible apply rd_tuple); (· (first | assumption | exact seqD_ref (by assumption) | exact seqD_up | exact lstD_ref (by assumption) | exact lstD_up | rfl))) | ((with_reducible apply rd_some); (· (first | assumption | exact seqD_ref (by assumption) | exact seqD_up | exact lstD_ref (by assumption) | exact lstD_up | rfl))))))
theorem ok_least_of {P : Program} {w : World} {K : Fg} {mg : Str → Option Value} {base : Heap} {t_ALL t_MAX_EXPONENT t_MAX_LETTERS t_MAX_MEMBERS t_MAX_MEMBER_EXPONENT t_MAX_PASSED : Tok} {c_KeptMembers c_Lot c_Refused tb_free_set_in : Addr} {f f_divides : Addr} {fd d_divides : FuncData} (D : Dfn K mg "least_of" s_least_of ["products"] f fd) (T : Txt P K mg t_ALL t_MAX_EXPONENT t_MAX_LETTERS t_MAX_MEMBERS t_MAX_MEMBER_EXPONENT t_MAX_PASSED c_KeptMembers c_Lot c_Refused tb_free_set_in) (D_divides : Dfn K mg "divides" s_divides ["one", "other"] f_divides d_divides) (G_divides : FnOk P w K mg base CX0 1 f_divides d_divides ["one", "other"] (upSp K (sp_divides c_KeptMembers c_Lot c_Refused tb_free_set_in))) :
    FnOk P w K mg base CX0 2 f fd ["products"] (upSp K (sp_least_of c_KeptMembers c_Lot c_Refused tb_free_set_in)) := by
  refine fun_okD D.fn sc_least_of (fun ds g Q h => len1 h) (fun cdv A outer s H E hr => ⟨_, (pds_cons (pds_set (i := 1) sc_least_of.nd (pd_lstM pda_nil)) (pds_cons (pds_for (tg := .nm 2) PassesOwn.never rfl (pid_seq (pd_sortK keyT_sum T.b_sorted T.b_sum (by decide +kernel) hr.units rfl (pd_dcT (own := [("one", 3)]) (tg := .nm 3) hr.units rfl sc_least_of.nd (pid_seq (pdv 0)) (blkOk_by (own := [("one", 3)]) (N := N_least_of) (sc := defScope s_least_of) (by decide +kernel)) (fun _ _ _ _ _ => (pgd_nm (i := 3) sc_least_of.nd)) (fun _ _ _ _ _ => ptsd_nil) (fun _ _ _ _ _ => (pdv 3)) (fun _ _ _ _ _ => pd_bl)))) (pgd_nm (i := 2) sc_least_of.nd) (pds_one (pds_if (pt_notD (pt_truD (pd_callB (cr_any rfl) ref_bs T.b_any (by decide +kernel) (pda_cons (pd_lcR (own := [("one", 3)]) (tg := .nm 3) rfl sc_least_of.nd (pdv 1) (blkOk_by (own := [("one", 3)]) (N := N_least_of) (sc := defScope s_least_of) (by decide +kernel)) (fun _ _ _ _ _ => (pgd_nm (i := 3) sc_least_of.nd)) (fun _ _ _ _ _ => ptsd_nil) (fun _ _ _ _ _ => (pd_call G_divides (hr.mono (by decide)) D_divides.at_ D_divides.fn.kp D_divides.bd pass0 (pda_cons (pdv 3) (pda_cons (pdv 2) pda_nil))))) pda_nil)))) (pds_one (pds_expr (pd_append (pdv 1) (pda_cons (pdv 2) pda_nil)))) pds_nil))) (pds_fz 1 (pds_one (pds_ret (pd_callTy call_tuple_of ref_tuple T.b_tuple (by decide +kernel) (pda_cons (pd_callB (cr_sortedD hr.units) ref_sorted T.b_sorted (by decide +kernel) (pda_cons (pdv 1) pda_nil)) pda_nil))))))), ?_⟩)
  intro ds g Q h
  obtain ⟨a0, rfl, h⟩ := sp1_of h
  rw [show startD N_least_of [a0] = [some a0, none, none, none] from rfl]
  obtain ⟨n, L, e1, n1, n8, hp, hl, k⟩ := h
  walk_at "rr7"
  refine rd_zK (by show 0 ≤ 16777216; decide) ?_
  intro q hq
  walk_at "rr7"
  refine rd_wsB e1 ?_
  refine rd_zK (by rw [List.length_map]; omega) (dc_map (kf := fun d => (keyT d).getD []) (v := .bl true) (fun d hd => ?_) (fun d hd δ2 e Q2 h2 => ?_) fun vs => ?_)
  · obtain ⟨m, hm, e⟩ := tI_mem hd
    subst e
    refine ⟨_, tI m, rfl, ?_, fun Q2 h2 => ?_⟩
    · rw [show keyT (tI m) = some (m.map Sum.inl) from keyT_ints m]
      rfl
    · walk_at "rr7"
      exact h2
  · walk_at "rr7"
    exact h2
  have ek : ((L.map tI).map fun d => (keyT d).getD []) = L.map fun m => m.map (Sum.inl : Int → Key) := by
    rw [List.map_map]
    exact List.map_congr_left fun m _ => by
      show (keyT (tI m)).getD [] = _
      rw [show keyT (tI m) = some (m.map Sum.inl) from keyT_ints m]
      rfl
  rw [ek, show ([] : List (List Key)) = ([] : List (List Int)).map (fun m => m.map Sum.inl) from rfl, foldK_map]
  have hO1 := onceL_mem L
  have hO2 := onceL_nodup L
  have hO3 := onceL_len L
  have hO4 := onceL_sorted L
  have hl0 : (L.foldl putKs []).length ≤ 24 := by
    have := (foldK L [] List.nodup_nil).2.2
    simp only [List.length_nil] at this
    omega
  refine rd_skK (L := L.foldl putKs []) (.inr (.inl ⟨vs, rfl⟩)) (by omega) ?_
  have hL : leastL L = ((onceL L).filter (minB (onceL L))).mergeSort fun a b => decide (a ≤ b) := rfl
  rw [show (L.foldl putKs []).mergeSort (leK List.sum) = onceL L from rfl, tIs]
  rw [hL] at k
  generalize onceL L = O at hO1 hO2 hO3 hO4 k ⊢
  have hpO : Prods n 60 O := hp.sub fun m hm => (hO1 m).mp hm
  walk_at "rr7"
  refine rd_loopX (I := fun i δ g' => (∃ v3 v4 : Option DV, δ = [some a0, some (.ref q), v3, v4]) ∧ g' q = some (.lst (((O.take i).filter (minB O)).map tI)) ∧ ∀ b, b ≠ q → g' b = g b) ?_ ?_ ?_
  · exact ⟨⟨none, none, rfl⟩, gup_same, fun b hb => gup_ne hb⟩
  · intro i d hd δ g' f hf hI
    obtain ⟨⟨v3, v4, e⟩, hg, hs⟩ := hI
    subst e
    rw [List.getElem?_map] at hd
    obtain ⟨x, hx, e⟩ := Option.map_eq_some_iff.mp hd
    subst e
    have hfl := flt_len (O := O) (q := minB O) i
    have hgr := greedy hpO hO2 hO4 hx
    have hft := filter_take (q := minB O) hx
    have hfl2 := flt_len (O := O) (q := minB O) (i + 1)
    have hin : ∀ m ∈ (O.take i).filter (minB O), m ∈ O := fun m hm => List.mem_of_mem_take (List.mem_filter.mp hm).1
    generalize (O.take i).filter (minB O) = F at hg hfl hgr hft hin ⊢
    refine ⟨_, rfl, ?_⟩
    walk_at "rr7"
    refine rd_lrC hg (by rw [List.length_map]; omega) (compR_map hg (f := fun d => .bl (dvsD x d)) (fun d hd => ?_) ?_)
    · obtain ⟨m, hm, e⟩ := tI_mem hd
      subst e
      refine ⟨_, rfl, fun Q2 h2 => ?_⟩
      walk_at "rr7"
      refine ⟨m, x, rfl, rfl, by rw [(hpO m (hin m hm)).1]; omega, ?_⟩
      rw [dvsD_at] at h2
      exact h2
    · walk_at "rr7"
      refine rd_bs rfl (blsD_fun (dvsD x) _) ?_
      rw [any_id_map, any_dvs, show upB F x = (F.any fun f => dvB f x) from rfl, hgr]
      walk_at "rr7"
      refine rd_iteb (fun c => ?_) (fun c => ?_)
      · rw [Bool.not_not] at c
        rw [if_pos c] at hft
        walk_at "rr7"
        refine rd_append hg (by rw [List.length_map]; omega) ?_
        rw [show F.map tI ++ [tI x] = (F ++ [x]).map tI by rw [List.map_append]; rfl, ← hft]
        walk_at "rr7"
        exact hf _ _ ⟨⟨_, _, rfl⟩, gup_same, fun b hb => by rw [gup_ne hb]; exact hs b hb⟩
      · rw [Bool.not_not] at c
        rw [if_neg (by rw [c]; decide), List.append_nil] at hft
        walk_at "rr7"
        exact hf _ _ ⟨⟨_, _, rfl⟩, by rw [hft]; exact hg, hs⟩
  · intro δ g' hI
    obtain ⟨⟨v3, v4, e⟩, hg, hs⟩ := hI
    subst e
    rw [List.length_map, List.take_length] at hg
    walk_at "rr7"
    refine rd_fz rfl hg ?_
    walk_at "rr7"
    refine rd_sorted rfl (sort_tIs fun w hw => ?_) ?_
    · have := (hpO w (List.mem_filter.mp hw).1).1
      intro z
      rw [z, List.length_nil] at this
      omega
    · rw [show (((O.filter (minB O)).map tI).mergeSort dleD) = ((O.filter (minB O)).mergeSort fun a b => decide (a ≤ b)).map tI from sort_tuI _]
      walk_at "rr7"
      refine ⟨g, fun a => ?_, k⟩
      by_cases ha : a = q
      · subst ha
        exact .inr hq
      · left
        rw [gdel_ne ha]
        exact (hs a ha).symm

abbrev s_are_long : Stmt := topS 28
abbrev N_are_long : List Str := ["products", "product"]
theorem sc_are_long : FnScope N_are_long ["products"] (defScope s_are_long) := ⟨rfl, rfl, rfl, by decide +kernel, rfl, by decide +kernel, by decide +kernel⟩
abbrev sp_are_long (c_KeptMembers c_Lot c_Refused tb_free_set_in : Addr) : SpD :=
  sp1 fun a g P => ∃ (n : Nat) (L : List (List Int)), a = .lst (L.map tI) ∧ 1 ≤ n ∧ n ≤ 8 ∧ Prods n 60 L ∧ L.length ≤ 24 ∧ P (.bl false) g

local macro_rules | `(tactic| walk_at "rr8") => `(tactic| (repeat (first | (with_reducible first | refine rd_seq ?_ | refine rd_seqE ?_ | refine rd_next ?_ | refine rd_rtE ?_ | refine rd_nxE ?_ | refine rd_nx ?_ | refine rd_rt ?_ | refine rd_drop ?_ | refine rd_ret ?_ | refine rd_c ?_ | refine rd_op ?_ | refine rd_b ?_ | refine rd_bK ?_ | refine rd_nil ?_ | refine rd_cons ?_ | refine rd_cb ?_ | refine rd_call ?_ | refine rd_sp1 ?_ | refine rd_sp2 ?_ | refine rd_sp3 ?_ | refine rd_cmp ?_ | refine rd_lc ?_ | refine rd_yes ?_ | refine rd_wseq ?_ | refine rd_wsT ?_ | refine rd_wsL ?_ | refine rd_wsS ?_ | refine rd_itet ?_ | refine rd_itef ?_ | refine rd_itnt ?_ | refine rd_itnf ?_) | ((with_reducible apply rd_var); (· exact rfl)))))
theorem ok_are_long {P : Program} {w : World} {K : Fg} {mg : Str → Option Value} {base : Heap} {t_ALL t_MAX_EXPONENT t_MAX_LETTERS t_MAX_MEMBERS t_MAX_MEMBER_EXPONENT t_MAX_PASSED : Tok} {c_KeptMembers c_Lot c_Refused tb_free_set_in : Addr} {f : Addr} {fd : FuncData} (D : Dfn K mg "are_long" s_are_long ["products"] f fd) (T : Txt P K mg t_ALL t_MAX_EXPONENT t_MAX_LETTERS t_MAX_MEMBERS t_MAX_MEMBER_EXPONENT t_MAX_PASSED c_KeptMembers c_Lot c_Refused tb_free_set_in) :
    FnOk P w K mg base CX0 1 f fd ["products"] (upSp K (sp_are_long c_KeptMembers c_Lot c_Refused tb_free_set_in)) := by
  refine fun_okD D.fn sc_are_long (fun ds g Q h => len1 h) (fun cdv A outer s H E hr => ⟨_, (pds_one (pds_ret (pd_callB (cr_any rfl) ref_bs T.b_any (by decide +kernel) (pda_cons (pd_lc (own := [("product", 1)]) (tg := .nm 1) rfl sc_are_long.nd (pid_seq (pdv 0)) (blkOk_by (own := [("product", 1)]) (N := N_are_long) (sc := defScope s_are_long) (by decide +kernel)) (fun _ _ _ _ _ => (pgd_nm (i := 1) sc_are_long.nd)) (fun _ _ _ _ _ => ptsd_nil) (fun _ _ _ _ _ => (pd_cmp op_gt (RefCmp.op ref_cmp) (pd_callB (cr_maxS rfl) ref_maxS T.b_max (by decide +kernel) (pda_cons (pdv 1) pda_nil)) (pd_globI T.c_MAX_EXPONENT) (nomark _)))) pda_nil)))), ?_⟩)
  intro ds g Q h
  obtain ⟨a0, rfl, h⟩ := sp1_of h
  rw [show startD N_are_long [a0] = [some a0, none] from rfl]
  obtain ⟨n, L, e1, n1, n8, hp, hl, k⟩ := h
  subst e1
  walk_at "rr8"
  refine rd_zK (by rw [List.length_map]; omega) (comp_map (f := fun _ => .bl false) (fun d hd => ?_) ?_)
  · obtain ⟨m, hm, e⟩ := tI_mem hd
    subst e
    obtain ⟨h1, h2⟩ := hp m hm
    refine ⟨_, rfl, fun Q2 h2' => ?_⟩
    walk_at "rr8"
    refine rd_maxS (ns := m) rfl (by omega) fun z hz _ => ?_
    have h3 := (h2 z hz).2
    walk_at "rr8"
    rw [decide_eq_false (by omega)]
    exact h2'
  · walk_at "rr8"
    refine rd_bs rfl (blsD_fun (fun _ => false) _) ?_
    rw [any_ff]
    walk_at "rr8"
    exact dret k

abbrev s_few_least_of : Stmt := topS 29
abbrev N_few_least_of : List Str := ["products", "once", "found", "product", "one"]
theorem sc_few_least_of : FnScope N_few_least_of ["products"] (defScope s_few_least_of) := ⟨rfl, rfl, rfl, by decide +kernel, rfl, by decide +kernel, by decide +kernel⟩
abbrev sp_few_least_of (c_KeptMembers c_Lot c_Refused tb_free_set_in : Addr) : SpD :=
  sp1 fun a g P => ∃ (n : Nat) (L : List (List Int)), (a = .tup (L.map tI) ∨ a = .lst (L.map tI)) ∧ 1 ≤ n ∧ n ≤ 8 ∧ Prods n 60 L ∧ L.length ≤ 24 ∧ P (.tup ((leastL L).map tI)) g

local macro_rules | `(tactic| walk_at "rr9") => `(tactic| (repeat (first | (with_reducible first | refine rd_seq ?_ | refine rd_seqE ?_ | refine rd_next ?_ | refine rd_rtE ?_ | refine rd_nxE ?_ | refine rd_nx ?_ | refine rd_rt ?_ | refine rd_ct ?_ | refine rd_bk ?_ | refine rd_drop ?_ | refine rd_ret ?_ | refine rd_dif ?_ | refine rd_asg ?_ | refine rd_for ?_ | refine rd_c ?_ | refine rd_op ?_ | refine rd_b ?_ | refine rd_bK ?_ | refine rd_tru ?_ | refine rd_tKb ?_ | refine rd_and ?_ | refine rd_not ?_ | refine rd_nil ?_ | refine rd_cons ?_ | refine rd_lst ?_ | refine rd_lstM ?_ | refine rd_cb ?_ | refine rd_call ?_ | refine rd_sp1 ?_ | refine rd_sp2 ?_ | refine rd_sp3 ?_ | refine rd_cmp ?_ | refine rd_mt ?_ | refine rd_yes ?_ | refine rd_wseq ?_ | refine rd_wsT ?_ | refine rd_wsL ?_ | refine rd_wsS ?_ | refine rd_lcR ?_ | refine rd_dcT ?_ | refine rd_sk ?_ | refine rd_itet ?_ | refine rd_itef ?_ | refine rd_itnt ?_ | refine rd_itnf ?_) | ((with_reducible apply rd_var); (· exact rfl)) | ((with_reducible apply rd_asgK); (· exact rfl)) | ((with_reducible apply rd_len); (· (first | assumption | exact seqD_ref (by assumption) | exact seqD_up | exact lstD_ref (by assumption) | exact lstD_up | rfl))) | ((with_reducible apply rd_tuple); (· (first | assumption | exact seqD_ref (by assumption) | exact seqD_up | exact lstD_ref (by assumption) | exact lstD_up | rfl))) | ((with_reducible apply rd_some); (· (first | assumption | exact seqD_ref (by assumption) | exact seqD_up | exact lstD_ref (by assumption) | exact lstD_up | rfl))))))
theorem ok_few_least_of {P : Program} {w : World} {K : Fg} {mg : Str → Option Value} {base : Heap} {t_ALL t_MAX_EXPONENT t_MAX_LETTERS t_MAX_MEMBERS t_MAX_MEMBER_EXPONENT t_MAX_PASSED : Tok} {c_KeptMembers c_Lot c_Refused tb_free_set_in : Addr} {f f_divides f_are_long f_least_of : Addr} {fd d_divides d_are_long d_least_of : FuncData} (D : Dfn K mg "few_least_of" s_few_least_of ["products"] f fd) (T : Txt P K mg t_ALL t_MAX_EXPONENT t_MAX_LETTERS t_MAX_MEMBERS t_MAX_MEMBER_EXPONENT t_MAX_PASSED c_KeptMembers c_Lot c_Refused tb_free_set_in) (D_divides : Dfn K mg "divides" s_divides ["one", "other"] f_divides d_divides) (G_divides : FnOk P w K mg base CX0 1 f_divides d_divides ["one", "other"] (upSp K (sp_divides c_KeptMembers c_Lot c_Refused tb_free_set_in))) (D_are_long : Dfn K mg "are_long" s_are_long ["products"] f_are_long d_are_long) (G_are_long : FnOk P w K mg base CX0 1 f_are_long d_are_long ["products"] (upSp K (sp_are_long c_KeptMembers c_Lot c_Refused tb_free_set_in))) (D_least_of : Dfn K mg "least_of" s_least_of ["products"] f_least_of d_least_of) (G_least_of : FnOk P w K mg base CX0 2 f_least_of d_least_of ["products"] (upSp K (sp_least_of c_KeptMembers c_Lot c_Refused tb_free_set_in))) :
    FnOk P w K mg base CX0 3 f fd ["products"] (upSp K (sp_few_least_of c_KeptMembers c_Lot c_Refused tb_free_set_in)) := by
  refine fun_okD D.fn sc_few_least_of (fun ds g Q h => len1 h) (fun cdv A outer s H E hr => ⟨_, (pds_cons (pds_set (i := 1) sc_few_least_of.nd (pd_sortK keyT_sum T.b_sorted T.b_sum (by decide +kernel) hr.units rfl (pd_dcT (own := [("one", 4)]) (tg := .nm 4) hr.units rfl sc_few_least_of.nd (pid_seq (pdv 0)) (blkOk_by (own := [("one", 4)]) (N := N_few_least_of) (sc := defScope s_few_least_of) (by decide +kernel)) (fun _ _ _ _ _ => (pgd_nm (i := 4) sc_few_least_of.nd)) (fun _ _ _ _ _ => ptsd_nil) (fun _ _ _ _ _ => (pdv 4)) (fun _ _ _ _ _ => pd_bl)))) (pds_cons (pds_if (pwd_pt (pwd_and (pt_truD (pd_call G_are_long (hr.mono (by decide)) D_are_long.at_ D_are_long.fn.kp D_are_long.bd pass0 (pda_cons (pdv 1) pda_nil))) (pwd_and1 (pt_truD (pd_call G_are_long (hr.mono (by decide)) D_are_long.at_ D_are_long.fn.kp D_are_long.bd pass0 (pda_cons (pd_call G_least_of (hr.mono (by decide)) D_least_of.at_ D_least_of.fn.kp D_least_of.bd pass0 (pda_cons (pdv 1) pda_nil)) pda_nil)))))) (pds_one pds_never) pds_nil) (pds_cons (pds_set (i := 2) sc_few_least_of.nd (pd_lstM pda_nil)) (pds_cons (pds_for (tg := .nm 3) PassesOwn.never rfl (pid_seq (pdv 1)) (pgd_nm (i := 3) sc_few_least_of.nd) (pds_one (pds_if (pt_notD (pt_truD (pd_callB (cr_any rfl) ref_bs T.b_any (by decide +kernel) (pda_cons (pd_lcR (own := [("one", 4)]) (tg := .nm 4) rfl sc_few_least_of.nd (pdv 2) (blkOk_by (own := [("one", 4)]) (N := N_few_least_of) (sc := defScope s_few_least_of) (by decide +kernel)) (fun _ _ _ _ _ => (pgd_nm (i := 4) sc_few_least_of.nd)) (fun _ _ _ _ _ => ptsd_nil) (fun _ _ _ _ _ => (pd_call G_divides (hr.mono (by decide)) D_divides.at_ D_divides.fn.kp D_divides.bd pass0 (pda_cons (pdv 4) (pda_cons (pdv 3) pda_nil))))) pda_nil)))) (pds_cons (pds_expr (pd_append (pdv 2) (pda_cons (pdv 3) pda_nil))) (pds_one (pds_if (pt_cmpD op_gt (RefCmp.op ref_cmp) (pd_callB call_len_seq ref_len T.b_len (by decide +kernel) (pda_cons (pdv 2) pda_nil)) (pd_globI T.c_MAX_MEMBERS) (nomark _)) (pds_one pds_never) pds_nil))) pds_nil))) (pds_fz 2 (pds_one (pds_ret (pd_callTy call_tuple_of ref_tuple T.b_tuple (by decide +kernel) (pda_cons (pd_callB (cr_sortedD hr.units) ref_sorted T.b_sorted (by decide +kernel) (pda_cons (pdv 2) pda_nil)) pda_nil))))))))), ?_⟩)
  intro ds g Q h
  obtain ⟨a0, rfl, h⟩ := sp1_of h
  rw [show startD N_few_least_of [a0] = [some a0, none, none, none, none] from rfl]
  obtain ⟨n, L, e1, n1, n8, hp, hl, k⟩ := h
  walk_at "rr9"
  refine rd_wsB e1 ?_
  refine rd_zK (by rw [List.length_map]; omega) (dc_map (kf := fun d => (keyT d).getD []) (v := .bl true) (fun d hd => ?_) (fun d hd δ2 e Q2 h2 => ?_) fun vs => ?_)
  · obtain ⟨m, hm, e⟩ := tI_mem hd
    subst e
    refine ⟨_, tI m, rfl, ?_, fun Q2 h2 => ?_⟩
    · rw [show keyT (tI m) = some (m.map Sum.inl) from keyT_ints m]
      rfl
    · walk_at "rr9"
      exact h2
  · walk_at "rr9"
    exact h2
  have ek : ((L.map tI).map fun d => (keyT d).getD []) = L.map fun m => m.map (Sum.inl : Int → Key) := by
    rw [List.map_map]
    exact List.map_congr_left fun m _ => by
      show (keyT (tI m)).getD [] = _
      rw [show keyT (tI m) = some (m.map Sum.inl) from keyT_ints m]
      rfl
  rw [ek, show ([] : List (List Key)) = ([] : List (List Int)).map (fun m => m.map Sum.inl) from rfl, foldK_map]
  have hO1 := onceL_mem L
  have hO2 := onceL_nodup L
  have hO3 := onceL_len L
  have hO4 := onceL_sorted L
  have hl0 : (L.foldl putKs []).length ≤ 24 := by
    have := (foldK L [] List.nodup_nil).2.2
    simp only [List.length_nil] at this
    omega
  refine rd_skK (L := L.foldl putKs []) (.inr (.inl ⟨vs, rfl⟩)) (by omega) ?_
  have hL : leastL L = ((onceL L).filter (minB (onceL L))).mergeSort fun a b => decide (a ≤ b) := rfl
  rw [show (L.foldl putKs []).mergeSort (leK List.sum) = onceL L from rfl, tIs]
  rw [hL] at k
  generalize onceL L = O at hO1 hO2 hO3 hO4 k ⊢
  have hpO : Prods n 60 O := hp.sub fun m hm => (hO1 m).mp hm
  walk_at "rr9"
  refine ⟨n, O, rfl, n1, n8, hpO, by omega, ?_⟩
  walk_at "rr9"
  refine rd_zK (by show 0 ≤ 16777216; decide) ?_
  intro q hq
  walk_at "rr9"
  refine rd_loopX (I := fun i δ g' => (∃ v3 v4 : Option DV, δ = [some a0, some (.lst (O.map tI)), some (.ref q), v3, v4]) ∧ g' q = some (.lst (((O.take i).filter (minB O)).map tI)) ∧ ∀ b, b ≠ q → g' b = g b) ?_ ?_ ?_
  · exact ⟨⟨none, none, rfl⟩, gup_same, fun b hb => gup_ne hb⟩
  · intro i d hd δ g' f hf hI
    obtain ⟨⟨v3, v4, e⟩, hg, hs⟩ := hI
    subst e
    rw [List.getElem?_map] at hd
    obtain ⟨x, hx, e⟩ := Option.map_eq_some_iff.mp hd
    subst e
    have hfl := flt_len (O := O) (q := minB O) i
    have hgr := greedy hpO hO2 hO4 hx
    have hft := filter_take (q := minB O) hx
    have hfl2 := flt_len (O := O) (q := minB O) (i + 1)
    have hin : ∀ m ∈ (O.take i).filter (minB O), m ∈ O := fun m hm => List.mem_of_mem_take (List.mem_filter.mp hm).1
    generalize (O.take i).filter (minB O) = F at hg hfl hgr hft hin ⊢
    refine ⟨_, rfl, ?_⟩
    walk_at "rr9"
    refine rd_lrC hg (by rw [List.length_map]; omega) (compR_map hg (f := fun d => .bl (dvsD x d)) (fun d hd => ?_) ?_)
    · obtain ⟨m, hm, e⟩ := tI_mem hd
      subst e
      refine ⟨_, rfl, fun Q2 h2 => ?_⟩
      walk_at "rr9"
      refine ⟨m, x, rfl, rfl, by rw [(hpO m (hin m hm)).1]; omega, ?_⟩
      rw [dvsD_at] at h2
      exact h2
    · walk_at "rr9"
      refine rd_bs rfl (blsD_fun (dvsD x) _) ?_
      rw [any_id_map, any_dvs, show upB F x = (F.any fun f => dvB f x) from rfl, hgr]
      walk_at "rr9"
      refine rd_iteb (fun c => ?_) (fun c => ?_)
      · rw [Bool.not_not] at c
        rw [if_pos c] at hft
        walk_at "rr9"
        refine rd_append hg (by rw [List.length_map]; omega) ?_
        rw [show F.map tI ++ [tI x] = (F ++ [x]).map tI by rw [List.map_append]; rfl, ← hft]
        walk_at "rr9"
        rw [decide_eq_false (by rw [List.length_map]; omega)]
        walk_at "rr9"
        exact hf _ _ ⟨⟨_, _, rfl⟩, gup_same, fun b hb => by rw [gup_ne hb]; exact hs b hb⟩
      · rw [Bool.not_not] at c
        rw [if_neg (by rw [c]; decide), List.append_nil] at hft
        walk_at "rr9"
        exact hf _ _ ⟨⟨_, _, rfl⟩, by rw [hft]; exact hg, hs⟩
  · intro δ g' hI
    obtain ⟨⟨v3, v4, e⟩, hg, hs⟩ := hI
    subst e
    rw [List.length_map, List.take_length] at hg
    walk_at "rr9"
    refine rd_fz rfl hg ?_
    walk_at "rr9"
    refine rd_sorted rfl (sort_tIs fun w hw => ?_) ?_
    · have := (hpO w (List.mem_filter.mp hw).1).1
      intro z
      rw [z, List.length_nil] at this
      omega
    · rw [show (((O.filter (minB O)).map tI).mergeSort dleD) = ((O.filter (minB O)).mergeSort fun a b => decide (a ≤ b)).map tI from sort_tuI _]
      walk_at "rr9"
      refine ⟨g, fun a => ?_, k⟩
      by_cases ha : a = q
      · subst ha
        exact .inr hq
      · left
        rw [gdel_ne ha]
        exact (hs a ha).symm

abbrev s_KeptMembers___init__ : Stmt := inClass (topS 37) 1
abbrev N_KeptMembers___init__ : List Str := ["self", "members"]
theorem sc_KeptMembers___init__ : FnScope N_KeptMembers___init__ ["self", "members"] (defScope s_KeptMembers___init__) := ⟨rfl, rfl, rfl, by decide +kernel, rfl, by decide +kernel, by decide +kernel⟩
abbrev sp_KeptMembers___init__ (c_KeptMembers c_Lot c_Refused tb_free_set_in : Addr) : SpD :=
  sp2 fun a b g P => ∃ (p : Addr) (ds : List DV), a = .ref p ∧ b = .tup ds ∧ g p = some (.ins c_KeptMembers []) ∧ P .non (gup g p (.ins c_KeptMembers [some (.tup ds)]))

theorem ok_KeptMembers___init__ {P : Program} {w : World} {K : Fg} {mg : Str → Option Value} {base : Heap} {t_ALL t_MAX_EXPONENT t_MAX_LETTERS t_MAX_MEMBERS t_MAX_MEMBER_EXPONENT t_MAX_PASSED : Tok} {c_KeptMembers c_Lot c_Refused tb_free_set_in : Addr} {f : Addr} {fd : FuncData} (D : Mtd K c_KeptMembers "__init__" "KeptMembers.__init__" s_KeptMembers___init__ ["self", "members"] f fd) (T : Txt P K mg t_ALL t_MAX_EXPONENT t_MAX_LETTERS t_MAX_MEMBERS t_MAX_MEMBER_EXPONENT t_MAX_PASSED c_KeptMembers c_Lot c_Refused tb_free_set_in) :
    FnOk P w K mg base CX0 1 f fd ["self", "members"] (upSp K (sp_KeptMembers___init__ c_KeptMembers c_Lot c_Refused tb_free_set_in)) := by
  refine fun_okD D.fn sc_KeptMembers___init__ (fun ds g Q h => len2 h) (fun cdv A outer s H E hr => ⟨_, (pds_one (pds_sto T.F_KeptMembers.sc T.s_KeptMembers_own_members.choose_spec (pdv 0) (pdv 1))), ?_⟩)
  intro ds g Q h
  obtain ⟨a0, a1, rfl, h⟩ := sp2_of h
  rw [show startD N_KeptMembers___init__ [a0, a1] = [some a0, some a1] from rfl]
  obtain ⟨p, ds, e1, e2, hg, k⟩ := h
  subst e1 e2
  (repeat (first | (with_reducible first | refine rd_seq ?_ | refine rd_seqE ?_ | refine rd_next ?_ | refine rd_rtE ?_ | refine rd_nxE ?_ | refine rd_nx ?_ | refine rd_rt ?_ | refine rd_drop ?_ | refine rd_ret ?_ | refine rd_c ?_ | refine rd_op ?_ | refine rd_b ?_ | refine rd_bK ?_ | refine rd_nil ?_ | refine rd_cons ?_ | refine rd_cb ?_ | refine rd_call ?_ | refine rd_sp1 ?_ | refine rd_sp2 ?_ | refine rd_sp3 ?_ | refine rd_sto ?_ | refine rd_itet ?_ | refine rd_itef ?_ | refine rd_itnt ?_ | refine rd_itnf ?_) | ((with_reducible apply rd_stoK); (· (first | assumption | exact gup_same))) | ((with_reducible apply rd_var); (· exact rfl))))
  exact dret k

abbrev s_is_passed_member : Stmt := topS 39
abbrev N_is_passed_member : List Str := ["letters", "value", "exponent"]
theorem sc_is_passed_member : FnScope N_is_passed_member ["letters", "value"] (defScope s_is_passed_member) := ⟨rfl, rfl, rfl, by decide +kernel, rfl, by decide +kernel, by decide +kernel⟩
abbrev sp_is_passed_member (c_KeptMembers c_Lot c_Refused tb_free_set_in : Addr) : SpD :=
  sp2 fun a b g P => ∃ (n : Nat) (xs : List Int), a = .int (n : Int) ∧ b = tI xs ∧ xs.length = n ∧ n ≤ 8 ∧ (∀ x ∈ xs, 0 ≤ x ∧ x ≤ 8) ∧ P (.bl true) g

local macro_rules | `(tactic| walk_at "rr10") => `(tactic| (repeat (first | (with_reducible first | refine rd_seq ?_ | refine rd_seqE ?_ | refine rd_next ?_ | refine rd_rtE ?_ | refine rd_nxE ?_ | refine rd_nx ?_ | refine rd_rt ?_ | refine rd_drop ?_ | refine rd_ret ?_ | refine rd_dif ?_ | refine rd_c ?_ | refine rd_op ?_ | refine rd_b ?_ | refine rd_bK ?_ | refine rd_tru ?_ | refine rd_tKb ?_ | refine rd_or ?_ | refine rd_not ?_ | refine rd_nil ?_ | refine rd_cons ?_ | refine rd_cb ?_ | refine rd_call ?_ | refine rd_sp1 ?_ | refine rd_sp2 ?_ | refine rd_sp3 ?_ | refine rd_lc ?_ | refine rd_yes ?_ | refine rd_wseq ?_ | refine rd_wsT ?_ | refine rd_wsL ?_ | refine rd_wsS ?_ | refine rd_itet ?_ | refine rd_itef ?_ | refine rd_itnt ?_ | refine rd_itnf ?_) | ((with_reducible apply rd_var); (· exact rfl)) | ((with_reducible apply rd_len); (· (first | assumption | exact seqD_ref (by assumption) | exact seqD_up | exact lstD_ref (by assumption) | exact lstD_up | rfl))))))
theorem ok_is_passed_member {P : Program} {w : World} {K : Fg} {mg : Str → Option Value} {base : Heap} {t_ALL t_MAX_EXPONENT t_MAX_LETTERS t_MAX_MEMBERS t_MAX_MEMBER_EXPONENT t_MAX_PASSED : Tok} {c_KeptMembers c_Lot c_Refused tb_free_set_in : Addr} {f f_is_within : Addr} {fd d_is_within : FuncData} (D : Dfn K mg "is_passed_member" s_is_passed_member ["letters", "value"] f fd) (T : Txt P K mg t_ALL t_MAX_EXPONENT t_MAX_LETTERS t_MAX_MEMBERS t_MAX_MEMBER_EXPONENT t_MAX_PASSED c_KeptMembers c_Lot c_Refused tb_free_set_in) (D_is_within : Dfn K mg "is_within" s_is_within ["value", "least", "greatest"] f_is_within d_is_within) (G_is_within : FnOk P w K mg base CX0 2 f_is_within d_is_within ["value", "least", "greatest"] (upSp K (sp_is_within c_KeptMembers c_Lot c_Refused tb_free_set_in))) :
    FnOk P w K mg base CX0 3 f fd ["letters", "value"] (upSp K (sp_is_passed_member c_KeptMembers c_Lot c_Refused tb_free_set_in)) := by
  refine fun_okD D.fn sc_is_passed_member (fun ds g Q h => len2 h) (fun cdv A outer s H E hr => ⟨_, (pds_cons (pds_if (pwd_pt (pwd_or (pt_notD (pt_truD (pd_callB call_isiY ref_isi T.b_isinstance (by decide +kernel) (pda_cons (pdv 1) (pda_cons (pd_ty (n := "tuple") T.b_tuple (by decide +kernel)) pda_nil))))) (pwd_or1 (pt_cmpD (op_neD hr.units) (RefCmp.op ref_ne) (pd_callB call_len_seq ref_len T.b_len (by decide +kernel) (pda_cons (pdv 1) pda_nil)) (pdv 0) (nomark _))))) (pds_one (pds_ret pd_bl)) pds_nil) (pds_one (pds_ret (pd_callB (cr_all rfl) ref_bs T.b_all (by decide +kernel) (pda_cons (pd_lc (own := [("exponent", 2)]) (tg := .nm 2) rfl sc_is_passed_member.nd (pid_seq (pdv 1)) (blkOk_by (own := [("exponent", 2)]) (N := N_is_passed_member) (sc := defScope s_is_passed_member) (by decide +kernel)) (fun _ _ _ _ _ => (pgd_nm (i := 2) sc_is_passed_member.nd)) (fun _ _ _ _ _ => ptsd_nil) (fun _ _ _ _ _ => (pd_call G_is_within (hr.mono (by decide)) D_is_within.at_ D_is_within.fn.kp D_is_within.bd pass0 (pda_cons (pdv 2) (pda_cons pd_int (pda_cons (pd_globI T.c_MAX_MEMBER_EXPONENT) pda_nil)))))) pda_nil))))), ?_⟩)
  intro ds g Q h
  obtain ⟨a0, a1, rfl, h⟩ := sp2_of h
  rw [show startD N_is_passed_member [a0, a1] = [some a0, some a1, none] from rfl]
  obtain ⟨n, xs, e1, e2, hl, hn, hx, k⟩ := h
  subst e1 e2 hl
  walk_at "rr10"
  refine rd_isiT ?_
  walk_at "rr10"
  refine rd_neN (by rw [List.length_map]) ?_
  walk_at "rr10"
  refine rd_zK (by rw [List.length_map]; omega) (comp_map (f := fun _ => .bl true) (fun d hd => ?_) ?_)
  · obtain ⟨x, hxm, e⟩ := List.mem_map.mp hd
    subst e
    refine ⟨_, rfl, fun Q2 h2 => ?_⟩
    walk_at "rr10"
    exact .inl ⟨x, 0, 8, rfl, rfl, rfl, (hx x hxm).1, (hx x hxm).2, h2⟩
  · walk_at "rr10"
    refine rd_bs rfl (blsD_fun (fun _ => true) _) ?_
    rw [all_tt]
    walk_at "rr10"
    exact dret k

abbrev s_members_told : Stmt := topS 40
abbrev N_members_told : List Str := ["letters", "members", "member"]
theorem sc_members_told : FnScope N_members_told ["letters", "members"] (defScope s_members_told) := ⟨rfl, rfl, rfl, by decide +kernel, rfl, by decide +kernel, by decide +kernel⟩
abbrev sp_members_told (c_KeptMembers c_Lot c_Refused tb_free_set_in : Addr) : SpD :=
  sp2 fun a b g P => ∃ (n : Nat) (M : List (List Int)), a = .int (n : Int) ∧ 1 ≤ n ∧ n ≤ 8 ∧ Told c_KeptMembers n b M ∧ P (.tup (M.map tI)) g

local macro_rules | `(tactic| walk_at "rr11") => `(tactic| (repeat (first | (with_reducible first | refine rd_seq ?_ | refine rd_seqE ?_ | refine rd_next ?_ | refine rd_rtE ?_ | refine rd_nxE ?_ | refine rd_nx ?_ | refine rd_rt ?_ | refine rd_drop ?_ | refine rd_ret ?_ | refine rd_dif ?_ | refine rd_c ?_ | refine rd_op ?_ | refine rd_b ?_ | refine rd_bK ?_ | refine rd_tru ?_ | refine rd_tKb ?_ | refine rd_or ?_ | refine rd_not ?_ | refine rd_nil ?_ | refine rd_cons ?_ | refine rd_cb ?_ | refine rd_call ?_ | refine rd_sp1 ?_ | refine rd_sp2 ?_ | refine rd_sp3 ?_ | refine rd_cmp ?_ | refine rd_lc ?_ | refine rd_yes ?_ | refine rd_wseq ?_ | refine rd_wsT ?_ | refine rd_wsL ?_ | refine rd_wsS ?_ | refine rd_fld ?_ | refine rd_isiCI ?_ | refine rd_isiCT ?_ | refine rd_itet ?_ | refine rd_itef ?_ | refine rd_itnt ?_ | refine rd_itnf ?_) | ((with_reducible apply rd_flI); (· exact rfl)) | ((with_reducible apply rd_flR); (· (first | assumption | exact gup_same)); (· exact rfl)) | ((with_reducible apply rd_var); (· exact rfl)) | ((with_reducible apply rd_len); (· (first | assumption | exact seqD_ref (by assumption) | exact seqD_up | exact lstD_ref (by assumption) | exact lstD_up | rfl))))))
theorem ok_members_told {P : Program} {w : World} {K : Fg} {mg : Str → Option Value} {base : Heap} {t_ALL t_MAX_EXPONENT t_MAX_LETTERS t_MAX_MEMBERS t_MAX_MEMBER_EXPONENT t_MAX_PASSED : Tok} {c_KeptMembers c_Lot c_Refused tb_free_set_in : Addr} {f f_few_least_of f_is_passed_member : Addr} {fd d_few_least_of d_is_passed_member : FuncData} (D : Dfn K mg "members_told" s_members_told ["letters", "members"] f fd) (T : Txt P K mg t_ALL t_MAX_EXPONENT t_MAX_LETTERS t_MAX_MEMBERS t_MAX_MEMBER_EXPONENT t_MAX_PASSED c_KeptMembers c_Lot c_Refused tb_free_set_in) (D_few_least_of : Dfn K mg "few_least_of" s_few_least_of ["products"] f_few_least_of d_few_least_of) (G_few_least_of : FnOk P w K mg base CX0 3 f_few_least_of d_few_least_of ["products"] (upSp K (sp_few_least_of c_KeptMembers c_Lot c_Refused tb_free_set_in))) (D_is_passed_member : Dfn K mg "is_passed_member" s_is_passed_member ["letters", "value"] f_is_passed_member d_is_passed_member) (G_is_passed_member : FnOk P w K mg base CX0 3 f_is_passed_member d_is_passed_member ["letters", "value"] (upSp K (sp_is_passed_member c_KeptMembers c_Lot c_Refused tb_free_set_in))) :
    FnOk P w K mg base CX0 4 f fd ["letters", "members"] (upSp K (sp_members_told c_KeptMembers c_Lot c_Refused tb_free_set_in)) := by
  refine fun_okD D.fn sc_members_told (fun ds g Q h => len2 h) (fun cdv A outer s H E hr => ⟨_, (pds_cons (pds_if (pt_truD (pd_callB (cr_isiC T.F_KeptMembers.sc T.F_KeptMembers.si kit_me) (ref_isiC T.F_KeptMembers.ni) T.b_isinstance (by decide +kernel) (pda_cons (pdv 1) (pda_cons (pd_globR T.g_KeptMembers) pda_nil)))) (pds_one (pds_ret (pd_fld T.F_KeptMembers.sc T.s_KeptMembers_own_members.choose_spec (pdv 1)))) pds_nil) (pds_cons (pds_if (pwd_pt (pwd_or (pt_notD (pt_truD (pd_callB call_isiY ref_isi T.b_isinstance (by decide +kernel) (pda_cons (pdv 1) (pda_cons (pd_ty (n := "tuple") T.b_tuple (by decide +kernel)) pda_nil))))) (pwd_or1 (pt_cmpD op_gt (RefCmp.op ref_cmp) (pd_callB call_len_seq ref_len T.b_len (by decide +kernel) (pda_cons (pdv 1) pda_nil)) (pd_globI T.c_MAX_PASSED) (nomark _))))) (pds_one pds_never) pds_nil) (pds_cons (pds_if (pt_notD (pt_truD (pd_callB (cr_all rfl) ref_bs T.b_all (by decide +kernel) (pda_cons (pd_lc (own := [("member", 2)]) (tg := .nm 2) rfl sc_members_told.nd (pid_seq (pdv 1)) (blkOk_by (own := [("member", 2)]) (N := N_members_told) (sc := defScope s_members_told) (by decide +kernel)) (fun _ _ _ _ _ => (pgd_nm (i := 2) sc_members_told.nd)) (fun _ _ _ _ _ => ptsd_nil) (fun _ _ _ _ _ => (pd_call G_is_passed_member (hr.mono (by decide)) D_is_passed_member.at_ D_is_passed_member.fn.kp D_is_passed_member.bd pass0 (pda_cons (pdv 0) (pda_cons (pdv 2) pda_nil))))) pda_nil)))) (pds_one pds_never) pds_nil) (pds_one (pds_ret (pd_call G_few_least_of (hr.mono (by decide)) D_few_least_of.at_ D_few_least_of.fn.kp D_few_least_of.bd pass0 (pda_cons (pdv 1) pda_nil))))))), ?_⟩)
  intro ds g Q h
  obtain ⟨a0, a1, rfl, h⟩ := sp2_of h
  rw [show startD N_members_told [a0, a1] = [some a0, some a1, none] from rfl]
  obtain ⟨n, M, e1, n1, n8, ht, k⟩ := h
  subst e1
  rcases ht with e2 | ⟨L, e2, hp, hl, e3⟩
  · subst e2
    walk_at "rr11"
    exact dret k
  · subst e2 e3
    walk_at "rr11"
    refine rd_isiT ?_
    walk_at "rr11"
    rw [decide_eq_false (by rw [List.length_map]; omega)]
    walk_at "rr11"
    refine rd_zK (by rw [List.length_map]; omega) (comp_map (f := fun _ => .bl true) (fun d hd => ?_) ?_)
    · obtain ⟨m, hm, e⟩ := tI_mem hd
      subst e
      refine ⟨_, rfl, fun Q2 h2 => ?_⟩
      walk_at "rr11"
      exact ⟨n, m, rfl, rfl, (hp m hm).1, n8, (hp m hm).2, h2⟩
    · walk_at "rr11"
      refine rd_bs rfl (blsD_fun (fun _ => true) _) ?_
      rw [all_tt]
      walk_at "rr11"
      exact ⟨n, L, .inl rfl, n1, n8, hp.mono (by decide), hl, dret k⟩

abbrev s_Lot___init__ : Stmt := inClass (topS 38) 1
abbrev N_Lot___init__ : List Str := ["self", "letters", "members"]
theorem sc_Lot___init__ : FnScope N_Lot___init__ ["self", "letters", "members"] (defScope s_Lot___init__) := ⟨rfl, rfl, rfl, by decide +kernel, rfl, by decide +kernel, by decide +kernel⟩
abbrev sp_Lot___init__ (c_KeptMembers c_Lot c_Refused tb_free_set_in : Addr) : SpD :=
  sp3 fun a b c g P => ∃ (p : Addr) (n : Nat) (M : List (List Int)), a = .ref p ∧ b = .int (n : Int) ∧ 1 ≤ n ∧ n ≤ 8 ∧ Told c_KeptMembers n c M ∧ g p = some (.ins c_Lot []) ∧ P .non (gup g p (.ins c_Lot [some (.int (n : Int)), some (.tup (M.map tI))]))

local macro_rules | `(tactic| walk_at "rr12") => `(tactic| (repeat (first | (with_reducible first | refine rd_seq ?_ | refine rd_seqE ?_ | refine rd_next ?_ | refine rd_rtE ?_ | refine rd_nxE ?_ | refine rd_nx ?_ | refine rd_rt ?_ | refine rd_drop ?_ | refine rd_ret ?_ | refine rd_c ?_ | refine rd_op ?_ | refine rd_b ?_ | refine rd_bK ?_ | refine rd_nil ?_ | refine rd_cons ?_ | refine rd_cb ?_ | refine rd_call ?_ | refine rd_sp1 ?_ | refine rd_sp2 ?_ | refine rd_sp3 ?_ | refine rd_sto ?_ | refine rd_itet ?_ | refine rd_itef ?_ | refine rd_itnt ?_ | refine rd_itnf ?_) | ((with_reducible apply rd_stoK); (· (first | assumption | exact gup_same))) | ((with_reducible apply rd_var); (· exact rfl)))))
theorem ok_Lot___init__ {P : Program} {w : World} {K : Fg} {mg : Str → Option Value} {base : Heap} {t_ALL t_MAX_EXPONENT t_MAX_LETTERS t_MAX_MEMBERS t_MAX_MEMBER_EXPONENT t_MAX_PASSED : Tok} {c_KeptMembers c_Lot c_Refused tb_free_set_in : Addr} {f f_members_told f_require_letters : Addr} {fd d_members_told d_require_letters : FuncData} (D : Mtd K c_Lot "__init__" "Lot.__init__" s_Lot___init__ ["self", "letters", "members"] f fd) (T : Txt P K mg t_ALL t_MAX_EXPONENT t_MAX_LETTERS t_MAX_MEMBERS t_MAX_MEMBER_EXPONENT t_MAX_PASSED c_KeptMembers c_Lot c_Refused tb_free_set_in) (D_members_told : Dfn K mg "members_told" s_members_told ["letters", "members"] f_members_told d_members_told) (G_members_told : FnOk P w K mg base CX0 4 f_members_told d_members_told ["letters", "members"] (upSp K (sp_members_told c_KeptMembers c_Lot c_Refused tb_free_set_in))) (D_require_letters : Dfn K mg "require_letters" s_require_letters ["letters"] f_require_letters d_require_letters) (G_require_letters : FnOk P w K mg base CX0 4 f_require_letters d_require_letters ["letters"] (upSp K (sp_require_letters c_KeptMembers c_Lot c_Refused tb_free_set_in))) :
    FnOk P w K mg base CX0 5 f fd ["self", "letters", "members"] (upSp K (sp_Lot___init__ c_KeptMembers c_Lot c_Refused tb_free_set_in)) := by
  refine fun_okD D.fn sc_Lot___init__ (fun ds g Q h => len3 h) (fun cdv A outer s H E hr => ⟨_, (pds_cons (pds_expr (pd_call G_require_letters (hr.mono (by decide)) D_require_letters.at_ D_require_letters.fn.kp D_require_letters.bd pass0 (pda_cons (pdv 1) pda_nil))) (pds_cons (pds_sto T.F_Lot.sc T.s_Lot_own_members.choose_spec (pdv 0) (pd_call G_members_told (hr.mono (by decide)) D_members_told.at_ D_members_told.fn.kp D_members_told.bd pass0 (pda_cons (pdv 1) (pda_cons (pdv 2) pda_nil)))) (pds_one (pds_sto T.F_Lot.sc T.s_Lot_own_letters.choose_spec (pdv 0) (pdv 1))))), ?_⟩)
  intro ds g Q h
  obtain ⟨a0, a1, a2, rfl, h⟩ := sp3_of h
  rw [show startD N_Lot___init__ [a0, a1, a2] = [some a0, some a1, some a2] from rfl]
  obtain ⟨p, n, M, e1, e2, n1, n8, ht, hg, k⟩ := h
  subst e1 e2
  walk_at "rr12"
  refine ⟨n, rfl, by omega, by omega, ?_⟩
  walk_at "rr12"
  refine ⟨n, M, rfl, n1, n8, ht, ?_⟩
  walk_at "rr12"
  rw [gup_gup]
  exact dret k

abbrev s_is_all_in : Stmt := topS 43
abbrev N_is_all_in : List Str := ["members"]
theorem sc_is_all_in : FnScope N_is_all_in ["members"] (defScope s_is_all_in) := ⟨rfl, rfl, rfl, by decide +kernel, rfl, by decide +kernel, by decide +kernel⟩
abbrev sp_is_all_in (c_KeptMembers c_Lot c_Refused tb_free_set_in : Addr) : SpD :=
  sp1 fun a g P => ∃ (n : Nat) (M : List (List Int)), a = .tup (M.map tI) ∧ 1 ≤ n ∧ n ≤ 8 ∧ Prods n 60 M ∧ P (.bl (isAllB M)) g

local macro_rules | `(tactic| walk_at "rr13") => `(tactic| (repeat (first | (with_reducible first | refine rd_seq ?_ | refine rd_seqE ?_ | refine rd_next ?_ | refine rd_rtE ?_ | refine rd_nxE ?_ | refine rd_nx ?_ | refine rd_rt ?_ | refine rd_drop ?_ | refine rd_ret ?_ | refine rd_c ?_ | refine rd_op ?_ | refine rd_b ?_ | refine rd_bK ?_ | refine rd_andV ?_ | refine rd_tvKb ?_ | refine rd_nil ?_ | refine rd_cons ?_ | refine rd_cb ?_ | refine rd_call ?_ | refine rd_sp1 ?_ | refine rd_sp2 ?_ | refine rd_sp3 ?_ | refine rd_itet ?_ | refine rd_itef ?_ | refine rd_itnt ?_ | refine rd_itnf ?_) | ((with_reducible apply rd_var); (· exact rfl)) | ((with_reducible apply rd_len); (· (first | assumption | exact seqD_ref (by assumption) | exact seqD_up | exact lstD_ref (by assumption) | exact lstD_up | rfl))) | ((with_reducible apply rd_ix); (· (first | assumption | exact seqD_ref (by assumption) | exact seqD_up | exact lstD_ref (by assumption) | exact lstD_up | rfl)); (· (first | exact atI_c0 _ _ | exact atI_c1 _ _ _ | exact atI_c2 _ _ _ _ | assumption | rfl))))))
theorem ok_is_all_in {P : Program} {w : World} {K : Fg} {mg : Str → Option Value} {base : Heap} {t_ALL t_MAX_EXPONENT t_MAX_LETTERS t_MAX_MEMBERS t_MAX_MEMBER_EXPONENT t_MAX_PASSED : Tok} {c_KeptMembers c_Lot c_Refused tb_free_set_in : Addr} {f : Addr} {fd : FuncData} (D : Dfn K mg "is_all_in" s_is_all_in ["members"] f fd) (T : Txt P K mg t_ALL t_MAX_EXPONENT t_MAX_LETTERS t_MAX_MEMBERS t_MAX_MEMBER_EXPONENT t_MAX_PASSED c_KeptMembers c_Lot c_Refused tb_free_set_in) :
    FnOk P w K mg base CX0 1 f fd ["members"] (upSp K (sp_is_all_in c_KeptMembers c_Lot c_Refused tb_free_set_in)) := by
  refine fun_okD D.fn sc_is_all_in (fun ds g Q h => len1 h) (fun cdv A outer s H E hr => ⟨_, (pds_one (pds_ret (pd_and (pd_cmp (op_eqD hr.units) (RefCmp.op ref_eq) (pd_callB call_len_seq ref_len T.b_len (by decide +kernel) (pda_cons (pdv 0) pda_nil)) pd_int (nomark _)) (pd_one (pd_cmp (op_eqD hr.units) (RefCmp.op ref_eq) (pd_callB (cr_maxS rfl) ref_maxS T.b_max (by decide +kernel) (pda_cons (pd_ix (pdv 0) pd_int) pda_nil)) pd_int (nomark _)))))), ?_⟩)
  intro ds g Q h
  obtain ⟨a0, rfl, h⟩ := sp1_of h
  rw [show startD N_is_all_in [a0] = [some a0] from rfl]
  obtain ⟨n, M, e1, n1, n8, hp, k⟩ := h
  subst e1
  rcases M with _ | ⟨m, _ | ⟨m2, r⟩⟩
  · walk_at "rr13"
    refine rd_eq (okD_int _) (okD_int _) ?_
    rw [eqD_int, decide_eq_false (by simp)]
    walk_at "rr13"
    exact dret k
  · walk_at "rr13"
    refine rd_eq (okD_int _) (okD_int _) ?_
    rw [eqD_int, decide_eq_true (by simp)]
    obtain ⟨h1, h2⟩ := hp m List.mem_cons_self
    walk_at "rr13"
    refine rd_maxS (ns := m) rfl (by omega) fun z hz hzm => ?_
    walk_at "rr13"
    refine rd_eq (okD_int _) (okD_int _) ?_
    rw [eqD_int, max_zero (fun y hy => (h2 y hy).1) hz hzm]
    walk_at "rr13"
    exact dret k
  · walk_at "rr13"
    refine rd_eq (okD_int _) (okD_int _) ?_
    rw [eqD_int, decide_eq_false (by simp; omega)]
    walk_at "rr13"
    exact dret k

abbrev s_require_lot : Stmt := topS 46
abbrev N_require_lot : List Str := ["value"]
theorem sc_require_lot : FnScope N_require_lot ["value"] (defScope s_require_lot) := ⟨rfl, rfl, rfl, by decide +kernel, rfl, by decide +kernel, by decide +kernel⟩
abbrev sp_require_lot (c_KeptMembers c_Lot c_Refused tb_free_set_in : Addr) : SpD :=
  sp1 fun a g P => ∃ (n : Nat) (M : List (List Int)), a = lotD c_Lot n M ∧ P .non g

theorem ok_require_lot {P : Program} {w : World} {K : Fg} {mg : Str → Option Value} {base : Heap} {t_ALL t_MAX_EXPONENT t_MAX_LETTERS t_MAX_MEMBERS t_MAX_MEMBER_EXPONENT t_MAX_PASSED : Tok} {c_KeptMembers c_Lot c_Refused tb_free_set_in : Addr} {f : Addr} {fd : FuncData} (D : Dfn K mg "require_lot" s_require_lot ["value"] f fd) (T : Txt P K mg t_ALL t_MAX_EXPONENT t_MAX_LETTERS t_MAX_MEMBERS t_MAX_MEMBER_EXPONENT t_MAX_PASSED c_KeptMembers c_Lot c_Refused tb_free_set_in) :
    FnOk P w K mg base CX0 1 f fd ["value"] (upSp K (sp_require_lot c_KeptMembers c_Lot c_Refused tb_free_set_in)) := by
  refine fun_okD D.fn sc_require_lot (fun ds g Q h => len1 h) (fun cdv A outer s H E hr => ⟨_, (pds_one (pds_if (pt_notD (pt_truD (pd_callB (cr_isiC T.F_Lot.sc T.F_Lot.si kit_me) (ref_isiC T.F_Lot.ni) T.b_isinstance (by decide +kernel) (pda_cons (pdv 0) (pda_cons (pd_globR T.g_Lot) pda_nil))))) (pds_one pds_never) pds_nil)), ?_⟩)
  intro ds g Q h
  obtain ⟨a0, rfl, h⟩ := sp1_of h
  rw [show startD N_require_lot [a0] = [some a0] from rfl]
  obtain ⟨n, M, e1, k⟩ := h
  subst e1
  (repeat (first | (with_reducible first | refine rd_seq ?_ | refine rd_seqE ?_ | refine rd_next ?_ | refine rd_rtE ?_ | refine rd_nxE ?_ | refine rd_nx ?_ | refine rd_rt ?_ | refine rd_drop ?_ | refine rd_ret ?_ | refine rd_dif ?_ | refine rd_c ?_ | refine rd_op ?_ | refine rd_b ?_ | refine rd_bK ?_ | refine rd_tru ?_ | refine rd_tKb ?_ | refine rd_not ?_ | refine rd_nil ?_ | refine rd_cons ?_ | refine rd_cb ?_ | refine rd_call ?_ | refine rd_sp1 ?_ | refine rd_sp2 ?_ | refine rd_sp3 ?_ | refine rd_isiCI ?_ | refine rd_isiCT ?_ | refine rd_itet ?_ | refine rd_itef ?_ | refine rd_itnt ?_ | refine rd_itnf ?_) | ((with_reducible apply rd_var); (· exact rfl))))
  exact dret k

abbrev s_is_free_in : Stmt := topS 49
abbrev N_is_free_in : List Str := ["members", "letters_told", "one", "place", "entry"]
theorem sc_is_free_in : FnScope N_is_free_in ["members", "letters_told"] (defScope s_is_free_in) := ⟨rfl, rfl, rfl, by decide +kernel, rfl, by decide +kernel, by decide +kernel⟩
abbrev sp_is_free_in (c_KeptMembers c_Lot c_Refused tb_free_set_in : Addr) : SpD :=
  sp2 fun a b g P => ∃ (n : Nat) (M : List (List Int)) (s : List Int), a = .tup (M.map tI) ∧ b = tI s ∧ n ≤ 8 ∧ Prods n 60 M ∧ M.length ≤ 24 ∧ P (.bl (freeB M s)) g

local macro_rules | `(tactic| walk_at "rr14") => `(tactic| (repeat (first | (with_reducible first | refine rd_seq ?_ | refine rd_seqE ?_ | refine rd_next ?_ | refine rd_rtE ?_ | refine rd_nxE ?_ | refine rd_nx ?_ | refine rd_rt ?_ | refine rd_drop ?_ | refine rd_ret ?_ | refine rd_c ?_ | refine rd_op ?_ | refine rd_b ?_ | refine rd_bK ?_ | refine rd_andV ?_ | refine rd_tvKb ?_ | refine rd_nil ?_ | refine rd_cons ?_ | refine rd_cb ?_ | refine rd_call ?_ | refine rd_sp1 ?_ | refine rd_sp2 ?_ | refine rd_sp3 ?_ | refine rd_cmp ?_ | refine rd_lc ?_ | refine rd_yes ?_ | refine rd_wseq ?_ | refine rd_wsT ?_ | refine rd_wsL ?_ | refine rd_wsS ?_ | refine rd_wenT ?_ | refine rd_enK ?_ | refine rd_itet ?_ | refine rd_itef ?_ | refine rd_itnt ?_ | refine rd_itnf ?_) | ((with_reducible apply rd_var); (· exact rfl)))))
theorem ok_is_free_in {P : Program} {w : World} {K : Fg} {mg : Str → Option Value} {base : Heap} {t_ALL t_MAX_EXPONENT t_MAX_LETTERS t_MAX_MEMBERS t_MAX_MEMBER_EXPONENT t_MAX_PASSED : Tok} {c_KeptMembers c_Lot c_Refused tb_free_set_in : Addr} {f : Addr} {fd : FuncData} (D : Dfn K mg "is_free_in" s_is_free_in ["members", "letters_told"] f fd) (T : Txt P K mg t_ALL t_MAX_EXPONENT t_MAX_LETTERS t_MAX_MEMBERS t_MAX_MEMBER_EXPONENT t_MAX_PASSED c_KeptMembers c_Lot c_Refused tb_free_set_in) :
    FnOk P w K mg base CX0 1 f fd ["members", "letters_told"] (upSp K (sp_is_free_in c_KeptMembers c_Lot c_Refused tb_free_set_in)) := by
  refine fun_okD D.fn sc_is_free_in (fun ds g Q h => len2 h) (fun cdv A outer s H E hr => ⟨_, (pds_one (pds_ret (pd_callB (cr_all rfl) ref_bs T.b_all (by decide +kernel) (pda_cons (pd_lc (own := [("one", 2)]) (tg := .nm 2) rfl sc_is_free_in.nd (pid_seq (pdv 0)) (blkOk_by (own := [("one", 2)]) (N := N_is_free_in) (sc := defScope s_is_free_in) (by decide +kernel)) (fun _ _ _ _ _ => (pgd_nm (i := 2) sc_is_free_in.nd)) (fun _ _ _ _ _ => ptsd_nil) (fun _ _ _ _ _ => (pd_callB (cr_any rfl) ref_bs T.b_any (by decide +kernel) (pda_cons (pd_lc (own := [("place", 3), ("entry", 4)]) (tg := .tp [3, 4]) rfl sc_is_free_in.nd (pid_enT T.b_enumerate (pda_cons (pdv 2) pda_nil)) (blkOk_by (own := [("place", 3), ("entry", 4)]) (N := N_is_free_in) (by kernel_rfl)) (fun _ _ _ _ _ => (pgd_tp (is := [3, 4]) rfl (pgd_cons (i := 3) (pgd_nm (i := 3) sc_is_free_in.nd) (pgd_cons (i := 4) (pgd_nm (i := 4) sc_is_free_in.nd) pgd_nil)))) (fun _ _ _ _ _ => ptsd_nil) (fun _ _ _ _ _ => (pd_and (pd_cmp op_gt (RefCmp.op ref_cmp) (pdv 4) pd_int (nomark _)) (pd_one (pd_cmp (op_notInTp (units65 hr)) (RefCmp.op ref_inTp) (pdv 3) (pdv 1) (by rfl)))))) pda_nil)))) pda_nil)))), ?_⟩)
  intro ds g Q h
  obtain ⟨a0, a1, rfl, h⟩ := sp2_of h
  rw [show startD N_is_free_in [a0, a1] = [some a0, some a1, none, none, none] from rfl]
  obtain ⟨n, M, s, e1, e2, n8, hM, hl, k⟩ := h
  subst e1 e2
  walk_at "rr14"
  refine rd_zK (by rw [List.length_map]; omega) (comp_map (f := fun d => .bl (freeM s (ofT d))) (fun d hd => ?_) ?_)
  · obtain ⟨m, hm, e⟩ := tI_mem hd
    subst e
    have hml := (hM m hm).1
    refine ⟨_, rfl, fun Q2 h2 => ?_⟩
    walk_at "rr14"
    refine rd_zK (by rw [en_ints14, List.length_map, List.length_range]; omega) (comp_map (f := fun d => .bl (freeD s d)) (fun d hd => ?_) ?_)
    · rw [en_ints14] at hd
      obtain ⟨i, hi, e⟩ := List.mem_map.mp hd
      subst e
      refine ⟨_, rfl, fun Q3 h3 => ?_⟩
      walk_at "rr14"
      have h3 : Q3 (.bl (decide (0 < m.getD i 0) && !decide ((i : Int) ∈ s))) g := h3
      by_cases c : 0 < m.getD i 0
      · rw [if_pos (decide_eq_true c)]
        walk_at "rr14"
        refine rd_inTp (neg := true) (okD_int _) (okD_tI _) ?_
        rw [if_pos rfl, any_ints]
        rw [decide_eq_true c, Bool.true_and] at h3
        exact h3
      · rw [if_neg (by simpa using c)]
        rw [decide_eq_false c, Bool.false_and] at h3
        rw [decide_eq_false c]
        exact h3
    · walk_at "rr14"
      refine rd_bs rfl (blsD_fun (freeD s) _) ?_
      rw [any_id_map, freeD_at]
      rw [ofT_tI] at h2
      exact h2
  · walk_at "rr14"
    refine rd_bs rfl (blsD_fun (fun d => freeM s (ofT d)) _) ?_
    rw [all_id_map, List.all_map, show (M.all ((fun d => freeM s (ofT d)) ∘ tI)) = freeB M s from by unfold freeB; congr 1; funext m; show freeM s (ofT (tI m)) = _; rw [ofT_tI]]
    walk_at "rr14"
    exact dret k

abbrev s_sets_of : Stmt := topS 50
abbrev N_sets_of : List Str := ["letters", "size", "found", "place", "one"]
theorem sc_sets_of : FnScope N_sets_of ["letters", "size"] (defScope s_sets_of) := ⟨rfl, rfl, rfl, by decide +kernel, rfl, by decide +kernel, by decide +kernel⟩
abbrev sp_sets_of (c_KeptMembers c_Lot c_Refused tb_free_set_in : Addr) : SpD :=
  sp2 fun a b g P => ∃ (n k : Nat), a = .int (n : Int) ∧ b = .int (k : Int) ∧ n ≤ 8 ∧ k ≤ 8 ∧ P (.lst ((setsE n k).map tI)) g

local macro_rules | `(tactic| walk_at "rr15") => `(tactic| (repeat (first | (with_reducible first | refine rd_seq ?_ | refine rd_seqE ?_ | refine rd_next ?_ | refine rd_rtE ?_ | refine rd_nxE ?_ | refine rd_nx ?_ | refine rd_rt ?_ | refine rd_ct ?_ | refine rd_bk ?_ | refine rd_drop ?_ | refine rd_ret ?_ | refine rd_asg ?_ | refine rd_for ?_ | refine rd_c ?_ | refine rd_op ?_ | refine rd_b ?_ | refine rd_bK ?_ | refine rd_nil ?_ | refine rd_cons ?_ | refine rd_tup ?_ | refine rd_lst ?_ | refine rd_cb ?_ | refine rd_call ?_ | refine rd_sp1 ?_ | refine rd_sp2 ?_ | refine rd_sp3 ?_ | refine rd_cmp ?_ | refine rd_lc ?_ | refine rd_wseq ?_ | refine rd_wsT ?_ | refine rd_wsL ?_ | refine rd_wsS ?_ | refine rd_rng1 ?_ | refine rd_star ?_ | refine rd_itet ?_ | refine rd_itef ?_ | refine rd_itnt ?_ | refine rd_itnf ?_) | ((with_reducible apply rd_var); (· exact rfl)) | ((with_reducible apply rd_asgK); (· exact rfl)) | ((with_reducible apply rd_len); (· (first | assumption | exact seqD_ref (by assumption) | exact seqD_up | exact lstD_ref (by assumption) | exact lstD_up | rfl))) | ((with_reducible apply rd_stK); (· (first | assumption | exact seqD_ref (by assumption) | exact seqD_up | exact lstD_ref (by assumption) | exact lstD_up | rfl))))))
theorem ok_sets_of {P : Program} {w : World} {K : Fg} {mg : Str → Option Value} {base : Heap} {t_ALL t_MAX_EXPONENT t_MAX_LETTERS t_MAX_MEMBERS t_MAX_MEMBER_EXPONENT t_MAX_PASSED : Tok} {c_KeptMembers c_Lot c_Refused tb_free_set_in : Addr} {f : Addr} {fd : FuncData} (D : Dfn K mg "sets_of" s_sets_of ["letters", "size"] f fd) (T : Txt P K mg t_ALL t_MAX_EXPONENT t_MAX_LETTERS t_MAX_MEMBERS t_MAX_MEMBER_EXPONENT t_MAX_PASSED c_KeptMembers c_Lot c_Refused tb_free_set_in) :
    FnOk P w K mg base CX0 1 f fd ["letters", "size"] (upSp K (sp_sets_of c_KeptMembers c_Lot c_Refused tb_free_set_in)) := by
  refine fun_okD D.fn sc_sets_of (fun ds g Q h => len2 h) (fun cdv A outer s H E hr => ⟨_, (pds_cons (pds_set (i := 2) sc_sets_of.nd (pd_lst (pda_cons (pd_tup pda_nil) pda_nil))) (pds_cons (pds_for (tg := .nm 3) PassesOwn.never rfl (pid_range1 T.b_range (pda_cons (pdv 0) pda_nil)) (pgd_nm (i := 3) sc_sets_of.nd) (pds_one (pds_set (i := 2) sc_sets_of.nd (pd_lst (pda_star (pdv 2) (pda_star (pd_lc (own := [("one", 4)]) (tg := .nm 4) rfl sc_sets_of.nd (pid_seq (pdv 2)) (blkOk_by (own := [("one", 4)]) (N := N_sets_of) (sc := defScope s_sets_of) (by decide +kernel)) (fun _ _ _ _ _ => (pgd_nm (i := 4) sc_sets_of.nd)) (fun _ _ _ _ _ => (ptsd_one (pt_cmpD op_lt (RefCmp.op ref_cmp) (pd_callB call_len_seq ref_len T.b_len (by decide +kernel) (pda_cons (pdv 4) pda_nil)) (pdv 1) (nomark _)))) (fun _ _ _ _ _ => (pd_tup (pda_star (pdv 4) (pda_cons (pdv 3) pda_nil))))) pda_nil)))))) (pds_one (pds_ret (pd_lc (own := [("one", 4)]) (tg := .nm 4) rfl sc_sets_of.nd (pid_seq (pdv 2)) (blkOk_by (own := [("one", 4)]) (N := N_sets_of) (sc := defScope s_sets_of) (by decide +kernel)) (fun _ _ _ _ _ => (pgd_nm (i := 4) sc_sets_of.nd)) (fun _ _ _ _ _ => (ptsd_one (pt_cmpD (op_eqD hr.units) (RefCmp.op ref_eq) (pd_callB call_len_seq ref_len T.b_len (by decide +kernel) (pda_cons (pdv 4) pda_nil)) (pdv 1) (nomark _)))) (fun _ _ _ _ _ => (pdv 4))))))), ?_⟩)
  intro ds g Q h
  obtain ⟨a0, a1, rfl, h⟩ := sp2_of h
  rw [show startD N_sets_of [a0, a1] = [some a0, some a1, none, none, none] from rfl]
  obtain ⟨n, k, e1, e2, hn, hk, kk⟩ := h
  subst e1 e2
  walk_at "rr15"
  refine rd_zK (by show 0 ≤ 16777216; decide) ?_
  walk_at "rr15"
  refine rd_zK (by show 1 ≤ 16777216; decide) ?_
  walk_at "rr15"
  refine rd_rng1K ⟨by omega, by omega⟩ ?_
  refine rd_loopX (I := fun i δ g' => g' = g ∧ ∃ v3 v4 : Option DV, δ = [some (.int (n : Int)), some (.int (k : Int)), some (.lst ((setsK k i).map tI)), v3, v4]) ⟨rfl, none, none, rfl⟩ ?_ ?_
  · intro i d hd δ g' f hf hI
    obtain ⟨eg, v3, v4, e⟩ := hI
    subst eg e
    obtain ⟨hi, e⟩ := rangeD_at hd
    subst e
    have hl := setsK_le (k := k) (n := i) (by omega)
    have hl2 := setsK_le (k := k) (n := i + 1) (by omega)
    refine ⟨_, rfl, ?_⟩
    walk_at "rr15"
    refine rd_zK (by rw [List.length_map]; omega) (comp_fil (p := ltLen (k : Int)) (f := endT (i : Int)) (fun d hd => ?_) ?_)
    · obtain ⟨x, hx, e⟩ := tI_mem hd
      subst e
      have hx8 := setsK_each hx
      refine ⟨_, rfl, fun Q' h' => ?_, fun _ Q2 h2 => ?_⟩
      · walk_at "rr15"
        exact h'
      · walk_at "rr15"
        refine rd_zK (by rw [List.length_append, List.length_map]; show x.length + 1 ≤ 16777216; omega) ?_
        exact h2
    · walk_at "rr15"
      rw [List.append_nil, setsK_D]
      refine rd_zK (by rw [List.length_map]; omega) ?_
      walk_at "rr15"
      exact hf _ _ ⟨rfl, _, _, rfl⟩
  · intro δ g' hI
    obtain ⟨eg, v3, v4, e⟩ := hI
    subst eg e
    have hl := setsK_le (k := k) (n := n) hn
    rw [rangeD_len, Int.toNat_natCast]
    walk_at "rr15"
    refine rd_zK (by rw [List.length_map]; omega) (comp_fil (p := eqLen (k : Int)) (f := fun d => d) (fun d hd => ?_) ?_)
    · obtain ⟨x, hx, e⟩ := tI_mem hd
      subst e
      refine ⟨_, rfl, fun Q' h' => ?_, fun _ Q2 h2 => ?_⟩
      · walk_at "rr15"
        refine rd_eq (okD_int _) (okD_int _) ?_
        rw [eqD_int]
        walk_at "rr15"
        exact h'
      · walk_at "rr15"
        exact h2
    · rw [setsE_D]
      exact dret kk

abbrev s_free_set_in : Stmt := topS 51
abbrev N_free_set_in : List Str := ["lot", "size", "found", "one"]
theorem sc_free_set_in : FnScope N_free_set_in ["lot"] (defScope s_free_set_in) := ⟨rfl, rfl, rfl, by decide +kernel, rfl, by decide +kernel, by decide +kernel⟩
abbrev sp_free_set_in (c_KeptMembers c_Lot c_Refused tb_free_set_in : Addr) : SpD :=
  sp1 fun a g P => ∃ (n : Nat) (M : List (List Int)), a = lotD c_Lot n M ∧ n ≤ 8 ∧ Prods n 60 M ∧ M.length ≤ 24 ∧ TbG (TT tb_free_set_in) g ∧ P ((fsI n M).elim .non tI) g

local macro_rules | `(tactic| walk_at "rr16") => `(tactic| (repeat (first | (with_reducible first | refine rd_seq ?_ | refine rd_seqE ?_ | refine rd_next ?_ | refine rd_rtE ?_ | refine rd_nxE ?_ | refine rd_nx ?_ | refine rd_rt ?_ | refine rd_ct ?_ | refine rd_bk ?_ | refine rd_drop ?_ | refine rd_ret ?_ | refine rd_dif ?_ | refine rd_asg ?_ | refine rd_for ?_ | refine rd_c ?_ | refine rd_op ?_ | refine rd_un ?_ | refine rd_b ?_ | refine rd_bK ?_ | refine rd_tru ?_ | refine rd_tKb ?_ | refine rd_nil ?_ | refine rd_cons ?_ | refine rd_cb ?_ | refine rd_call ?_ | refine rd_sp1 ?_ | refine rd_sp2 ?_ | refine rd_sp3 ?_ | refine rd_wseq ?_ | refine rd_wsT ?_ | refine rd_wsL ?_ | refine rd_wsS ?_ | refine rd_rngD ?_ | refine rd_ng ?_ | refine rd_fld ?_ | refine rd_gnx ?_ | refine rd_itet ?_ | refine rd_itef ?_ | refine rd_itnt ?_ | refine rd_itnf ?_) | ((with_reducible apply rd_flI); (· exact rfl)) | ((with_reducible apply rd_flR); (· (first | assumption | exact gup_same)); (· exact rfl)) | ((with_reducible apply rd_var); (· exact rfl)) | ((with_reducible apply rd_asgK); (· exact rfl)))))
theorem ok_free_set_in {P : Program} {w : World} {K : Fg} {mg : Str → Option Value} {base : Heap} {t_ALL t_MAX_EXPONENT t_MAX_LETTERS t_MAX_MEMBERS t_MAX_MEMBER_EXPONENT t_MAX_PASSED : Tok} {c_KeptMembers c_Lot c_Refused tb_free_set_in : Addr} {f cc_free_set_in f_sets_of f_is_free_in : Addr} {fd d_sets_of d_is_free_in : FuncData} (D : DfnC K mg "free_set_in" s_free_set_in ["lot"] f fd cc_free_set_in) (T : Txt P K mg t_ALL t_MAX_EXPONENT t_MAX_LETTERS t_MAX_MEMBERS t_MAX_MEMBER_EXPONENT t_MAX_PASSED c_KeptMembers c_Lot c_Refused tb_free_set_in) (B_free_set_in : TabB base mg cc_free_set_in tb_free_set_in) (D_sets_of : Dfn K mg "sets_of" s_sets_of ["letters", "size"] f_sets_of d_sets_of) (G_sets_of : FnOk P w K mg base CX0 1 f_sets_of d_sets_of ["letters", "size"] (upSp K (sp_sets_of c_KeptMembers c_Lot c_Refused tb_free_set_in))) (D_is_free_in : Dfn K mg "is_free_in" s_is_free_in ["members", "letters_told"] f_is_free_in d_is_free_in) (G_is_free_in : FnOk P w K mg base CX0 1 f_is_free_in d_is_free_in ["members", "letters_told"] (upSp K (sp_is_free_in c_KeptMembers c_Lot c_Refused tb_free_set_in))) :
    FnG P w K mg base 4 f fd ["lot"] (upSp K (sp_free_set_in c_KeptMembers c_Lot c_Refused tb_free_set_in)) := by
  refine fun_okG D.fn sc_free_set_in (fun ds g Q h => len1 h) (fun A outer s H E hr hgd => ⟨_, (pds_cons (pds_for (tg := .nm 1) PassesOwn.never rfl (pid_rangeD T.b_range (pda_cons (pd_fld T.F_Lot.sc T.s_Lot_own_letters.choose_spec (pdv 0)) (pda_cons (pd_neg pd_int) (pda_cons (pd_neg pd_int) pda_nil)))) (pgd_nm (i := 1) sc_free_set_in.nd) (pds_cons (pds_set (i := 2) sc_free_set_in.nd (pd_nx (own := [("one", 3)]) (tg := .nm 3) (k := 1) T.b_next sc_free_set_in.nd B_free_set_in (hr.mono (by decide)) hgd (pid_seq (pd_call G_sets_of (hr.mono (by decide)) D_sets_of.at_ D_sets_of.fn.kp D_sets_of.bd pass0 (pda_cons (pd_fld T.F_Lot.sc T.s_Lot_own_letters.choose_spec (pdv 0)) (pda_cons (pdv 1) pda_nil)))) (genS_by (own := [("one", 3)]) (N := N_free_set_in) (sc := defScope s_free_set_in) (by decide +kernel)) (fun A s H C code fp hr hgd => (pgd_nm (i := 3) sc_free_set_in.nd)) (fun A s H C code fp hr hgd => (ptsd_one (pt_truD (pd_call G_is_free_in (hr.mono (by decide)) D_is_free_in.at_ D_is_free_in.fn.kp D_is_free_in.bd pass0 (pda_cons (pd_fld T.F_Lot.sc T.s_Lot_own_members.choose_spec (pdv 0)) (pda_cons (pdv 3) pda_nil)))))) (fun A s H C code fp hr hgd => (pdv 3)))) (pds_one (pds_if (pt_cmpD op_notN (RefCmp.op ref_notN) (pdv 2) pd_non (nomark _)) (pds_one (pds_ret (pdv 2))) pds_nil)))) (pds_one (pds_ret pd_non))), ?_⟩)
  intro ds g Q h
  obtain ⟨a0, rfl, h⟩ := sp1_of h
  rw [show startD N_free_set_in [a0] = [some a0, none, none, none] from rfl]
  obtain ⟨n, M, e1, n8, hM, hl, hT, k⟩ := h
  subst e1
  have hT1 := tt_free_set_in hT
  walk_at "rr16"
  refine rd_rngDK ⟨by omega, by omega, by decide, by decide⟩ ?_
  refine rd_loopX (I := fun i δ g' => g' = g ∧ (i ≤ n + 1 ∧ fsI n M = fsK n M (n + 1 - i)) ∧ ∃ v1 v2 v3 : Option DV, δ = [some (lotD c_Lot n M), v1, v2, v3]) ⟨rfl, ⟨by omega, rfl⟩, none, none, none, rfl⟩ ?_ ?_
  · intro i d hd δ g' f hf hI
    obtain ⟨eg, ⟨hi, hf0⟩, v1, v2, v3, e⟩ := hI
    subst eg e
    obtain ⟨hi2, e⟩ := downD_at hd
    subst e
    have hin : i ≤ n := by omega
    have ei : (n : Int) - (i : Int) = ((n - i : Nat) : Int) := by omega
    rw [show n + 1 - i = (n - i) + 1 by omega] at hf0
    refine ⟨_, rfl, ?_⟩
    walk_at "rr16"
    refine ⟨n, n - i, rfl, by rw [← ei], n8, by omega, ?_⟩
    refine rd_gnxK hT hT1 ?_
    refine find_first tI tI (freeB M) _ (fun x hx => ⟨_, rfl, fun R h' => ?_⟩) (fun x hx hp δ2 e h' => ?_) ?_
    · walk_at "rr16"
      exact ⟨n, M, x, rfl, rfl, n8, hM, hl, h'⟩
    · cases e
      walk_at "rr16"
      exact h'
    · cases hfd : (setsE n (n - i)).find? (freeB M) with
      | some s =>
        rw [fsK_hit hfd] at hf0
        rw [hf0] at k
        walk_at "rr16"
        exact dret k
      | none =>
        rw [fsK_step hfd] at hf0
        walk_at "rr16"
        exact hf _ _ ⟨rfl, ⟨by omega, by rw [hf0]; congr 1; omega⟩, _, _, _, rfl⟩
  · intro δ g' hI
    obtain ⟨eg, ⟨hi, hf0⟩, v1, v2, v3, e⟩ := hI
    subst eg e
    rw [downD_len, show ((n : Int) - -1).toNat = n + 1 by omega, Nat.sub_self] at hf0
    rw [hf0] at k
    walk_at "rr16"
    exact dret k

abbrev s_dimension_in : Stmt := topS 52
abbrev N_dimension_in : List Str := ["lot", "found"]
theorem sc_dimension_in : FnScope N_dimension_in ["lot"] (defScope s_dimension_in) := ⟨rfl, rfl, rfl, by decide +kernel, rfl, by decide +kernel, by decide +kernel⟩
abbrev sp_dimension_in (c_KeptMembers c_Lot c_Refused tb_free_set_in : Addr) : SpD :=
  sp1 fun a g P => ∃ (n : Nat) (M : List (List Int)), a = lotD c_Lot n M ∧ n ≤ 8 ∧ Prods n 60 M ∧ M.length ≤ 24 ∧ TbG (TT tb_free_set_in) g ∧ P (.int (dimI n M)) g

local macro_rules | `(tactic| walk_at "rr17") => `(tactic| (repeat (first | (with_reducible first | refine rd_seq ?_ | refine rd_seqE ?_ | refine rd_next ?_ | refine rd_rtE ?_ | refine rd_nxE ?_ | refine rd_nx ?_ | refine rd_rt ?_ | refine rd_drop ?_ | refine rd_ret ?_ | refine rd_asg ?_ | refine rd_c ?_ | refine rd_op ?_ | refine rd_un ?_ | refine rd_b ?_ | refine rd_bK ?_ | refine rd_ifE ?_ | refine rd_nil ?_ | refine rd_cons ?_ | refine rd_cb ?_ | refine rd_call ?_ | refine rd_sp1 ?_ | refine rd_sp2 ?_ | refine rd_sp3 ?_ | refine rd_ng ?_ | refine rd_itet ?_ | refine rd_itef ?_ | refine rd_itnt ?_ | refine rd_itnf ?_) | ((with_reducible apply rd_var); (· exact rfl)) | ((with_reducible apply rd_asgK); (· exact rfl)) | ((with_reducible apply rd_len); (· (first | assumption | exact seqD_ref (by assumption) | exact seqD_up | exact lstD_ref (by assumption) | exact lstD_up | rfl))))))
theorem ok_dimension_in {P : Program} {w : World} {K : Fg} {mg : Str → Option Value} {base : Heap} {t_ALL t_MAX_EXPONENT t_MAX_LETTERS t_MAX_MEMBERS t_MAX_MEMBER_EXPONENT t_MAX_PASSED : Tok} {c_KeptMembers c_Lot c_Refused tb_free_set_in : Addr} {f cc_dimension_in f_free_set_in cc_free_set_in : Addr} {fd d_free_set_in : FuncData} (D : DfnC K mg "dimension_in" s_dimension_in ["lot"] f fd cc_dimension_in) (T : Txt P K mg t_ALL t_MAX_EXPONENT t_MAX_LETTERS t_MAX_MEMBERS t_MAX_MEMBER_EXPONENT t_MAX_PASSED c_KeptMembers c_Lot c_Refused tb_free_set_in) (D_free_set_in : DfnC K mg "free_set_in" s_free_set_in ["lot"] f_free_set_in d_free_set_in cc_free_set_in) (G_free_set_in : FnG P w K mg base 4 f_free_set_in d_free_set_in ["lot"] (upSp K (sp_free_set_in c_KeptMembers c_Lot c_Refused tb_free_set_in))) :
    FnG P w K mg base 5 f fd ["lot"] (upSp K (sp_dimension_in c_KeptMembers c_Lot c_Refused tb_free_set_in)) := by
  refine fun_okG D.fn sc_dimension_in (fun ds g Q h => len1 h) (fun A outer s H E hr hgd => ⟨_, (pds_cons (pds_set (i := 1) sc_dimension_in.nd (pd_callG G_free_set_in (hr.mono (by decide)) hgd D_free_set_in.at_ D_free_set_in.fn.kp D_free_set_in.bd (pda_cons (pdv 0) pda_nil))) (pds_one (pds_ret (pd_ifExp (pt_cmpD op_isN (RefCmp.op ref_isN) (pdv 1) pd_non (nomark _)) (pd_neg pd_int) (pd_callB call_len_seq ref_len T.b_len (by decide +kernel) (pda_cons (pdv 1) pda_nil)))))), ?_⟩)
  intro ds g Q h
  obtain ⟨a0, rfl, h⟩ := sp1_of h
  rw [show startD N_dimension_in [a0] = [some a0, none] from rfl]
  obtain ⟨n, M, e1, n8, hM, hl, hT, k⟩ := h
  subst e1
  walk_at "rr17"
  refine ⟨n, M, rfl, n8, hM, hl, hT, ?_⟩
  cases hfd : fsI n M with
  | none =>
    unfold dimI at k
    rw [hfd] at k
    dsimp only [Option.elim]
    walk_at "rr17"
    exact dret k
  | some s =>
    unfold dimI at k
    rw [hfd] at k
    dsimp only [Option.elim]
    have k2 : Q (.int ((s.map DV.int).length : Int)) g := by rw [List.length_map]; exact k
    walk_at "rr17"
    exact dret k2

abbrev s_dimension : Stmt := topS 53
abbrev N_dimension : List Str := ["lot"]
theorem sc_dimension : FnScope N_dimension ["lot"] (defScope s_dimension) := ⟨rfl, rfl, rfl, by decide +kernel, rfl, by decide +kernel, by decide +kernel⟩
abbrev sp_dimension (c_KeptMembers c_Lot c_Refused tb_free_set_in : Addr) : SpD :=
  sp1 fun a g P => ∃ (n : Nat) (M : List (List Int)), a = lotD c_Lot n M ∧ n ≤ 8 ∧ Prods n 60 M ∧ M.length ≤ 24 ∧ TbG (TT tb_free_set_in) g ∧ P (.int (dimI n M)) g

local macro_rules | `(tactic| walk_at "rr18") => `(tactic| (repeat (first | (with_reducible first | refine rd_seq ?_ | refine rd_seqE ?_ | refine rd_next ?_ | refine rd_rtE ?_ | refine rd_nxE ?_ | refine rd_nx ?_ | refine rd_rt ?_ | refine rd_drop ?_ | refine rd_ret ?_ | refine rd_c ?_ | refine rd_op ?_ | refine rd_b ?_ | refine rd_bK ?_ | refine rd_nil ?_ | refine rd_cons ?_ | refine rd_cb ?_ | refine rd_call ?_ | refine rd_sp1 ?_ | refine rd_sp2 ?_ | refine rd_sp3 ?_ | refine rd_itet ?_ | refine rd_itef ?_ | refine rd_itnt ?_ | refine rd_itnf ?_) | ((with_reducible apply rd_var); (· exact rfl)))))
theorem ok_dimension {P : Program} {w : World} {K : Fg} {mg : Str → Option Value} {base : Heap} {t_ALL t_MAX_EXPONENT t_MAX_LETTERS t_MAX_MEMBERS t_MAX_MEMBER_EXPONENT t_MAX_PASSED : Tok} {c_KeptMembers c_Lot c_Refused tb_free_set_in : Addr} {f cc_dimension f_dimension_in cc_dimension_in f_require_lot : Addr} {fd d_dimension_in d_require_lot : FuncData} (D : DfnC K mg "dimension" s_dimension ["lot"] f fd cc_dimension) (T : Txt P K mg t_ALL t_MAX_EXPONENT t_MAX_LETTERS t_MAX_MEMBERS t_MAX_MEMBER_EXPONENT t_MAX_PASSED c_KeptMembers c_Lot c_Refused tb_free_set_in) (D_dimension_in : DfnC K mg "dimension_in" s_dimension_in ["lot"] f_dimension_in d_dimension_in cc_dimension_in) (G_dimension_in : FnG P w K mg base 5 f_dimension_in d_dimension_in ["lot"] (upSp K (sp_dimension_in c_KeptMembers c_Lot c_Refused tb_free_set_in))) (D_require_lot : Dfn K mg "require_lot" s_require_lot ["value"] f_require_lot d_require_lot) (G_require_lot : FnOk P w K mg base CX0 1 f_require_lot d_require_lot ["value"] (upSp K (sp_require_lot c_KeptMembers c_Lot c_Refused tb_free_set_in))) :
    FnG P w K mg base 6 f fd ["lot"] (upSp K (sp_dimension c_KeptMembers c_Lot c_Refused tb_free_set_in)) := by
  refine fun_okG D.fn sc_dimension (fun ds g Q h => len1 h) (fun A outer s H E hr hgd => ⟨_, (pds_cons (pds_expr (pd_call G_require_lot (hr.mono (by decide)) D_require_lot.at_ D_require_lot.fn.kp D_require_lot.bd pass0 (pda_cons (pdv 0) pda_nil))) (pds_one (pds_ret (pd_callG G_dimension_in (hr.mono (by decide)) hgd D_dimension_in.at_ D_dimension_in.fn.kp D_dimension_in.bd (pda_cons (pdv 0) pda_nil))))), ?_⟩)
  intro ds g Q h
  obtain ⟨a0, rfl, h⟩ := sp1_of h
  rw [show startD N_dimension [a0] = [some a0] from rfl]
  obtain ⟨n, M, e1, n8, hM, hl, hT, k⟩ := h
  subst e1
  walk_at "rr18"
  refine ⟨n, M, rfl, ?_⟩
  walk_at "rr18"
  exact ⟨n, M, rfl, n8, hM, hl, hT, dret k⟩

abbrev s_require_some_left : Stmt := topS 54
abbrev N_require_some_left : List Str := ["lot"]
theorem sc_require_some_left : FnScope N_require_some_left ["lot"] (defScope s_require_some_left) := ⟨rfl, rfl, rfl, by decide +kernel, rfl, by decide +kernel, by decide +kernel⟩
abbrev sp_require_some_left (c_KeptMembers c_Lot c_Refused tb_free_set_in : Addr) : SpD :=
  sp1 fun a g P => ∃ (n : Nat) (M : List (List Int)), a = lotD c_Lot n M ∧ 1 ≤ n ∧ n ≤ 8 ∧ Prods n 60 M ∧ isAllB M = false ∧ P .non g
abbrev spR_require_some_left (c_KeptMembers c_Lot c_Refused tb_free_set_in : Addr) : SpR :=
  sr1 fun a g W => ∃ (n : Nat) (M : List (List Int)), a = lotD c_Lot n M ∧ 1 ≤ n ∧ n ≤ 8 ∧ Prods n 60 M ∧ isAllB M = true ∧ W ⟨c_Refused, [("reason", .tup [.str "all"])]⟩ g

local macro_rules | `(tactic| walk_at "rr19") => `(tactic| (repeat (first | (with_reducible first | refine rd_seq ?_ | refine rd_seqE ?_ | refine rd_next ?_ | refine rd_rtE ?_ | refine rd_nxE ?_ | refine rd_nx ?_ | refine rd_rt ?_ | refine rd_drop ?_ | refine rd_ret ?_ | refine rd_dif ?_ | refine rd_c ?_ | refine rd_op ?_ | refine rd_b ?_ | refine rd_bK ?_ | refine rd_tru ?_ | refine rd_tKb ?_ | refine rd_nil ?_ | refine rd_cons ?_ | refine rd_cb ?_ | refine rd_call ?_ | refine rd_sp1 ?_ | refine rd_sp2 ?_ | refine rd_sp3 ?_ | refine rd_fld ?_ | refine rd_itet ?_ | refine rd_itef ?_ | refine rd_itnt ?_ | refine rd_itnf ?_) | ((with_reducible apply rd_flI); (· exact rfl)) | ((with_reducible apply rd_flR); (· (first | assumption | exact gup_same)); (· exact rfl)) | ((with_reducible apply rd_var); (· exact rfl)))))
theorem ok_require_some_left {P : Program} {w : World} {K : Fg} {mg : Str → Option Value} {base : Heap} {t_ALL t_MAX_EXPONENT t_MAX_LETTERS t_MAX_MEMBERS t_MAX_MEMBER_EXPONENT t_MAX_PASSED : Tok} {c_KeptMembers c_Lot c_Refused tb_free_set_in : Addr} {f f_is_all_in f_require_lot : Addr} {fd d_is_all_in d_require_lot : FuncData} (D : Dfn K mg "require_some_left" s_require_some_left ["lot"] f fd) (T : Txt P K mg t_ALL t_MAX_EXPONENT t_MAX_LETTERS t_MAX_MEMBERS t_MAX_MEMBER_EXPONENT t_MAX_PASSED c_KeptMembers c_Lot c_Refused tb_free_set_in) (D_is_all_in : Dfn K mg "is_all_in" s_is_all_in ["members"] f_is_all_in d_is_all_in) (G_is_all_in : FnOk P w K mg base CX0 1 f_is_all_in d_is_all_in ["members"] (upSp K (sp_is_all_in c_KeptMembers c_Lot c_Refused tb_free_set_in))) (D_require_lot : Dfn K mg "require_lot" s_require_lot ["value"] f_require_lot d_require_lot) (G_require_lot : FnOk P w K mg base CX0 1 f_require_lot d_require_lot ["value"] (upSp K (sp_require_lot c_KeptMembers c_Lot c_Refused tb_free_set_in))) :
    FnOk P w K mg base CX0 2 f fd ["lot"] (upSp K (sp_require_some_left c_KeptMembers c_Lot c_Refused tb_free_set_in)) := by
  refine fun_okD D.fn sc_require_some_left (fun ds g Q h => len1 h) (fun cdv A outer s H E hr => ⟨_, (pds_cons (pds_expr (pd_call G_require_lot (hr.mono (by decide)) D_require_lot.at_ D_require_lot.fn.kp D_require_lot.bd pass0 (pda_cons (pdv 0) pda_nil))) (pds_one (pds_if (pt_truD (pd_call G_is_all_in (hr.mono (by decide)) D_is_all_in.at_ D_is_all_in.fn.kp D_is_all_in.bd pass0 (pda_cons (pd_fld T.F_Lot.sc T.s_Lot_own_members.choose_spec (pdv 0)) pda_nil))) (pds_one pds_never) pds_nil))), ?_⟩)
  intro ds g Q h
  obtain ⟨a0, rfl, h⟩ := sp1_of h
  rw [show startD N_require_some_left [a0] = [some a0] from rfl]
  obtain ⟨n, M, e1, n1, n8, hM, ha, k⟩ := h
  subst e1
  walk_at "rr19"
  refine ⟨n, M, rfl, ?_⟩
  walk_at "rr19"
  refine ⟨n, M, rfl, n1, n8, hM, ?_⟩
  rw [ha]
  walk_at "rr19"
  exact dret k

local macro_rules | `(tactic| walk_at "rr20") => `(tactic| (repeat (first | (with_reducible first | refine rd_seq ?_ | refine rd_seqE ?_ | refine rd_next ?_ | refine rd_rtE ?_ | refine rd_nxE ?_ | refine rd_nx ?_ | refine rd_rt ?_ | refine rd_drop ?_ | refine rd_ret ?_ | refine rd_c ?_ | refine rd_op ?_ | refine rd_b ?_ | refine rd_bK ?_ | refine rd_tru ?_ | refine rd_tKb ?_ | refine rd_nil ?_ | refine rd_cons ?_ | refine rd_tup ?_ | refine rd_cb ?_ | refine rd_call ?_ | refine rd_sp1 ?_ | refine rd_sp2 ?_ | refine rd_sp3 ?_ | refine rd_fld ?_ | refine rd_mkF ?_ | refine rd_rseq ?_ | refine rd_rif ?_ | refine rd_rraise ?_ | refine rd_itet ?_ | refine rd_itef ?_ | refine rd_itnt ?_ | refine rd_itnf ?_) | ((with_reducible apply rd_flI); (· exact rfl)) | ((with_reducible apply rd_flR); (· (first | assumption | exact gup_same)); (· exact rfl)) | ((with_reducible apply rd_var); (· exact rfl)))))
theorem okR_require_some_left {P : Program} {w : World} {K : Fg} {mg : Str → Option Value} {base : Heap} {t_ALL t_MAX_EXPONENT t_MAX_LETTERS t_MAX_MEMBERS t_MAX_MEMBER_EXPONENT t_MAX_PASSED : Tok} {c_KeptMembers c_Lot c_Refused tb_free_set_in : Addr} {f f_is_all_in f_require_lot : Addr} {fd d_is_all_in d_require_lot : FuncData} (D : Dfn K mg "require_some_left" s_require_some_left ["lot"] f fd) (T : Txt P K mg t_ALL t_MAX_EXPONENT t_MAX_LETTERS t_MAX_MEMBERS t_MAX_MEMBER_EXPONENT t_MAX_PASSED c_KeptMembers c_Lot c_Refused tb_free_set_in) (D_is_all_in : Dfn K mg "is_all_in" s_is_all_in ["members"] f_is_all_in d_is_all_in) (G_is_all_in : FnOk P w K mg base CX0 1 f_is_all_in d_is_all_in ["members"] (upSp K (sp_is_all_in c_KeptMembers c_Lot c_Refused tb_free_set_in))) (D_require_lot : Dfn K mg "require_lot" s_require_lot ["value"] f_require_lot d_require_lot) (G_require_lot : FnOk P w K mg base CX0 1 f_require_lot d_require_lot ["value"] (upSp K (sp_require_lot c_KeptMembers c_Lot c_Refused tb_free_set_in))) :
    FnOk P w K mg base (L2.CX P w) 2 f fd ["lot"] (upSpR K (spR_require_some_left c_KeptMembers c_Lot c_Refused tb_free_set_in)) := by
  refine fun_okR D.fn sc_require_some_left (fun ds g W h => sr1_len h) (fun cdv A outer s H E hr => ⟨_, (prs_seq (pds_expr (pd_call G_require_lot (hr.mono (by decide)) D_require_lot.at_ D_require_lot.fn.kp D_require_lot.bd pass0 (pda_cons (pdv 0) pda_nil))) (prs_now (pr_if (pt_truD (pd_call G_is_all_in (hr.mono (by decide)) D_is_all_in.at_ D_is_all_in.fn.kp D_is_all_in.bd pass0 (pda_cons (pd_fld T.F_Lot.sc T.s_Lot_own_members.choose_spec (pdv 0)) pda_nil))) (prs_now (pr_raise rfl (takes_of rfl rfl rfl rfl) (pmd_sup T.X_Refused.choose_spec T.xg_Refused (hr.mono (by decide)) (pd_tup (pda_cons (pd_globS T.c_ALL) pda_nil))))) prs_no))), ?_⟩)
  intro ds g W h
  obtain ⟨a0, rfl, h⟩ := h
  rw [show startD N_require_some_left [a0] = [some a0] from rfl]
  obtain ⟨n, M, e1, n1, n8, hM, ha, k⟩ := h
  subst e1
  walk_at "rr20"
  refine ⟨n, M, rfl, ?_⟩
  walk_at "rr20"
  refine ⟨n, M, rfl, n1, n8, hM, ?_⟩
  rw [ha]
  walk_at "rr20"
  refine rd_zK (by show 1 ≤ 16777216; decide) ?_
  exact k

abbrev s_free_set : Stmt := topS 55
abbrev N_free_set : List Str := ["lot"]
theorem sc_free_set : FnScope N_free_set ["lot"] (defScope s_free_set) := ⟨rfl, rfl, rfl, by decide +kernel, rfl, by decide +kernel, by decide +kernel⟩
abbrev sp_free_set (c_KeptMembers c_Lot c_Refused tb_free_set_in : Addr) : SpD :=
  sp1 fun a g P => ∃ (n : Nat) (M : List (List Int)), a = lotD c_Lot n M ∧ 1 ≤ n ∧ n ≤ 8 ∧ Prods n 60 M ∧ M.length ≤ 24 ∧ isAllB M = false ∧ TbG (TT tb_free_set_in) g ∧ P ((fsI n M).elim .non tI) g
abbrev spR_free_set (c_KeptMembers c_Lot c_Refused tb_free_set_in : Addr) : SpR :=
  sr1 fun a g W => ∃ (n : Nat) (M : List (List Int)), a = lotD c_Lot n M ∧ 1 ≤ n ∧ n ≤ 8 ∧ Prods n 60 M ∧ isAllB M = true ∧ W ⟨c_Refused, [("reason", .tup [.str "all"])]⟩ g

local macro_rules | `(tactic| walk_at "rr21") => `(tactic| (repeat (first | (with_reducible first | refine rd_seq ?_ | refine rd_seqE ?_ | refine rd_next ?_ | refine rd_rtE ?_ | refine rd_nxE ?_ | refine rd_nx ?_ | refine rd_rt ?_ | refine rd_drop ?_ | refine rd_ret ?_ | refine rd_c ?_ | refine rd_op ?_ | refine rd_b ?_ | refine rd_bK ?_ | refine rd_nil ?_ | refine rd_cons ?_ | refine rd_cb ?_ | refine rd_call ?_ | refine rd_sp1 ?_ | refine rd_sp2 ?_ | refine rd_sp3 ?_ | refine rd_itet ?_ | refine rd_itef ?_ | refine rd_itnt ?_ | refine rd_itnf ?_) | ((with_reducible apply rd_var); (· exact rfl)))))
theorem ok_free_set {P : Program} {w : World} {K : Fg} {mg : Str → Option Value} {base : Heap} {t_ALL t_MAX_EXPONENT t_MAX_LETTERS t_MAX_MEMBERS t_MAX_MEMBER_EXPONENT t_MAX_PASSED : Tok} {c_KeptMembers c_Lot c_Refused tb_free_set_in : Addr} {f cc_free_set f_free_set_in cc_free_set_in f_require_some_left : Addr} {fd d_free_set_in d_require_some_left : FuncData} (D : DfnC K mg "free_set" s_free_set ["lot"] f fd cc_free_set) (T : Txt P K mg t_ALL t_MAX_EXPONENT t_MAX_LETTERS t_MAX_MEMBERS t_MAX_MEMBER_EXPONENT t_MAX_PASSED c_KeptMembers c_Lot c_Refused tb_free_set_in) (D_free_set_in : DfnC K mg "free_set_in" s_free_set_in ["lot"] f_free_set_in d_free_set_in cc_free_set_in) (G_free_set_in : FnG P w K mg base 4 f_free_set_in d_free_set_in ["lot"] (upSp K (sp_free_set_in c_KeptMembers c_Lot c_Refused tb_free_set_in))) (D_require_some_left : Dfn K mg "require_some_left" s_require_some_left ["lot"] f_require_some_left d_require_some_left) (G_require_some_left : FnOk P w K mg base CX0 2 f_require_some_left d_require_some_left ["lot"] (upSp K (sp_require_some_left c_KeptMembers c_Lot c_Refused tb_free_set_in))) :
    FnG P w K mg base 5 f fd ["lot"] (upSp K (sp_free_set c_KeptMembers c_Lot c_Refused tb_free_set_in)) := by
  refine fun_okG D.fn sc_free_set (fun ds g Q h => len1 h) (fun A outer s H E hr hgd => ⟨_, (pds_cons (pds_expr (pd_call G_require_some_left (hr.mono (by decide)) D_require_some_left.at_ D_require_some_left.fn.kp D_require_some_left.bd pass0 (pda_cons (pdv 0) pda_nil))) (pds_one (pds_ret (pd_callG G_free_set_in (hr.mono (by decide)) hgd D_free_set_in.at_ D_free_set_in.fn.kp D_free_set_in.bd (pda_cons (pdv 0) pda_nil))))), ?_⟩)
  intro ds g Q h
  obtain ⟨a0, rfl, h⟩ := sp1_of h
  rw [show startD N_free_set [a0] = [some a0] from rfl]
  obtain ⟨n, M, e1, n1, n8, hM, hl, ha, hT, k⟩ := h
  subst e1
  walk_at "rr21"
  refine ⟨n, M, rfl, n1, n8, hM, ha, ?_⟩
  walk_at "rr21"
  exact ⟨n, M, rfl, n8, hM, hl, hT, dret k⟩

theorem okR_free_set {P : Program} {w : World} {K : Fg} {mg : Str → Option Value} {base : Heap} {t_ALL t_MAX_EXPONENT t_MAX_LETTERS t_MAX_MEMBERS t_MAX_MEMBER_EXPONENT t_MAX_PASSED : Tok} {c_KeptMembers c_Lot c_Refused tb_free_set_in : Addr} {f cc_free_set f_require_some_left : Addr} {fd d_require_some_left : FuncData} (D : DfnC K mg "free_set" s_free_set ["lot"] f fd cc_free_set) (T : Txt P K mg t_ALL t_MAX_EXPONENT t_MAX_LETTERS t_MAX_MEMBERS t_MAX_MEMBER_EXPONENT t_MAX_PASSED c_KeptMembers c_Lot c_Refused tb_free_set_in) (D_require_some_left : Dfn K mg "require_some_left" s_require_some_left ["lot"] f_require_some_left d_require_some_left) (GR_require_some_left : FnOk P w K mg base (L2.CX P w) 2 f_require_some_left d_require_some_left ["lot"] (upSpR K (spR_require_some_left c_KeptMembers c_Lot c_Refused tb_free_set_in))) :
    FnOk P w K mg base (L2.CX P w) 5 f fd ["lot"] (upSpR K (spR_free_set c_KeptMembers c_Lot c_Refused tb_free_set_in)) := by
  refine fun_okR D.fn.toFun sc_free_set (fun ds g W h => sr1_len h) (fun cdv A outer s H E hr => ⟨_, (prs_now (pr_expr (pr_call GR_require_some_left (hr.mono (by decide)) D_require_some_left.at_ D_require_some_left.fn.kp D_require_some_left.bd (takes_of rfl rfl rfl rfl) (pda_cons (pdv 0) pda_nil)))), ?_⟩)
  intro ds g W h
  obtain ⟨a0, rfl, h⟩ := h
  rw [show startD N_free_set [a0] = [some a0] from rfl]
  obtain ⟨n, M, e1, n1, n8, hM, ha, k⟩ := h
  subst e1
  (repeat (first | (with_reducible first | refine rd_seq ?_ | refine rd_seqE ?_ | refine rd_next ?_ | refine rd_rtE ?_ | refine rd_nxE ?_ | refine rd_nx ?_ | refine rd_rt ?_ | refine rd_drop ?_ | refine rd_ret ?_ | refine rd_c ?_ | refine rd_op ?_ | refine rd_b ?_ | refine rd_bK ?_ | refine rd_nil ?_ | refine rd_cons ?_ | refine rd_cb ?_ | refine rd_call ?_ | refine rd_sp1 ?_ | refine rd_sp2 ?_ | refine rd_sp3 ?_ | refine rd_rcall ?_ | refine rd_sr1 ?_ | refine rd_sr2 ?_ | refine rd_sr3 ?_ | refine rd_itet ?_ | refine rd_itef ?_ | refine rd_itnt ?_ | refine rd_itnf ?_) | ((with_reducible apply rd_var); (· exact rfl))))
  exact ⟨n, M, rfl, n1, n8, hM, ha, k⟩

abbrev s_is_free_set : Stmt := topS 56
abbrev N_is_free_set : List Str := ["lot", "value", "place", "one", "other"]
theorem sc_is_free_set : FnScope N_is_free_set ["lot", "value"] (defScope s_is_free_set) := ⟨rfl, rfl, rfl, by decide +kernel, rfl, by decide +kernel, by decide +kernel⟩
abbrev sp_is_free_set (c_KeptMembers c_Lot c_Refused tb_free_set_in : Addr) : SpD :=
  sp2 fun a b g P => ∃ (n : Nat) (M : List (List Int)), a = lotD c_Lot n M ∧ 1 ≤ n ∧ n ≤ 8 ∧ Prods n 60 M ∧ M.length ≤ 24 ∧ isAllB M = false ∧ TbG (TT tb_free_set_in) g ∧ ((∃ s, b = tI s ∧ s.length ≤ 100 ∧ P (.bl (isFs n M s)) g) ∨ (b = .tup [.bl true] ∧ P (.bl false) g) ∨ (b = .tup [.int 0, .bl true] ∧ P (.bl false) g) ∨ ((∃ s, tyNm g b = some s ∧ isiN s "tuple" = some false) ∧ P (.bl false) g))

local macro_rules | `(tactic| walk_at "rr22") => `(tactic| (repeat (first | (with_reducible first | refine rd_seq ?_ | refine rd_seqE ?_ | refine rd_next ?_ | refine rd_rtE ?_ | refine rd_nxE ?_ | refine rd_nx ?_ | refine rd_rt ?_ | refine rd_drop ?_ | refine rd_ret ?_ | refine rd_dif ?_ | refine rd_c ?_ | refine rd_op ?_ | refine rd_b ?_ | refine rd_bK ?_ | refine rd_tru ?_ | refine rd_tKb ?_ | refine rd_or ?_ | refine rd_not ?_ | refine rd_andV ?_ | refine rd_tvKb ?_ | refine rd_nil ?_ | refine rd_cons ?_ | refine rd_cb ?_ | refine rd_call ?_ | refine rd_sp1 ?_ | refine rd_sp2 ?_ | refine rd_sp3 ?_ | refine rd_sub ?_ | refine rd_cmp ?_ | refine rd_lc ?_ | refine rd_yes ?_ | refine rd_wseq ?_ | refine rd_wsT ?_ | refine rd_wsL ?_ | refine rd_wsS ?_ | refine rd_wzip ?_ | refine rd_zipT ?_ | refine rd_sl ?_ | refine rd_slT ?_ | refine rd_slL ?_ | refine rd_slS ?_ | refine rd_nopart ?_ | refine rd_part ?_ | refine rd_ptK ?_ | refine rd_fld ?_ | refine rd_itet ?_ | refine rd_itef ?_ | refine rd_itnt ?_ | refine rd_itnf ?_) | ((with_reducible apply rd_flI); (· exact rfl)) | ((with_reducible apply rd_flR); (· (first | assumption | exact gup_same)); (· exact rfl)) | ((with_reducible apply rd_var); (· exact rfl)) | ((with_reducible apply rd_len); (· (first | assumption | exact seqD_ref (by assumption) | exact seqD_up | exact lstD_ref (by assumption) | exact lstD_up | rfl))))))
theorem ok_is_free_set {P : Program} {w : World} {K : Fg} {mg : Str → Option Value} {base : Heap} {t_ALL t_MAX_EXPONENT t_MAX_LETTERS t_MAX_MEMBERS t_MAX_MEMBER_EXPONENT t_MAX_PASSED : Tok} {c_KeptMembers c_Lot c_Refused tb_free_set_in : Addr} {f cc_is_free_set f_is_free_in f_dimension_in cc_dimension_in f_is_within f_require_some_left : Addr} {fd d_is_free_in d_dimension_in d_is_within d_require_some_left : FuncData} (D : DfnC K mg "is_free_set" s_is_free_set ["lot", "value"] f fd cc_is_free_set) (T : Txt P K mg t_ALL t_MAX_EXPONENT t_MAX_LETTERS t_MAX_MEMBERS t_MAX_MEMBER_EXPONENT t_MAX_PASSED c_KeptMembers c_Lot c_Refused tb_free_set_in) (D_is_free_in : Dfn K mg "is_free_in" s_is_free_in ["members", "letters_told"] f_is_free_in d_is_free_in) (G_is_free_in : FnOk P w K mg base CX0 1 f_is_free_in d_is_free_in ["members", "letters_told"] (upSp K (sp_is_free_in c_KeptMembers c_Lot c_Refused tb_free_set_in))) (D_dimension_in : DfnC K mg "dimension_in" s_dimension_in ["lot"] f_dimension_in d_dimension_in cc_dimension_in) (G_dimension_in : FnG P w K mg base 5 f_dimension_in d_dimension_in ["lot"] (upSp K (sp_dimension_in c_KeptMembers c_Lot c_Refused tb_free_set_in))) (D_is_within : Dfn K mg "is_within" s_is_within ["value", "least", "greatest"] f_is_within d_is_within) (G_is_within : FnOk P w K mg base CX0 2 f_is_within d_is_within ["value", "least", "greatest"] (upSp K (sp_is_within c_KeptMembers c_Lot c_Refused tb_free_set_in))) (D_require_some_left : Dfn K mg "require_some_left" s_require_some_left ["lot"] f_require_some_left d_require_some_left) (G_require_some_left : FnOk P w K mg base CX0 2 f_require_some_left d_require_some_left ["lot"] (upSp K (sp_require_some_left c_KeptMembers c_Lot c_Refused tb_free_set_in))) :
    FnG P w K mg base 6 f fd ["lot", "value"] (upSp K (sp_is_free_set c_KeptMembers c_Lot c_Refused tb_free_set_in)) := by
  refine fun_okG D.fn sc_is_free_set (fun ds g Q h => len2 h) (fun A outer s H E hr hgd => ⟨_, (pds_cons (pds_expr (pd_call G_require_some_left (hr.mono (by decide)) D_require_some_left.at_ D_require_some_left.fn.kp D_require_some_left.bd pass0 (pda_cons (pdv 0) pda_nil))) (pds_cons (pds_if (pwd_pt (pwd_or (pt_notD (pt_truD (pd_callB call_isiY ref_isi T.b_isinstance (by decide +kernel) (pda_cons (pdv 1) (pda_cons (pd_ty (n := "tuple") T.b_tuple (by decide +kernel)) pda_nil))))) (pwd_or1 (pt_notD (pt_truD (pd_callB (cr_all rfl) ref_bs T.b_all (by decide +kernel) (pda_cons (pd_lc (own := [("place", 2)]) (tg := .nm 2) rfl sc_is_free_set.nd (pid_seq (pdv 1)) (blkOk_by (own := [("place", 2)]) (N := N_is_free_set) (sc := defScope s_is_free_set) (by decide +kernel)) (fun _ _ _ _ _ => (pgd_nm (i := 2) sc_is_free_set.nd)) (fun _ _ _ _ _ => ptsd_nil) (fun _ _ _ _ _ => (pd_call G_is_within (hr.mono (by decide)) D_is_within.at_ D_is_within.fn.kp D_is_within.bd pass0 (pda_cons (pdv 2) (pda_cons pd_int (pda_cons (pd_sub (pd_fld T.F_Lot.sc T.s_Lot_own_letters.choose_spec (pdv 0)) pd_int) pda_nil)))))) pda_nil))))))) (pds_one (pds_ret pd_bl)) pds_nil) (pds_cons (pds_if (pt_notD (pt_truD (pd_callB (cr_all rfl) ref_bs T.b_all (by decide +kernel) (pda_cons (pd_lc (own := [("one", 3), ("other", 4)]) (tg := .tp [3, 4]) rfl sc_is_free_set.nd (pid_zip T.b_zip (pda_cons (pdv 1) (pda_cons (pd_slice (pdv 1) (pod_some pd_int) pod_none) pda_nil))) (blkOk_by (own := [("one", 3), ("other", 4)]) (N := N_is_free_set) (sc := defScope s_is_free_set) (by decide +kernel)) (fun _ _ _ _ _ => (pgd_tp (is := [3, 4]) rfl (pgd_cons (i := 3) (pgd_nm (i := 3) sc_is_free_set.nd) (pgd_cons (i := 4) (pgd_nm (i := 4) sc_is_free_set.nd) pgd_nil)))) (fun _ _ _ _ _ => ptsd_nil) (fun _ _ _ _ _ => (pd_cmp op_lt (RefCmp.op ref_cmp) (pdv 3) (pdv 4) (nomark _)))) pda_nil)))) (pds_one (pds_ret pd_bl)) pds_nil) (pds_one (pds_ret (pd_and (pd_cmp (op_eqD hr.units) (RefCmp.op ref_eq) (pd_callB call_len_seq ref_len T.b_len (by decide +kernel) (pda_cons (pdv 1) pda_nil)) (pd_callG G_dimension_in (hr.mono (by decide)) hgd D_dimension_in.at_ D_dimension_in.fn.kp D_dimension_in.bd (pda_cons (pdv 0) pda_nil)) (nomark _)) (pd_one (pd_call G_is_free_in (hr.mono (by decide)) D_is_free_in.at_ D_is_free_in.fn.kp D_is_free_in.bd pass0 (pda_cons (pd_fld T.F_Lot.sc T.s_Lot_own_members.choose_spec (pdv 0)) (pda_cons (pdv 1) pda_nil)))))))))), ?_⟩)
  intro ds g Q h
  obtain ⟨a0, a1, rfl, h⟩ := sp2_of h
  rw [show startD N_is_free_set [a0, a1] = [some a0, some a1, none, none, none] from rfl]
  obtain ⟨n, M, e1, n1, n8, hM, hl, ha, hT, hh⟩ := h
  subst e1
  walk_at "rr22"
  refine ⟨n, M, rfl, n1, n8, hM, ha, ?_⟩
  walk_at "rr22"
  rcases hh with ⟨s, e2, hs, k⟩ | ⟨e2, k⟩ | ⟨e2, k⟩ | ⟨⟨s, es, ei⟩, k⟩
  · subst e2
    refine rd_isiT ?_
    walk_at "rr22"
    refine rd_zK (by rw [List.length_map]; omega) (comp_map (f := fun d => .bl (isWi 0 ((n : Int) - 1) d)) (fun d hd => ?_) ?_)
    · obtain ⟨x, hx, e⟩ := List.mem_map.mp hd
      subst e
      refine ⟨_, rfl, fun Q2 h2 => ?_⟩
      walk_at "rr22"
      exact .inr ⟨rfl, 0, _, rfl, rfl, h2⟩
    · walk_at "rr22"
      refine rd_bs rfl (blsD_fun (isWi 0 ((n : Int) - 1)) _) ?_
      rw [all_id_map]
      rw [wi_all]
      unfold isFs isSet at k
      walk_at "rr22"
      refine rd_iteb (fun c => ?_) (fun c => ?_)
      · have c2 : (s.all fun x => decide (0 ≤ x) && decide (x ≤ (n : Int) - 1)) = false := by simpa using c
        rw [c2, Bool.false_and, Bool.false_and] at k
        walk_at "rr22"
        exact dret k
      · have c2 : (s.all fun x => decide (0 ≤ x) && decide (x ≤ (n : Int) - 1)) = true := by simpa using c
        rw [c2, Bool.true_and] at k
        walk_at "rr22"
        rw [show (1 : Int) = ((1 : Nat) : Int) from rfl, cutD_from, ← List.map_drop]
        walk_at "rr22"
        refine rd_zK (by rw [zipD_len, List.length_map, List.length_map, List.length_drop]; omega) (comp_map (f := fun d => .bl (ltD d)) (fun d hd => ?_) ?_)
        · rw [zip_ints] at hd
          obtain ⟨q, _, e⟩ := List.mem_map.mp hd
          subst e
          refine ⟨_, rfl, fun Q2 h2 => ?_⟩
          walk_at "rr22"
          exact h2
        · walk_at "rr22"
          refine rd_bs rfl (blsD_fun ltD _) ?_
          rw [all_id_map, lt_asc]
          walk_at "rr22"
          refine rd_iteb (fun c3 => ?_) (fun c3 => ?_)
          · have c4 : ascI s = false := by simpa using c3
            rw [c4, Bool.false_and] at k
            walk_at "rr22"
            exact dret k
          · have c4 : ascI s = true := by simpa using c3
            rw [c4, Bool.true_and] at k
            walk_at "rr22"
            refine ⟨n, M, rfl, n8, hM, hl, hT, ?_⟩
            refine rd_eq (okD_int _) (okD_int _) ?_
            rw [eqD_int, List.length_map]
            walk_at "rr22"
            by_cases c5 : (s.length : Int) = dimI n M
            · rw [decide_eq_true c5, Bool.true_and] at k
              rw [if_pos (decide_eq_true c5)]
              walk_at "rr22"
              exact ⟨n, M, s, rfl, rfl, n8, hM, hl, dret k⟩
            · rw [decide_eq_false c5, Bool.false_and] at k
              rw [decide_eq_false c5, if_neg (by decide)]
              exact dret k
  · subst e2
    refine rd_isiT ?_
    walk_at "rr22"
    refine rd_zK (by show 1 ≤ 16777216; decide) (comp_map (f := fun d => .bl (isWi 0 ((n : Int) - 1) d)) (fun d hd => ?_) ?_)
    · rw [List.mem_singleton] at hd
      subst hd
      refine ⟨_, rfl, fun Q2 h2 => ?_⟩
      walk_at "rr22"
      exact .inr ⟨rfl, 0, _, rfl, rfl, h2⟩
    · walk_at "rr22"
      refine rd_bs rfl (blsD_fun (isWi 0 ((n : Int) - 1)) _) ?_
      rw [all_id_map, show ([DV.bl true].all (isWi 0 ((n : Int) - 1))) = false from rfl]
      walk_at "rr22"
      exact dret k
  · subst e2
    refine rd_isiT ?_
    walk_at "rr22"
    refine rd_zK (by show 2 ≤ 16777216; decide) (comp_map (f := fun d => .bl (isWi 0 ((n : Int) - 1) d)) (fun d hd => ?_) ?_)
    · refine ⟨_, rfl, fun Q2 h2 => ?_⟩
      walk_at "rr22"
      refine .inr ⟨?_, 0, _, rfl, rfl, h2⟩
      rcases List.mem_cons.mp hd with e | hd
      · rw [e]; rfl
      · rw [List.mem_singleton.mp hd]; rfl
    · walk_at "rr22"
      refine rd_bs rfl (blsD_fun (isWi 0 ((n : Int) - 1)) _) ?_
      rw [all_id_map, show ([DV.int 0, DV.bl true].all (isWi 0 ((n : Int) - 1))) = false from by rw [List.all_cons, List.all_cons]; show (_ && (false && _)) = false; rw [Bool.false_and, Bool.and_false]]
      walk_at "rr22"
      exact dret k
  · refine rd_isi es ei ?_
    walk_at "rr22"
    exact dret k

abbrev s_qjug : Stmt := topS 58
abbrev N_qjug : List Str := ["_law_script", "_law_turn", "_law_cell", "_law_great"]
theorem sc_qjug : FnScope N_qjug ["_law_script", "_law_turn"] (defScope s_qjug) := ⟨rfl, rfl, rfl, by decide +kernel, rfl, by decide +kernel, by decide +kernel⟩
abbrev sp_qjug (c_KeptMembers c_Lot c_Refused tb_free_set_in : Addr) : SpD :=
  sp2 fun a b g P => ∃ (ns : List Int) (i : Nat), a = .scr ns ∧ b = .int (i : Nat) ∧ i < 3 ∧ ∀ p L, g p = none → PotL 0 L → P (.ref p) (gup g p (.lst L))

local macro_rules | `(tactic| walk_at "rr23") => `(tactic| (repeat (first | (with_reducible first | refine rd_seq ?_ | refine rd_seqE ?_ | refine rd_next ?_ | refine rd_rtE ?_ | refine rd_nxE ?_ | refine rd_nx ?_ | refine rd_rt ?_ | refine rd_drop ?_ | refine rd_ret ?_ | refine rd_asg ?_ | refine rd_c ?_ | refine rd_op ?_ | refine rd_b ?_ | refine rd_bK ?_ | refine rd_ifE ?_ | refine rd_nil ?_ | refine rd_cons ?_ | refine rd_lst ?_ | refine rd_lstM ?_ | refine rd_cb ?_ | refine rd_call ?_ | refine rd_sp1 ?_ | refine rd_sp2 ?_ | refine rd_sp3 ?_ | refine rd_int ?_ | refine rd_intb ?_ | refine rd_abs ?_ | refine rd_ii ?_ | refine rd_add ?_ | refine rd_sub ?_ | refine rd_cmp ?_ | refine rd_sl ?_ | refine rd_slT ?_ | refine rd_slL ?_ | refine rd_slS ?_ | refine rd_nopart ?_ | refine rd_part ?_ | refine rd_ptK ?_ | refine rd_itet ?_ | refine rd_itef ?_ | refine rd_itnt ?_ | refine rd_itnf ?_) | ((with_reducible apply rd_var); (· exact rfl)) | ((with_reducible apply rd_asgK); (· exact rfl)) | ((with_reducible apply rd_len); (· (first | assumption | exact seqD_ref (by assumption) | exact seqD_up | exact lstD_ref (by assumption) | exact lstD_up | rfl))) | ((with_reducible apply rd_ix); (· (first | assumption | exact seqD_ref (by assumption) | exact seqD_up | exact lstD_ref (by assumption) | exact lstD_up | rfl)); (· (first | exact atI_c0 _ _ | exact atI_c1 _ _ _ | exact atI_c2 _ _ _ _ | assumption | rfl))))))
theorem ok_qjug {P : Program} {w : World} {K : Fg} {mg : Str → Option Value} {base : Heap} {t_ALL t_MAX_EXPONENT t_MAX_LETTERS t_MAX_MEMBERS t_MAX_MEMBER_EXPONENT t_MAX_PASSED : Tok} {c_KeptMembers c_Lot c_Refused tb_free_set_in : Addr} {f : Addr} {fd : FuncData} (D : Dfn K mg "_law_jug" s_qjug ["_law_script", "_law_turn"] f fd) (T : Txt P K mg t_ALL t_MAX_EXPONENT t_MAX_LETTERS t_MAX_MEMBERS t_MAX_MEMBER_EXPONENT t_MAX_PASSED c_KeptMembers c_Lot c_Refused tb_free_set_in) :
    FnOk P w K mg base CX0 1 f fd ["_law_script", "_law_turn"] (upSp K (sp_qjug c_KeptMembers c_Lot c_Refused tb_free_set_in)) := by
  refine fun_okD D.fn sc_qjug (fun ds g Q h => len2 h) (fun cdv A outer s H E hr => ⟨_, (pds_cons (pds_set (i := 2) sc_qjug.nd (pd_ifExp (pt_cmpD op_lt (RefCmp.op ref_cmp) (pdv 1) (pd_callB call_len_seq ref_len T.b_len (by decide +kernel) (pda_cons (pdv 0) pda_nil)) (nomark _)) (pd_callTy call_int1 ref_int T.b_int (by decide +kernel) (pda_cons (pd_ix (pdv 0) (pdv 1)) pda_nil)) (pd_add (pd_add (pd_mulI pd_int (pdv 1)) pd_int) (pd_mod (pd_callTy call_int1 ref_int T.b_int (by decide +kernel) (pda_cons (pd_callB (cr_sum rfl) ref_sum T.b_sum (by decide +kernel) (pda_cons (pd_slice (pdv 0) pod_none (pod_some pd_int)) pda_nil)) pda_nil)) pd_int)))) (pds_cons (pds_set (i := 3) sc_qjug.nd (pd_mod (pd_callB call_abs ref_abs T.b_abs (by decide +kernel) (pda_cons (pdv 2) pda_nil)) (pd_pow (pd_pow pd_int pd_int) pd_int))) (pds_one (pds_ret (pd_lstM (pda_cons (pd_callB (call_max2 rfl) ref_II T.b_max (by decide +kernel) (pda_cons pd_int (pda_cons (pd_sub (pdv 3) (pd_pow pd_int pd_int)) pda_nil))) (pda_cons (pd_add (pd_add (pd_add (pd_mulI (pd_mod (pdv 3) pd_int) pd_int) (pd_mulI pd_int (pdv 1))) (pd_mulI pd_int (pd_callTy call_int1 ref_int T.b_int (by decide +kernel) (pda_cons (pd_cmp op_lt (RefCmp.op ref_cmp) (pdv 2) pd_int (nomark _)) pda_nil)))) pd_int) (pda_cons pd_int pda_nil)))))))), ?_⟩)
  intro ds g Q h
  obtain ⟨a0, a1, rfl, h⟩ := sp2_of h
  rw [show startD N_qjug [a0, a1] = [some a0, some a1, none, none] from rfl]
  obtain ⟨ns, i, e1, e2, h1, k⟩ := h
  subst e1 e2
  walk_at "rr23"
  refine rd_iteb (fun c => ?_) (fun c => ?_)
  walk_at "rr23"
  have c' : i < ns.length := by simpa using c
  (with_reducible apply rd_ix)
  · rfl
  · exact atI_ints c'
  generalize ns[i] = cell
  rotate_left
  walk_at "rr23"
  refine rd_rI (mulW (by omega) (by omega) (by omega) (by omega)) ?_
  walk_at "rr23"
  refine rd_sum (ns := ns.take 1) rfl (cut1 ns) ?_
  walk_at "rr23"
  refine rd_rI (by decide) ?_
  walk_at "rr23"
  generalize 2503 * (i : Int) + 79 + (ns.take 1).sum % 1000033 = cell
  all_goals walk_at "rr23"
  all_goals refine rd_rI (powW (by decide +kernel)) ?_
  all_goals walk_at "rr23"
  all_goals refine rd_rI (powW (by decide +kernel)) ?_
  all_goals walk_at "rr23"
  all_goals refine rd_rI (by decide +kernel) ?_
  all_goals generalize (if cell < 0 then -cell else cell) % (10 ^ Int.toNat 57) ^ Int.toNat 6 = gr
  all_goals walk_at "rr23"
  all_goals refine rd_rI (powW (by decide +kernel)) ?_
  all_goals walk_at "rr23"
  all_goals refine rd_rI (by decide) ?_
  all_goals have b1 := Int.emod_nonneg gr (b := 1000000000177) (by decide)
  all_goals have b2 := Int.emod_lt_of_pos gr (b := 1000000000177) (by decide)
  all_goals generalize gr % 1000000000177 = m1 at b1 b2 ⊢
  all_goals walk_at "rr23"
  all_goals refine rd_rI (mulW (by omega) (by omega) (by omega) (by omega)) ?_
  all_goals walk_at "rr23"
  all_goals refine rd_rI (mulW (by omega) (by omega) (by omega) (by omega)) ?_
  all_goals walk_at "rr23"
  all_goals have b4 : 0 ≤ (if decide (cell < 0) = true then (1 : Int) else 0) ∧ (if decide (cell < 0) = true then (1 : Int) else 0) ≤ 1 := by split <;> decide
  all_goals generalize (if decide (cell < 0) = true then (1 : Int) else 0) = m2 at b4 ⊢
  all_goals refine rd_rI (mulW (by omega) (by omega) (by omega) (by omega)) ?_
  all_goals walk_at "rr23"
  all_goals refine rd_zK (by show 3 ≤ 16777216; decide) ?_
  all_goals intro p hp
  all_goals walk_at "rr23"
  all_goals exact dret (k p _ hp ⟨_, _, _, rfl, by omega, by omega, by decide, by decide⟩)

abbrev s_qpour : Stmt := topS 59
abbrev N_qpour : List Str := ["_law_jug_here", "_law_total", "_law_one", "_law_two", "_law_found"]
theorem sc_qpour : FnScope N_qpour ["_law_jug_here", "_law_total"] (defScope s_qpour) := ⟨rfl, rfl, rfl, by decide +kernel, rfl, by decide +kernel, by decide +kernel⟩
abbrev sp_qpour (c_KeptMembers c_Lot c_Refused tb_free_set_in : Addr) : SpD :=
  sp2 fun a b g P => ∃ p t n L, a = .ref p ∧ b = .int t ∧ 0 < t ∧ t < 2000000 ∧ g p = some (.lst L) ∧ PotL n L ∧ n ≤ 100000 ∧ ∀ r L', 0 ≤ r → r < t → PotL (n + 1) L' → P (.int r) (gup g p (.lst L'))

local macro_rules | `(tactic| walk_at "rr24") => `(tactic| (repeat (first | (with_reducible first | refine rd_seq ?_ | refine rd_seqE ?_ | refine rd_next ?_ | refine rd_rtE ?_ | refine rd_nxE ?_ | refine rd_nx ?_ | refine rd_rt ?_ | refine rd_drop ?_ | refine rd_ret ?_ | refine rd_dif ?_ | refine rd_asg ?_ | refine rd_c ?_ | refine rd_op ?_ | refine rd_b ?_ | refine rd_bK ?_ | refine rd_nil ?_ | refine rd_cons ?_ | refine rd_cb ?_ | refine rd_call ?_ | refine rd_sp1 ?_ | refine rd_sp2 ?_ | refine rd_sp3 ?_ | refine rd_int ?_ | refine rd_intb ?_ | refine rd_add ?_ | refine rd_cmp ?_ | refine rd_setI ?_ | refine rd_itet ?_ | refine rd_itef ?_ | refine rd_itnt ?_ | refine rd_itnf ?_) | ((with_reducible apply rd_var); (· exact rfl)) | ((with_reducible apply rd_asgK); (· exact rfl)) | ((with_reducible apply rd_ix); (· (first | assumption | exact seqD_ref (by assumption) | exact seqD_up | exact lstD_ref (by assumption) | exact lstD_up | rfl)); (· (first | exact atI_c0 _ _ | exact atI_c1 _ _ _ | exact atI_c2 _ _ _ _ | assumption | rfl))) | ((with_reducible apply rd_set30); (· (first | assumption | exact gup_same))) | ((with_reducible apply rd_set32); (· (first | assumption | exact gup_same))))))
theorem ok_qpour {P : Program} {w : World} {K : Fg} {mg : Str → Option Value} {base : Heap} {t_ALL t_MAX_EXPONENT t_MAX_LETTERS t_MAX_MEMBERS t_MAX_MEMBER_EXPONENT t_MAX_PASSED : Tok} {c_KeptMembers c_Lot c_Refused tb_free_set_in : Addr} {f : Addr} {fd : FuncData} (D : Dfn K mg "_law_pour" s_qpour ["_law_jug_here", "_law_total"] f fd) (T : Txt P K mg t_ALL t_MAX_EXPONENT t_MAX_LETTERS t_MAX_MEMBERS t_MAX_MEMBER_EXPONENT t_MAX_PASSED c_KeptMembers c_Lot c_Refused tb_free_set_in) :
    FnOk P w K mg base CX0 1 f fd ["_law_jug_here", "_law_total"] (upSp K (sp_qpour c_KeptMembers c_Lot c_Refused tb_free_set_in)) := by
  refine fun_okD D.fn sc_qpour (fun ds g Q h => len2 h) (fun cdv A outer s H E hr => ⟨_, (pds_cons (pds_if (pt_cmpD op_gt (RefCmp.op ref_cmp) (pd_ix (pdv 0) pd_int) pd_int (nomark _)) (pds_cons (pds_set (i := 4) sc_qpour.nd (pd_mod (pd_callTy call_int1 ref_int T.b_int (by decide +kernel) (pda_cons (pd_ix (pdv 0) pd_int) pda_nil)) (pdv 1))) (pds_cons (pds_setI (pd_fdiv (pd_callTy call_int1 ref_int T.b_int (by decide +kernel) (pda_cons (pd_ix (pdv 0) pd_int) pda_nil)) (pdv 1)) (pdv 0) pd_int) (pds_one (pds_ret (pdv 4))))) pds_nil) (pds_cons (pds_setI (pd_add (pd_ix (pdv 0) pd_int) pd_int) (pdv 0) pd_int) (pds_cons (pds_set (i := 2) sc_qpour.nd (pd_mod (pd_callTy call_int1 ref_int T.b_int (by decide +kernel) (pda_cons (pd_add (pd_ix (pdv 0) pd_int) (pd_mulI pd_int (pd_ix (pdv 0) pd_int))) pda_nil)) pd_int)) (pds_cons (pds_set (i := 3) sc_qpour.nd (pd_mod (pd_callTy call_int1 ref_int T.b_int (by decide +kernel) (pda_cons (pd_add (pd_add (pd_mulI (pdv 2) (pdv 2)) (pd_mulI pd_int (pd_ix (pdv 0) pd_int))) pd_int) pda_nil)) pd_int)) (pds_one (pds_ret (pd_mod (pd_callTy call_int1 ref_int T.b_int (by decide +kernel) (pda_cons (pd_fdiv (pd_mulI (pdv 3) (pd_add (pd_mod (pdv 2) pd_int) pd_int)) pd_int) pda_nil)) (pdv 1)))))))), ?_⟩)
  intro ds g Q h
  obtain ⟨a0, a1, rfl, h⟩ := sp2_of h
  rw [show startD N_qpour [a0, a1] = [some a0, some a1, none, none, none] from rfl]
  obtain ⟨p, t, n, L, e1, e2, h1, h2, hg, ⟨u, v, kk, eL, v0, v1, k0, k1⟩, hn, k⟩ := h
  subst e1 e2 eL
  walk_at "rr24"
  refine rd_itei (c := 0 < u) (fun c => ?_) (fun c => ?_)
  · walk_at "rr24"
    refine rd_rI h1 ?_
    walk_at "rr24"
    refine rd_rI (divW h1 (by omega)) ?_
    walk_at "rr24"
    exact dret (k _ _ (Int.emod_nonneg _ (by omega)) (Int.emod_lt_of_pos _ h1) ⟨_, _, _, rfl, v0, v1, k0, by omega⟩)
  · walk_at "rr24"
    refine rd_rI (mulW (by omega) (by omega) (by omega) (by omega)) ?_
    walk_at "rr24"
    refine rd_rI (by decide) ?_
    have b1 := Int.emod_nonneg (v + 141650939 * (kk + 1)) (b := 2305843009213693951) (by decide)
    have b2 := Int.emod_lt_of_pos (v + 141650939 * (kk + 1)) (b := 2305843009213693951) (by decide)
    generalize (v + 141650939 * (kk + 1)) % 2305843009213693951 = o1 at b1 b2 ⊢
    walk_at "rr24"
    refine rd_rI (mulW (by omega) (by omega) (by omega) (by omega)) ?_
    walk_at "rr24"
    refine rd_rI (mulW (by omega) (by omega) (by omega) (by omega)) ?_
    walk_at "rr24"
    refine rd_rI (by decide) ?_
    have b3 := Int.emod_nonneg (o1 * o1 + 86028121 * (kk + 1) + 7) (b := 1152921504606846883) (by decide)
    have b4 := Int.emod_lt_of_pos (o1 * o1 + 86028121 * (kk + 1) + 7) (b := 1152921504606846883) (by decide)
    generalize (o1 * o1 + 86028121 * (kk + 1) + 7) % 1152921504606846883 = o2 at b3 b4 ⊢
    walk_at "rr24"
    refine rd_rI (by decide) ?_
    have b5 := Int.emod_nonneg o1 (b := 1031) (by decide)
    have b6 := Int.emod_lt_of_pos o1 (b := 1031) (by decide)
    generalize o1 % 1031 = o3 at b5 b6 ⊢
    walk_at "rr24"
    refine rd_rI (mulW (by omega) (by omega) (by omega) (by omega)) ?_
    walk_at "rr24"
    refine rd_rI (divW (by decide) (by decide)) ?_
    walk_at "rr24"
    refine rd_rI h1 ?_
    walk_at "rr24"
    exact dret (k _ _ (Int.emod_nonneg _ (by omega)) (Int.emod_lt_of_pos _ h1) ⟨_, _, _, rfl, v0, v1, by omega, by omega⟩)

abbrev s_qtaken : Stmt := topS 60
abbrev N_qtaken : List Str := ["_law_jug_here", "_law_items"]
theorem sc_qtaken : FnScope N_qtaken ["_law_jug_here", "_law_items"] (defScope s_qtaken) := ⟨rfl, rfl, rfl, by decide +kernel, rfl, by decide +kernel, by decide +kernel⟩
abbrev sp_qtaken (c_KeptMembers c_Lot c_Refused tb_free_set_in : Addr) : SpD :=
  sp2 fun a b g P => ∃ p ds n L, a = .ref p ∧ b = .lst ds ∧ ds ≠ [] ∧ ds.length < 100000 ∧ g p = some (.lst L) ∧ PotL n L ∧ n ≤ 100000 ∧ ∀ d ∈ ds, ∀ L', PotL (n + 1) L' → P d (gup g p (.lst L'))

local macro_rules | `(tactic| walk_at "rr25") => `(tactic| (repeat (first | (with_reducible first | refine rd_seq ?_ | refine rd_seqE ?_ | refine rd_next ?_ | refine rd_rtE ?_ | refine rd_nxE ?_ | refine rd_nx ?_ | refine rd_rt ?_ | refine rd_drop ?_ | refine rd_ret ?_ | refine rd_c ?_ | refine rd_op ?_ | refine rd_b ?_ | refine rd_bK ?_ | refine rd_nil ?_ | refine rd_cons ?_ | refine rd_cb ?_ | refine rd_call ?_ | refine rd_sp1 ?_ | refine rd_sp2 ?_ | refine rd_sp3 ?_ | refine rd_itet ?_ | refine rd_itef ?_ | refine rd_itnt ?_ | refine rd_itnf ?_) | ((with_reducible apply rd_var); (· exact rfl)) | ((with_reducible apply rd_len); (· (first | assumption | exact seqD_ref (by assumption) | exact seqD_up | exact lstD_ref (by assumption) | exact lstD_up | rfl))) | ((with_reducible apply rd_ix); (· (first | assumption | exact seqD_ref (by assumption) | exact seqD_up | exact lstD_ref (by assumption) | exact lstD_up | rfl)); (· (first | exact atI_c0 _ _ | exact atI_c1 _ _ _ | exact atI_c2 _ _ _ _ | assumption | rfl))))))
theorem ok_qtaken {P : Program} {w : World} {K : Fg} {mg : Str → Option Value} {base : Heap} {t_ALL t_MAX_EXPONENT t_MAX_LETTERS t_MAX_MEMBERS t_MAX_MEMBER_EXPONENT t_MAX_PASSED : Tok} {c_KeptMembers c_Lot c_Refused tb_free_set_in : Addr} {f f_qpour : Addr} {fd d_qpour : FuncData} (D : Dfn K mg "_law_taken" s_qtaken ["_law_jug_here", "_law_items"] f fd) (T : Txt P K mg t_ALL t_MAX_EXPONENT t_MAX_LETTERS t_MAX_MEMBERS t_MAX_MEMBER_EXPONENT t_MAX_PASSED c_KeptMembers c_Lot c_Refused tb_free_set_in) (D_qpour : Dfn K mg "_law_pour" s_qpour ["_law_jug_here", "_law_total"] f_qpour d_qpour) (G_qpour : FnOk P w K mg base CX0 1 f_qpour d_qpour ["_law_jug_here", "_law_total"] (upSp K (sp_qpour c_KeptMembers c_Lot c_Refused tb_free_set_in))) :
    FnOk P w K mg base CX0 2 f fd ["_law_jug_here", "_law_items"] (upSp K (sp_qtaken c_KeptMembers c_Lot c_Refused tb_free_set_in)) := by
  refine fun_okD D.fn sc_qtaken (fun ds g Q h => len2 h) (fun cdv A outer s H E hr => ⟨_, (pds_one (pds_ret (pd_ix (pdv 1) (pd_call G_qpour (hr.mono (by decide)) D_qpour.at_ D_qpour.fn.kp D_qpour.bd pass0 (pda_cons (pdv 0) (pda_cons (pd_callB call_len_seq ref_len T.b_len (by decide +kernel) (pda_cons (pdv 1) pda_nil)) pda_nil)))))), ?_⟩)
  intro ds g Q h
  obtain ⟨a0, a1, rfl, h⟩ := sp2_of h
  rw [show startD N_qtaken [a0, a1] = [some a0, some a1] from rfl]
  obtain ⟨p, ds, n, L, e1, e2, h1, h2, hg, hp, hn, k⟩ := h
  subst e1 e2
  have hl : 1 ≤ ds.length := List.length_pos_iff.mpr h1
  walk_at "rr25"
  refine ⟨p, _, n, L, rfl, rfl, by omega, by omega, hg, hp, hn, fun r L' r0 r1 hp' => ?_⟩
  obtain ⟨j, rfl⟩ := Int.eq_ofNat_of_zero_le r0
  have hj : j < ds.length := by omega
  (with_reducible apply rd_ix)
  · rfl
  · exact atI_nat (List.getElem?_eq_getElem hj)
  walk_at "rr25"
  exact dret (k _ (List.getElem_mem hj) _ hp')

abbrev s_qdivides : Stmt := topS 61
abbrev N_qdivides : List Str := ["_law_one", "_law_other", "_law_left", "_law_right_here"]
theorem sc_qdivides : FnScope N_qdivides ["_law_one", "_law_other"] (defScope s_qdivides) := ⟨rfl, rfl, rfl, by decide +kernel, rfl, by decide +kernel, by decide +kernel⟩
abbrev sp_qdivides (c_KeptMembers c_Lot c_Refused tb_free_set_in : Addr) : SpD :=
  sp2 fun a b g P => ∃ xs ys : List Int, a = tI xs ∧ b = tI ys ∧ xs.length ≤ 100 ∧ P (.bl (dvB xs ys)) g

local macro_rules | `(tactic| walk_at "rr26") => `(tactic| (repeat (first | (with_reducible first | refine rd_seq ?_ | refine rd_seqE ?_ | refine rd_next ?_ | refine rd_rtE ?_ | refine rd_nxE ?_ | refine rd_nx ?_ | refine rd_rt ?_ | refine rd_drop ?_ | refine rd_ret ?_ | refine rd_c ?_ | refine rd_op ?_ | refine rd_b ?_ | refine rd_bK ?_ | refine rd_nil ?_ | refine rd_cons ?_ | refine rd_lst ?_ | refine rd_cb ?_ | refine rd_call ?_ | refine rd_sp1 ?_ | refine rd_sp2 ?_ | refine rd_sp3 ?_ | refine rd_cmp ?_ | refine rd_lc ?_ | refine rd_wzip ?_ | refine rd_zipT ?_ | refine rd_itet ?_ | refine rd_itef ?_ | refine rd_itnt ?_ | refine rd_itnf ?_) | ((with_reducible apply rd_var); (· exact rfl)))))
theorem ok_qdivides {P : Program} {w : World} {K : Fg} {mg : Str → Option Value} {base : Heap} {t_ALL t_MAX_EXPONENT t_MAX_LETTERS t_MAX_MEMBERS t_MAX_MEMBER_EXPONENT t_MAX_PASSED : Tok} {c_KeptMembers c_Lot c_Refused tb_free_set_in : Addr} {f : Addr} {fd : FuncData} (D : Dfn K mg "_law_divides" s_qdivides ["_law_one", "_law_other"] f fd) (T : Txt P K mg t_ALL t_MAX_EXPONENT t_MAX_LETTERS t_MAX_MEMBERS t_MAX_MEMBER_EXPONENT t_MAX_PASSED c_KeptMembers c_Lot c_Refused tb_free_set_in) :
    FnOk P w K mg base CX0 1 f fd ["_law_one", "_law_other"] (upSp K (sp_qdivides c_KeptMembers c_Lot c_Refused tb_free_set_in)) := by
  refine fun_okD D.fn sc_qdivides (fun ds g Q h => len2 h) (fun cdv A outer s H E hr => ⟨_, (pds_one (pds_ret (pd_cmp (op_eqD hr.units) (RefCmp.op ref_eq) (pd_lc (own := [("_law_left", 2), ("_law_right_here", 3)]) (tg := .tp [2, 3]) rfl sc_qdivides.nd (pid_zip T.b_zip (pda_cons (pdv 0) (pda_cons (pdv 1) pda_nil))) (blkOk_by (own := [("_law_left", 2), ("_law_right_here", 3)]) (N := N_qdivides) (sc := defScope s_qdivides) (by decide +kernel)) (fun _ _ _ _ _ => (pgd_tp (is := [2, 3]) rfl (pgd_cons (i := 2) (pgd_nm (i := 2) sc_qdivides.nd) (pgd_cons (i := 3) (pgd_nm (i := 3) sc_qdivides.nd) pgd_nil)))) (fun _ _ _ _ _ => (ptsd_one (pt_cmpD op_gt (RefCmp.op ref_cmp) (pdv 2) (pdv 3) (nomark _)))) (fun _ _ _ _ _ => pd_int)) (pd_lst pda_nil) (nomark _)))), ?_⟩)
  intro ds g Q h
  obtain ⟨a0, a1, rfl, h⟩ := sp2_of h
  rw [show startD N_qdivides [a0, a1] = [some a0, some a1, none, none] from rfl]
  obtain ⟨xs, ys, e1, e2, hx, k⟩ := h
  subst e1 e2
  have hz := zip_len xs ys
  walk_at "rr26"
  refine rd_zK (by omega) (comp_fil (p := gt12D) (f := fun _ => .int 1) (fun d hd => ?_) ?_)
  · obtain ⟨i, j, e⟩ := zip_mem hd
    subst e
    refine ⟨_, rfl, fun Q' h' => ?_, fun _ Q2 h2 => ?_⟩
    · walk_at "rr26"
      exact h'
    · walk_at "rr26"
      exact h2
  rw [ones_map]
  walk_at "rr26"
  refine rd_zK (by show 0 ≤ 16777216; decide) ?_
  refine rd_eq (okD_lI _) (okD_lI []) ?_
  rw [show (DV.lst []) = .lst (([] : List Int).map DV.int) from rfl, eqD_lI, ones_nil]
  walk_at "rr26"
  exact dret k

abbrev s_qleast : Stmt := topS 63
abbrev N_qleast : List Str := ["_law_products", "_law_once", "_law_found", "_law_product_here", "_law_other"]
theorem sc_qleast : FnScope N_qleast ["_law_products"] (defScope s_qleast) := ⟨rfl, rfl, rfl, by decide +kernel, rfl, by decide +kernel, by decide +kernel⟩
abbrev sp_qleast (c_KeptMembers c_Lot c_Refused tb_free_set_in : Addr) : SpD :=
  sp1 fun a g P => ∃ (n : Nat) (B : Int) (L : List (List Int)), a = .lst (L.map tI) ∧ 1 ≤ n ∧ n ≤ 8 ∧ 0 ≤ B ∧ Prods n B L ∧ L.length ≤ 24 ∧ P (.tup ((leastL L).map tI)) g

local macro_rules | `(tactic| walk_at "rr27") => `(tactic| (repeat (first | (with_reducible first | refine rd_seq ?_ | refine rd_seqE ?_ | refine rd_next ?_ | refine rd_rtE ?_ | refine rd_nxE ?_ | refine rd_nx ?_ | refine rd_rt ?_ | refine rd_ct ?_ | refine rd_bk ?_ | refine rd_drop ?_ | refine rd_ret ?_ | refine rd_dif ?_ | refine rd_asg ?_ | refine rd_for ?_ | refine rd_c ?_ | refine rd_op ?_ | refine rd_b ?_ | refine rd_bK ?_ | refine rd_tru ?_ | refine rd_tKb ?_ | refine rd_and ?_ | refine rd_nil ?_ | refine rd_cons ?_ | refine rd_lst ?_ | refine rd_lstM ?_ | refine rd_cb ?_ | refine rd_call ?_ | refine rd_sp1 ?_ | refine rd_sp2 ?_ | refine rd_sp3 ?_ | refine rd_mt ?_ | refine rd_lc ?_ | refine rd_wseq ?_ | refine rd_wsT ?_ | refine rd_wsL ?_ | refine rd_wsS ?_ | refine rd_sts ?_ | refine rd_itet ?_ | refine rd_itef ?_ | refine rd_itnt ?_ | refine rd_itnf ?_) | ((with_reducible apply rd_var); (· exact rfl)) | ((with_reducible apply rd_asgK); (· exact rfl)) | ((with_reducible apply rd_tuple); (· (first | assumption | exact seqD_ref (by assumption) | exact seqD_up | exact lstD_ref (by assumption) | exact lstD_up | rfl))) | ((with_reducible apply rd_some); (· (first | assumption | exact seqD_ref (by assumption) | exact seqD_up | exact lstD_ref (by assumption) | exact lstD_up | rfl))))))
theorem ok_qleast {P : Program} {w : World} {K : Fg} {mg : Str → Option Value} {base : Heap} {t_ALL t_MAX_EXPONENT t_MAX_LETTERS t_MAX_MEMBERS t_MAX_MEMBER_EXPONENT t_MAX_PASSED : Tok} {c_KeptMembers c_Lot c_Refused tb_free_set_in : Addr} {f f_qdivides : Addr} {fd d_qdivides : FuncData} (D : Dfn K mg "_law_least" s_qleast ["_law_products"] f fd) (T : Txt P K mg t_ALL t_MAX_EXPONENT t_MAX_LETTERS t_MAX_MEMBERS t_MAX_MEMBER_EXPONENT t_MAX_PASSED c_KeptMembers c_Lot c_Refused tb_free_set_in) (D_qdivides : Dfn K mg "_law_divides" s_qdivides ["_law_one", "_law_other"] f_qdivides d_qdivides) (G_qdivides : FnOk P w K mg base CX0 1 f_qdivides d_qdivides ["_law_one", "_law_other"] (upSp K (sp_qdivides c_KeptMembers c_Lot c_Refused tb_free_set_in))) :
    FnOk P w K mg base CX0 2 f fd ["_law_products"] (upSp K (sp_qleast c_KeptMembers c_Lot c_Refused tb_free_set_in)) := by
  refine fun_okD D.fn sc_qleast (fun ds g Q h => len1 h) (fun cdv A outer s H E hr => ⟨_, (pds_cons (pds_set (i := 1) sc_qleast.nd (pd_sortedSetT hr.units T.b_sorted T.b_set (pdv 0))) (pds_cons (pds_set (i := 2) sc_qleast.nd (pd_lstM pda_nil)) (pds_cons (pds_for (tg := .nm 3) PassesOwn.never rfl (pid_seq (pdv 1)) (pgd_nm (i := 3) sc_qleast.nd) (pds_one (pds_if (pt_cmpD (op_eqD hr.units) (RefCmp.op ref_eq) (pd_lc (own := [("_law_other", 4)]) (tg := .nm 4) rfl sc_qleast.nd (pid_seq (pdv 1)) (blkOk_by (own := [("_law_other", 4)]) (N := N_qleast) (sc := defScope s_qleast) (by decide +kernel)) (fun _ _ _ _ _ => (pgd_nm (i := 4) sc_qleast.nd)) (fun _ _ _ _ _ => (ptsd_one (pwd_pt (pwd_and (pt_cmpD (op_neD hr.units) (RefCmp.op ref_ne) (pdv 4) (pdv 3) (nomark _)) (pwd_and1 (pt_truD (pd_call G_qdivides (hr.mono (by decide)) D_qdivides.at_ D_qdivides.fn.kp D_qdivides.bd pass0 (pda_cons (pdv 4) (pda_cons (pdv 3) pda_nil))))))))) (fun _ _ _ _ _ => (pdv 4))) (pd_lst pda_nil) (nomark _)) (pds_one (pds_expr (pd_append (pdv 2) (pda_cons (pdv 3) pda_nil)))) pds_nil))) (pds_fz 2 (pds_one (pds_ret (pd_callTy call_tuple_of ref_tuple T.b_tuple (by decide +kernel) (pda_cons (pdv 2) pda_nil)))))))), ?_⟩)
  intro ds g Q h
  obtain ⟨a0, rfl, h⟩ := sp1_of h
  rw [show startD N_qleast [a0] = [some a0, none, none, none, none] from rfl]
  obtain ⟨n, B, L, e1, n1, n8, hB, hp, hl, k⟩ := h
  subst e1
  walk_at "rr27"
  have hb : ∀ z ∈ L, z.length = n ∧ TS.Bd (B + 1) z := fun z hz => ⟨(hp z hz).1, fun x hx => by have := (hp z hz).2 x hx; omega⟩
  refine ⟨L, rfl, by omega, n, B + 1, n1, hb, fun M nd hM hML hs => ?_⟩
  have asc := asc_of_code (B := B + 1) (n := n) nd (fun z hz => hb z ((hM z).mp hz)) hs
  have hpM : Prods n B M := hp.sub fun z hz => (hM z).mp hz
  rw [tIs]
  walk_at "rr27"
  refine rd_zK (by show 0 ≤ 16777216; decide) ?_
  intro q hq
  walk_at "rr27"
  refine rd_loopX (I := fun i δ g' => g' = gup g q (.lst (((M.take i).filter (minB M)).map tI)) ∧ ∃ v3 v4 : Option DV, δ = [some (.lst (L.map tI)), some (.lst (M.map tI)), some (.ref q), v3, v4]) ⟨rfl, _, _, rfl⟩ ?_ ?_
  · intro i d hd δ g' f hf hI
    obtain ⟨eg, v3, v4, e⟩ := hI
    subst eg e
    rw [List.getElem?_map] at hd
    obtain ⟨m, hx, e⟩ := Option.map_eq_some_iff.mp hd
    subst e
    have hm := List.mem_of_getElem? hx
    have hft := filter_take (q := minB M) hx
    have hfl := flt_len (O := M) (q := minB M) i
    refine ⟨_, rfl, ?_⟩
    walk_at "rr27"
    refine rd_zK (by rw [List.length_map]; omega) (comp_fil (p := lwP (tI m)) (f := fun d => d) (fun d hd => ?_) ?_)
    · obtain ⟨x, hx, e⟩ := tI_mem hd
      subst e
      refine ⟨_, rfl, fun Q' h' => ?_, fun _ Q2 h2 => ?_⟩
      · walk_at "rr27"
        refine rd_ne (okD_tI x) (okD_tI m) ?_
        rw [eqD_tI]
        rw [lwP_at] at h'
        walk_at "rr27"
        refine rd_iteb (fun c => ?_) (fun c => ?_)
        · rw [c, Bool.true_and] at h'
          walk_at "rr27"
          refine ⟨x, m, rfl, rfl, by rw [(hpM x hx).1]; omega, ?_⟩
          walk_at "rr27"
          exact h'
        · rw [c, Bool.false_and] at h'
          exact h'
      · walk_at "rr27"
        exact h2
    rw [lw_map]
    walk_at "rr27"
    refine rd_zK (by show 0 ≤ 16777216; decide) ?_
    refine rd_eq (okD_lIs' _) (okD_lIs' []) ?_
    rw [eqD_nilL, lw_min]
    walk_at "rr27"
    refine rd_iteb (fun c => ?_) (fun c => ?_)
    · rw [if_pos c] at hft
      walk_at "rr27"
      refine rd_append gup_same (by rw [List.length_map]; omega) ?_
      rw [gup_gup, show ((M.take i).filter (minB M)).map tI ++ [tI m] = ((M.take i).filter (minB M) ++ [m]).map tI by rw [List.map_append]; rfl, ← hft]
      walk_at "rr27"
      exact hf _ _ ⟨rfl, _, _, rfl⟩
    · rw [if_neg (by rw [c]; decide), List.append_nil] at hft
      walk_at "rr27"
      exact hf _ _ ⟨by rw [hft], _, _, rfl⟩
  · intro δ g' hI
    obtain ⟨eg, v3, v4, e⟩ := hI
    subst eg e
    rw [List.length_map, List.take_length, asc_least asc hM]
    walk_at "rr27"
    refine rd_fz rfl gup_same ?_
    rw [gdel_gup hq]
    walk_at "rr27"
    exact dret k

abbrev s_qproduct : Stmt := topS 64
abbrev N_qproduct : List Str := ["_law_jug_here", "_law_letters", "_law_most", "_law_found", "_law_letter"]
theorem sc_qproduct : FnScope N_qproduct ["_law_jug_here", "_law_letters", "_law_most"] (defScope s_qproduct) := ⟨rfl, rfl, rfl, by decide +kernel, rfl, by decide +kernel, by decide +kernel⟩
abbrev sp_qproduct (c_KeptMembers c_Lot c_Refused tb_free_set_in : Addr) : SpD :=
  sp3 fun a b c g P => ∃ (p : Addr) (l n : Nat) (m : Int) (L : List DV), a = .ref p ∧ b = .int (l : Int) ∧ l ≤ 8 ∧ c = .int m ∧ 1 ≤ m ∧ m ≤ 4 ∧ g p = some (.lst L) ∧ PotL n L ∧ n ≤ 90000 ∧ ∀ (xs : List Int) (L' : List DV), xs.length = l → (∀ x ∈ xs, 0 ≤ x ∧ x ≤ m) → PotL (n + 16) L' → P (tI xs) (gup g p (.lst L'))

local macro_rules | `(tactic| walk_at "rr28") => `(tactic| (repeat (first | (with_reducible first | refine rd_seq ?_ | refine rd_seqE ?_ | refine rd_next ?_ | refine rd_rtE ?_ | refine rd_nxE ?_ | refine rd_nx ?_ | refine rd_rt ?_ | refine rd_ct ?_ | refine rd_bk ?_ | refine rd_drop ?_ | refine rd_ret ?_ | refine rd_asg ?_ | refine rd_for ?_ | refine rd_c ?_ | refine rd_op ?_ | refine rd_b ?_ | refine rd_bK ?_ | refine rd_ifE ?_ | refine rd_nil ?_ | refine rd_cons ?_ | refine rd_lst ?_ | refine rd_lstM ?_ | refine rd_cb ?_ | refine rd_call ?_ | refine rd_sp1 ?_ | refine rd_sp2 ?_ | refine rd_sp3 ?_ | refine rd_add ?_ | refine rd_mt ?_ | refine rd_rng1 ?_ | refine rd_itet ?_ | refine rd_itef ?_ | refine rd_itnt ?_ | refine rd_itnf ?_) | ((with_reducible apply rd_var); (· exact rfl)) | ((with_reducible apply rd_asgK); (· exact rfl)) | ((with_reducible apply rd_tuple); (· (first | assumption | exact seqD_ref (by assumption) | exact seqD_up | exact lstD_ref (by assumption) | exact lstD_up | rfl))) | ((with_reducible apply rd_some); (· (first | assumption | exact seqD_ref (by assumption) | exact seqD_up | exact lstD_ref (by assumption) | exact lstD_up | rfl))))))
theorem ok_qproduct {P : Program} {w : World} {K : Fg} {mg : Str → Option Value} {base : Heap} {t_ALL t_MAX_EXPONENT t_MAX_LETTERS t_MAX_MEMBERS t_MAX_MEMBER_EXPONENT t_MAX_PASSED : Tok} {c_KeptMembers c_Lot c_Refused tb_free_set_in : Addr} {f f_qpour : Addr} {fd d_qpour : FuncData} (D : Dfn K mg "_law_product" s_qproduct ["_law_jug_here", "_law_letters", "_law_most"] f fd) (T : Txt P K mg t_ALL t_MAX_EXPONENT t_MAX_LETTERS t_MAX_MEMBERS t_MAX_MEMBER_EXPONENT t_MAX_PASSED c_KeptMembers c_Lot c_Refused tb_free_set_in) (D_qpour : Dfn K mg "_law_pour" s_qpour ["_law_jug_here", "_law_total"] f_qpour d_qpour) (G_qpour : FnOk P w K mg base CX0 1 f_qpour d_qpour ["_law_jug_here", "_law_total"] (upSp K (sp_qpour c_KeptMembers c_Lot c_Refused tb_free_set_in))) :
    FnOk P w K mg base CX0 2 f fd ["_law_jug_here", "_law_letters", "_law_most"] (upSp K (sp_qproduct c_KeptMembers c_Lot c_Refused tb_free_set_in)) := by
  refine fun_okD D.fn sc_qproduct (fun ds g Q h => len3 h) (fun cdv A outer s H E hr => ⟨_, (pds_cons (pds_set (i := 3) sc_qproduct.nd (pd_lstM pda_nil)) (pds_cons (pds_for (tg := .nm 4) PassesOwn.never rfl (pid_range1 T.b_range (pda_cons (pdv 1) pda_nil)) (pgd_nm (i := 4) sc_qproduct.nd) (pds_one (pds_expr (pd_append (pdv 3) (pda_cons (pd_ifExp (pt_cmpD (op_eqD hr.units) (RefCmp.op ref_eq) (pd_call G_qpour (hr.mono (by decide)) D_qpour.at_ D_qpour.fn.kp D_qpour.bd pass0 (pda_cons (pdv 0) (pda_cons pd_int pda_nil))) pd_int (nomark _)) pd_int (pd_call G_qpour (hr.mono (by decide)) D_qpour.at_ D_qpour.fn.kp D_qpour.bd pass0 (pda_cons (pdv 0) (pda_cons (pd_add (pdv 2) pd_int) pda_nil)))) pda_nil))))) (pds_fz 3 (pds_one (pds_ret (pd_callTy call_tuple_of ref_tuple T.b_tuple (by decide +kernel) (pda_cons (pdv 3) pda_nil))))))), ?_⟩)
  intro ds g Q h
  obtain ⟨a0, a1, a2, rfl, h⟩ := sp3_of h
  rw [show startD N_qproduct [a0, a1, a2] = [some a0, some a1, some a2, none, none] from rfl]
  obtain ⟨p, l, n, m, L, e1, e2, hl, e3, m1, m4, hg, hp, hn, k⟩ := h
  subst e1 e2 e3
  walk_at "rr28"
  refine rd_zK (by show 0 ≤ 16777216; decide) ?_
  intro q hq
  have hqp : q ≠ p := fun z => by rw [z, hg] at hq; cases hq
  have hpq : p ≠ q := fun z => hqp z.symm
  walk_at "rr28"
  refine rd_rng1K (j := (l : Int)) ⟨by omega, by omega⟩ ?_
  rw [Int.toNat_natCast]
  refine rd_loopX (I := fun i δ g' => ∃ (xs : List Int) (L' : List DV), xs.length = i ∧ (∀ x ∈ xs, 0 ≤ x ∧ x ≤ m) ∧ PotL (n + 2 * i) L' ∧ g' = gup (gup g p (.lst L')) q (.lst (xs.map DV.int)) ∧ ∃ v4 : Option DV, δ = [some (.ref p), some (.int (l : Int)), some (.int m), some (.ref q), v4]) ⟨[], L, rfl, (fun x hx => by cases hx), hp, by rw [gup_self hg]; rfl, _, rfl⟩ ?_ ?_
  · intro i d hd δ g' f hf hI
    obtain ⟨xs, L1, hxl, hx, hp1, eg, v4, e⟩ := hI
    subst eg e
    obtain ⟨hil, e⟩ := rangeD_at hd
    subst e
    refine ⟨_, rfl, ?_⟩
    walk_at "rr28"
    refine ⟨p, 2, _, L1, rfl, rfl, by decide, by decide, by rw [gup_ne hpq]; exact gup_same, hp1, by omega, fun r L2 r0 r1 hp2 => ?_⟩
    rw [gup_swap2 hqp]
    walk_at "rr28"
    refine rd_eq (okD_int _) (okD_int _) ?_
    rw [eqD_int]
    refine rd_itei (c := r = 0) (fun c => ?_) (fun c => ?_)
    · walk_at "rr28"
      refine rd_append gup_same (by rw [List.length_map]; omega) ?_
      rw [gup_gup, show xs.map DV.int ++ [DV.int 0] = (xs ++ [0]).map DV.int by rw [List.map_append]; rfl]
      walk_at "rr28"
      refine hf _ _ ⟨xs ++ [0], L2, by rw [List.length_append, hxl]; rfl, fun x hx2 => ?_, hp2.more (by omega), rfl, _, rfl⟩
      rcases List.mem_append.mp hx2 with z | z
      · exact hx x z
      · rw [List.mem_singleton.mp z]; omega
    · walk_at "rr28"
      refine ⟨p, m + 1, _, L2, rfl, rfl, by omega, by omega, by rw [gup_ne hpq]; exact gup_same, hp2, by omega, fun r2 L3 r20 r21 hp3 => ?_⟩
      rw [gup_swap2 hqp]
      walk_at "rr28"
      refine rd_append gup_same (by rw [List.length_map]; omega) ?_
      rw [gup_gup, show xs.map DV.int ++ [DV.int r2] = (xs ++ [r2]).map DV.int by rw [List.map_append]; rfl]
      walk_at "rr28"
      refine hf _ _ ⟨xs ++ [r2], L3, by rw [List.length_append, hxl]; rfl, fun x hx2 => ?_, hp3.more (by omega), rfl, _, rfl⟩
      rcases List.mem_append.mp hx2 with z | z
      · exact hx x z
      · rw [List.mem_singleton.mp z]; omega
  · intro δ g' hI
    obtain ⟨xs, L1, hxl, hx, hp1, eg, v4, e⟩ := hI
    subst eg e
    rw [rangeD_len] at hxl hp1
    walk_at "rr28"
    refine rd_fz rfl gup_same ?_
    rw [gdel_gup (by rw [gup_ne hqp]; exact hq)]
    walk_at "rr28"
    exact dret (k xs L1 hxl hx (hp1.more (by omega)))

abbrev s_qmembers : Stmt := topS 65
abbrev N_qmembers : List Str := ["_law_jug_here", "_law_letters", "_law_total", "_law_most", "_law_turn"]
theorem sc_qmembers : FnScope N_qmembers ["_law_jug_here", "_law_letters", "_law_total", "_law_most"] (defScope s_qmembers) := ⟨rfl, rfl, rfl, by decide +kernel, rfl, by decide +kernel, by decide +kernel⟩
abbrev sp_qmembers (c_KeptMembers c_Lot c_Refused tb_free_set_in : Addr) : SpD :=
  sp4 fun a b c d g P => ∃ (p : Addr) (l n k : Nat) (m : Int) (L : List DV), a = .ref p ∧ b = .int (l : Int) ∧ 1 ≤ l ∧ l ≤ 8 ∧ c = .int (k : Int) ∧ k ≤ 7 ∧ d = .int m ∧ 1 ≤ m ∧ m ≤ 4 ∧ g p = some (.lst L) ∧ PotL n L ∧ n ≤ 80000 ∧ ∀ (G : List (List Int)) (L' : List DV), Prods l m G → G.length ≤ k → PotL (n + 113) L' → P (.tup ((leastL G).map tI)) (gup g p (.lst L'))

local macro_rules | `(tactic| walk_at "rr29") => `(tactic| (repeat (first | (with_reducible first | refine rd_seq ?_ | refine rd_seqE ?_ | refine rd_next ?_ | refine rd_rtE ?_ | refine rd_nxE ?_ | refine rd_nx ?_ | refine rd_rt ?_ | refine rd_drop ?_ | refine rd_ret ?_ | refine rd_c ?_ | refine rd_op ?_ | refine rd_b ?_ | refine rd_bK ?_ | refine rd_nil ?_ | refine rd_cons ?_ | refine rd_cb ?_ | refine rd_call ?_ | refine rd_sp1 ?_ | refine rd_sp2 ?_ | refine rd_sp3 ?_ | refine rd_add ?_ | refine rd_lc ?_ | refine rd_yes ?_ | refine rd_rng1 ?_ | refine rd_itet ?_ | refine rd_itef ?_ | refine rd_itnt ?_ | refine rd_itnf ?_) | ((with_reducible apply rd_var); (· exact rfl)))))
theorem ok_qmembers {P : Program} {w : World} {K : Fg} {mg : Str → Option Value} {base : Heap} {t_ALL t_MAX_EXPONENT t_MAX_LETTERS t_MAX_MEMBERS t_MAX_MEMBER_EXPONENT t_MAX_PASSED : Tok} {c_KeptMembers c_Lot c_Refused tb_free_set_in : Addr} {f f_qleast f_qpour f_qproduct : Addr} {fd d_qleast d_qpour d_qproduct : FuncData} (D : Dfn K mg "_law_members" s_qmembers ["_law_jug_here", "_law_letters", "_law_total", "_law_most"] f fd) (T : Txt P K mg t_ALL t_MAX_EXPONENT t_MAX_LETTERS t_MAX_MEMBERS t_MAX_MEMBER_EXPONENT t_MAX_PASSED c_KeptMembers c_Lot c_Refused tb_free_set_in) (D_qleast : Dfn K mg "_law_least" s_qleast ["_law_products"] f_qleast d_qleast) (G_qleast : FnOk P w K mg base CX0 2 f_qleast d_qleast ["_law_products"] (upSp K (sp_qleast c_KeptMembers c_Lot c_Refused tb_free_set_in))) (D_qpour : Dfn K mg "_law_pour" s_qpour ["_law_jug_here", "_law_total"] f_qpour d_qpour) (G_qpour : FnOk P w K mg base CX0 1 f_qpour d_qpour ["_law_jug_here", "_law_total"] (upSp K (sp_qpour c_KeptMembers c_Lot c_Refused tb_free_set_in))) (D_qproduct : Dfn K mg "_law_product" s_qproduct ["_law_jug_here", "_law_letters", "_law_most"] f_qproduct d_qproduct) (G_qproduct : FnOk P w K mg base CX0 2 f_qproduct d_qproduct ["_law_jug_here", "_law_letters", "_law_most"] (upSp K (sp_qproduct c_KeptMembers c_Lot c_Refused tb_free_set_in))) :
    FnOk P w K mg base CX0 3 f fd ["_law_jug_here", "_law_letters", "_law_total", "_law_most"] (upSp K (sp_qmembers c_KeptMembers c_Lot c_Refused tb_free_set_in)) := by
  refine fun_okD D.fn sc_qmembers (fun ds g Q h => len4 h) (fun cdv A outer s H E hr => ⟨_, (pds_one (pds_ret (pd_call G_qleast (hr.mono (by decide)) D_qleast.at_ D_qleast.fn.kp D_qleast.bd pass0 (pda_cons (pd_lc (own := [("_law_turn", 4)]) (tg := .nm 4) rfl sc_qmembers.nd (pid_range1 T.b_range (pda_cons (pd_call G_qpour (hr.mono (by decide)) D_qpour.at_ D_qpour.fn.kp D_qpour.bd pass0 (pda_cons (pdv 0) (pda_cons (pd_add (pdv 2) pd_int) pda_nil))) pda_nil)) (blkOk_by (own := [("_law_turn", 4)]) (N := N_qmembers) (sc := defScope s_qmembers) (by decide +kernel)) (fun _ _ _ _ _ => (pgd_nm (i := 4) sc_qmembers.nd)) (fun _ _ _ _ _ => ptsd_nil) (fun _ _ _ _ _ => (pd_call G_qproduct (hr.mono (by decide)) D_qproduct.at_ D_qproduct.fn.kp D_qproduct.bd pass0 (pda_cons (pdv 0) (pda_cons (pdv 1) (pda_cons (pdv 3) pda_nil)))))) pda_nil)))), ?_⟩)
  intro ds g Q h
  obtain ⟨a0, a1, a2, a3, rfl, h⟩ := sp4_of h
  rw [show startD N_qmembers [a0, a1, a2, a3] = [some a0, some a1, some a2, some a3, none] from rfl]
  obtain ⟨p, l, n, k, m, L, e1, e2, l1, hl, e3, hk, e4, m1, m4, hg, hp, hn, kk⟩ := h
  subst e1 e2 e3 e4
  walk_at "rr29"
  refine ⟨p, _, n, L, rfl, rfl, by omega, by omega, hg, hp, by omega, fun r L1 r0 r1 hp1 => ?_⟩
  obtain ⟨j, rfl⟩ := Int.eq_ofNat_of_zero_le r0
  walk_at "rr29"
  refine rd_rng1K (j := (j : Int)) ⟨by omega, by omega⟩ ?_
  refine rd_zK (by rw [rangeD_len]; omega) (comp_invJ (Pd := fun d => ∃ xs : List Int, d = tI xs ∧ xs.length = l ∧ ∀ x ∈ xs, 0 ≤ x ∧ x ≤ m) (fun j g' => ∃ L' : List DV, g' = gup g p (.lst L') ∧ PotL (n + 1 + 16 * j) L') (m := 0) ⟨L1, rfl, hp1⟩ (fun d hd j g' hj hI => ?_) (fun ys g' hl2 hy hI => ?_))
  · obtain ⟨L2, e, hp2⟩ := hI
    subst e
    rw [rangeD_len] at hj
    obtain ⟨i, hi⟩ := List.mem_iff_getElem?.mp hd
    obtain ⟨hil, e⟩ := rangeD_at hi
    subst e
    refine ⟨_, rfl, fun Q2 h2 => ?_⟩
    walk_at "rr29"
    refine ⟨p, l, _, m, L2, rfl, rfl, hl, rfl, m1, m4, gup_same, hp2, by omega, fun xs L3 hx1 hx2 hp3 => ?_⟩
    rw [gup_gup]
    exact h2 _ _ ⟨xs, rfl, hx1, hx2⟩ ⟨L3, rfl, hp3.more (by omega)⟩
  · obtain ⟨L2, e, hp2⟩ := hI
    subst e
    rw [rangeD_len] at hl2 hp2
    obtain ⟨G, e, hG⟩ := tIs_of hy
    subst e
    have hGl : G.length ≤ k := by rw [List.length_map] at hl2; omega
    walk_at "rr29"
    exact ⟨l, m, G, rfl, l1, hl, by omega, hG, by omega, dret (kk G L2 hG hGl (hp2.more (by omega)))⟩

abbrev s_qis_free : Stmt := topS 66
abbrev N_qis_free : List Str := ["_law_members_here", "_law_chosen", "_law_member", "_law_letter", "_law_exponent"]
theorem sc_qis_free : FnScope N_qis_free ["_law_members_here", "_law_chosen"] (defScope s_qis_free) := ⟨rfl, rfl, rfl, by decide +kernel, rfl, by decide +kernel, by decide +kernel⟩
abbrev sp_qis_free (c_KeptMembers c_Lot c_Refused tb_free_set_in : Addr) : SpD :=
  sp2 fun a b g P => ∃ (n : Nat) (M : List (List Int)) (s : List Int), a = .tup (M.map tI) ∧ b = tI s ∧ n ≤ 8 ∧ Prods n 60 M ∧ P (.bl (freeB M s)) g

local macro_rules | `(tactic| walk_at "rr30") => `(tactic| (repeat (first | (with_reducible first | refine rd_seq ?_ | refine rd_seqE ?_ | refine rd_next ?_ | refine rd_rtE ?_ | refine rd_nxE ?_ | refine rd_nx ?_ | refine rd_rt ?_ | refine rd_ct ?_ | refine rd_bk ?_ | refine rd_drop ?_ | refine rd_ret ?_ | refine rd_dif ?_ | refine rd_for ?_ | refine rd_c ?_ | refine rd_op ?_ | refine rd_b ?_ | refine rd_bK ?_ | refine rd_and ?_ | refine rd_nil ?_ | refine rd_cons ?_ | refine rd_lst ?_ | refine rd_cb ?_ | refine rd_call ?_ | refine rd_sp1 ?_ | refine rd_sp2 ?_ | refine rd_sp3 ?_ | refine rd_cmp ?_ | refine rd_lc ?_ | refine rd_wseq ?_ | refine rd_wsT ?_ | refine rd_wsL ?_ | refine rd_wsS ?_ | refine rd_wenT ?_ | refine rd_enK ?_ | refine rd_itet ?_ | refine rd_itef ?_ | refine rd_itnt ?_ | refine rd_itnf ?_) | ((with_reducible apply rd_var); (· exact rfl)))))
theorem ok_qis_free {P : Program} {w : World} {K : Fg} {mg : Str → Option Value} {base : Heap} {t_ALL t_MAX_EXPONENT t_MAX_LETTERS t_MAX_MEMBERS t_MAX_MEMBER_EXPONENT t_MAX_PASSED : Tok} {c_KeptMembers c_Lot c_Refused tb_free_set_in : Addr} {f : Addr} {fd : FuncData} (D : Dfn K mg "_law_is_free" s_qis_free ["_law_members_here", "_law_chosen"] f fd) (T : Txt P K mg t_ALL t_MAX_EXPONENT t_MAX_LETTERS t_MAX_MEMBERS t_MAX_MEMBER_EXPONENT t_MAX_PASSED c_KeptMembers c_Lot c_Refused tb_free_set_in) :
    FnOk P w K mg base CX0 1 f fd ["_law_members_here", "_law_chosen"] (upSp K (sp_qis_free c_KeptMembers c_Lot c_Refused tb_free_set_in)) := by
  refine fun_okD D.fn sc_qis_free (fun ds g Q h => len2 h) (fun cdv A outer s H E hr => ⟨_, (pds_cons (pds_for (tg := .nm 2) PassesOwn.never rfl (pid_seq (pdv 0)) (pgd_nm (i := 2) sc_qis_free.nd) (pds_one (pds_if (pt_cmpD (op_eqD hr.units) (RefCmp.op ref_eq) (pd_lc (own := [("_law_letter", 3), ("_law_exponent", 4)]) (tg := .tp [3, 4]) rfl sc_qis_free.nd (pid_enT T.b_enumerate (pda_cons (pdv 2) pda_nil)) (blkOk_by (own := [("_law_letter", 3), ("_law_exponent", 4)]) (N := N_qis_free) (sc := defScope s_qis_free) (by decide +kernel)) (fun _ _ _ _ _ => (pgd_tp (is := [3, 4]) rfl (pgd_cons (i := 3) (pgd_nm (i := 3) sc_qis_free.nd) (pgd_cons (i := 4) (pgd_nm (i := 4) sc_qis_free.nd) pgd_nil)))) (fun _ _ _ _ _ => (ptsd_one (pwd_pt (pwd_and (pt_cmpD op_gt (RefCmp.op ref_cmp) (pdv 4) pd_int (nomark _)) (pwd_and1 (pt_cmpD (op_notInTp (units65 hr)) (RefCmp.op ref_inTp) (pdv 3) (pdv 1) (by rfl))))))) (fun _ _ _ _ _ => pd_int)) (pd_lst pda_nil) (nomark _)) (pds_one (pds_ret pd_bl)) pds_nil))) (pds_one (pds_ret pd_bl))), ?_⟩)
  intro ds g Q h
  obtain ⟨a0, a1, rfl, h⟩ := sp2_of h
  rw [show startD N_qis_free [a0, a1] = [some a0, some a1, none, none, none] from rfl]
  obtain ⟨n, M, s, e1, e2, n8, hM, k⟩ := h
  subst e1 e2
  walk_at "rr30"
  refine rd_loopX (I := fun i δ g' => g' = g ∧ freeB (M.take i) s = true ∧ ∃ v2 v3 v4 : Option DV, δ = [some (.tup (M.map tI)), some (tI s), v2, v3, v4]) ⟨rfl, rfl, none, none, none, rfl⟩ ?_ ?_
  · intro i d hd δ g' f hf hI
    obtain ⟨eg, hfr, v2, v3, v4, e⟩ := hI
    subst eg e
    rw [List.getElem?_map] at hd
    obtain ⟨m, hm, e⟩ := Option.map_eq_some_iff.mp hd
    subst e
    have hmM := List.mem_of_getElem? hm
    have hml := (hM m hmM).1
    refine ⟨_, rfl, ?_⟩
    walk_at "rr30"
    refine rd_zK (by rw [en_ints14, List.length_map, List.length_range]; omega) (comp_fil (p := freeD s) (f := fun _ => .int 1) (fun d hd => ?_) ?_)
    · rw [en_ints14] at hd
      obtain ⟨j, hj, e⟩ := List.mem_map.mp hd
      subst e
      refine ⟨_, rfl, fun Q' h3 => ?_, fun _ Q2 h2 => ?_⟩
      · walk_at "rr30"
        have h3 : Q' (decide (0 < m.getD j 0) && !decide ((j : Int) ∈ s)) _ := h3
        by_cases c : 0 < m.getD j 0
        · rw [if_pos (decide_eq_true c)]
          walk_at "rr30"
          refine rd_inTp (neg := true) (okD_int _) (okD_tI _) ?_
          rw [if_pos rfl, any_ints]
          rw [decide_eq_true c, Bool.true_and] at h3
          walk_at "rr30"
          exact h3
        · rw [if_neg (by simpa using c)]
          rw [decide_eq_false c, Bool.false_and] at h3
          exact h3
      · walk_at "rr30"
        exact h2
    · walk_at "rr30"
      refine rd_zK (by show 0 ≤ 16777216; decide) ?_
      refine rd_eq (okD_ones14 _) (okD_ones14 []) ?_
      rw [ones_free]
      walk_at "rr30"
      refine rd_iteb (fun c => ?_) (fun c => ?_)
      · rw [free_out hm (by simpa using c)] at k
        walk_at "rr30"
        exact dret k
      · walk_at "rr30"
        exact hf _ _ ⟨rfl, free_in hfr hm (by simpa using c), _, _, _, rfl⟩
  · intro δ g' hI
    obtain ⟨eg, hfr, v2, v3, v4, e⟩ := hI
    subst eg e
    rw [List.length_map, List.take_length] at hfr
    rw [hfr] at k
    walk_at "rr30"
    exact dret k

abbrev s_qsets : Stmt := topS 67
abbrev N_qsets : List Str := ["_law_letters", "_law_found", "_law_letter", "_law_chosen"]
theorem sc_qsets : FnScope N_qsets ["_law_letters"] (defScope s_qsets) := ⟨rfl, rfl, rfl, by decide +kernel, rfl, by decide +kernel, by decide +kernel⟩
abbrev sp_qsets (c_KeptMembers c_Lot c_Refused tb_free_set_in : Addr) : SpD :=
  sp1 fun a g P => ∃ n : Nat, a = .int (n : Int) ∧ n ≤ 8 ∧ P (.lst ((setsL n).map tI)) g

local macro_rules | `(tactic| walk_at "rr31") => `(tactic| (repeat (first | (with_reducible first | refine rd_seq ?_ | refine rd_seqE ?_ | refine rd_next ?_ | refine rd_rtE ?_ | refine rd_nxE ?_ | refine rd_nx ?_ | refine rd_rt ?_ | refine rd_ct ?_ | refine rd_bk ?_ | refine rd_drop ?_ | refine rd_ret ?_ | refine rd_asg ?_ | refine rd_for ?_ | refine rd_c ?_ | refine rd_op ?_ | refine rd_b ?_ | refine rd_bK ?_ | refine rd_nil ?_ | refine rd_cons ?_ | refine rd_tup ?_ | refine rd_lst ?_ | refine rd_cb ?_ | refine rd_call ?_ | refine rd_sp1 ?_ | refine rd_sp2 ?_ | refine rd_sp3 ?_ | refine rd_add ?_ | refine rd_lc ?_ | refine rd_yes ?_ | refine rd_wseq ?_ | refine rd_wsT ?_ | refine rd_wsL ?_ | refine rd_wsS ?_ | refine rd_rng1 ?_ | refine rd_itet ?_ | refine rd_itef ?_ | refine rd_itnt ?_ | refine rd_itnf ?_) | ((with_reducible apply rd_var); (· exact rfl)) | ((with_reducible apply rd_asgK); (· exact rfl)))))
theorem ok_qsets {P : Program} {w : World} {K : Fg} {mg : Str → Option Value} {base : Heap} {t_ALL t_MAX_EXPONENT t_MAX_LETTERS t_MAX_MEMBERS t_MAX_MEMBER_EXPONENT t_MAX_PASSED : Tok} {c_KeptMembers c_Lot c_Refused tb_free_set_in : Addr} {f : Addr} {fd : FuncData} (D : Dfn K mg "_law_sets" s_qsets ["_law_letters"] f fd) (T : Txt P K mg t_ALL t_MAX_EXPONENT t_MAX_LETTERS t_MAX_MEMBERS t_MAX_MEMBER_EXPONENT t_MAX_PASSED c_KeptMembers c_Lot c_Refused tb_free_set_in) :
    FnOk P w K mg base CX0 1 f fd ["_law_letters"] (upSp K (sp_qsets c_KeptMembers c_Lot c_Refused tb_free_set_in)) := by
  refine fun_okD D.fn sc_qsets (fun ds g Q h => len1 h) (fun cdv A outer s H E hr => ⟨_, (pds_cons (pds_set (i := 1) sc_qsets.nd (pd_lst (pda_cons (pd_tup pda_nil) pda_nil))) (pds_cons (pds_for (tg := .nm 2) PassesOwn.never rfl (pid_range1 T.b_range (pda_cons (pdv 0) pda_nil)) (pgd_nm (i := 2) sc_qsets.nd) (pds_one (pds_set (i := 1) sc_qsets.nd (pd_add (pdv 1) (pd_lc (own := [("_law_chosen", 3)]) (tg := .nm 3) rfl sc_qsets.nd (pid_seq (pdv 1)) (blkOk_by (own := [("_law_chosen", 3)]) (N := N_qsets) (sc := defScope s_qsets) (by decide +kernel)) (fun _ _ _ _ _ => (pgd_nm (i := 3) sc_qsets.nd)) (fun _ _ _ _ _ => ptsd_nil) (fun _ _ _ _ _ => (pd_add (pdv 3) (pd_tup (pda_cons (pdv 2) pda_nil))))))))) (pds_one (pds_ret (pdv 1))))), ?_⟩)
  intro ds g Q h
  obtain ⟨a0, rfl, h⟩ := sp1_of h
  rw [show startD N_qsets [a0] = [some a0, none, none, none] from rfl]
  obtain ⟨n, e1, hn, k⟩ := h
  subst e1
  walk_at "rr31"
  refine rd_zK (by show 0 ≤ 16777216; decide) ?_
  walk_at "rr31"
  refine rd_zK (by show 1 ≤ 16777216; decide) ?_
  walk_at "rr31"
  refine rd_rng1K ⟨by omega, by omega⟩ ?_
  refine rd_loopX (I := fun i δ g' => g' = g ∧ ∃ v2 v3 : Option DV, δ = [some (.int (n : Int)), some (.lst ((setsL i).map tI)), v2, v3]) ⟨rfl, none, none, rfl⟩ ?_ ?_
  · intro i d hd δ g' f hf hI
    obtain ⟨eg, v2, v3, e⟩ := hI
    subst eg e
    obtain ⟨hi, e⟩ := rangeD_at hd
    subst e
    have hl := setsL_le (n := i) (by omega)
    refine ⟨_, rfl, ?_⟩
    walk_at "rr31"
    refine rd_zK (by rw [List.length_map]; omega) (comp_map (f := endT (i : Int)) (fun d hd => ?_) ?_)
    · obtain ⟨x, hx, e⟩ := tI_mem hd
      subst e
      have hx8 := sets_len_le hx
      refine ⟨_, rfl, fun Q2 h2 => ?_⟩
      walk_at "rr31"
      refine rd_zK (by show 1 ≤ 16777216; decide) ?_
      refine rd_addT (by rw [List.length_map]; show x.length + 1 ≤ 16777216; omega) ?_
      exact h2
    · refine rd_addL (by rw [List.length_map, List.length_map, List.length_map]; omega) ?_
      rw [setsL_D]
      walk_at "rr31"
      exact hf _ _ ⟨rfl, _, _, rfl⟩
  · intro δ g' hI
    obtain ⟨eg, v2, v3, e⟩ := hI
    subst eg e
    rw [rangeD_len, Int.toNat_natCast]
    walk_at "rr31"
    exact dret k

abbrev s_qtold : Stmt := topS 68
abbrev N_qtold : List Str := ["_law_lot", "error"]
theorem sc_qtold : FnScope N_qtold ["_law_lot"] (defScope s_qtold) := ⟨rfl, rfl, rfl, by decide +kernel, rfl, by decide +kernel, by decide +kernel⟩
abbrev sp_qtold (c_KeptMembers c_Lot c_Refused tb_free_set_in : Addr) : SpD :=
  sp1 fun a g P => ∃ (n : Nat) (M : List (List Int)), a = lotD c_Lot n M ∧ 1 ≤ n ∧ n ≤ 8 ∧ Prods n 60 M ∧ M.length ≤ 24 ∧ TbG (TT tb_free_set_in) g ∧ P (if isAllB M then .tup [.str "refused", .tup [.str "all"]] else (fsI n M).elim .non tI) g

local macro_rules | `(tactic| walk_at "rr32") => `(tactic| (repeat (first | (with_reducible first | refine rd_seq ?_ | refine rd_seqE ?_ | refine rd_next ?_ | refine rd_rtE ?_ | refine rd_nxE ?_ | refine rd_nx ?_ | refine rd_rt ?_ | refine rd_drop ?_ | refine rd_ret ?_ | refine rd_c ?_ | refine rd_op ?_ | refine rd_b ?_ | refine rd_bK ?_ | refine rd_nil ?_ | refine rd_cons ?_ | refine rd_tup ?_ | refine rd_cb ?_ | refine rd_call ?_ | refine rd_sp1 ?_ | refine rd_sp2 ?_ | refine rd_sp3 ?_ | refine rd_rcall ?_ | refine rd_sr1 ?_ | refine rd_sr2 ?_ | refine rd_sr3 ?_ | refine rd_itet ?_ | refine rd_itef ?_ | refine rd_itnt ?_ | refine rd_itnf ?_) | ((with_reducible apply rd_var); (· exact rfl)))))
theorem ok_qtold {P : Program} {w : World} {K : Fg} {mg : Str → Option Value} {base : Heap} {t_ALL t_MAX_EXPONENT t_MAX_LETTERS t_MAX_MEMBERS t_MAX_MEMBER_EXPONENT t_MAX_PASSED : Tok} {c_KeptMembers c_Lot c_Refused tb_free_set_in : Addr} {f cc_qtold f_free_set cc_free_set : Addr} {fd d_free_set : FuncData} (D : DfnC K mg "_law_told" s_qtold ["_law_lot"] f fd cc_qtold) (T : Txt P K mg t_ALL t_MAX_EXPONENT t_MAX_LETTERS t_MAX_MEMBERS t_MAX_MEMBER_EXPONENT t_MAX_PASSED c_KeptMembers c_Lot c_Refused tb_free_set_in) (D_free_set : DfnC K mg "free_set" s_free_set ["lot"] f_free_set d_free_set cc_free_set) (G_free_set : FnG P w K mg base 5 f_free_set d_free_set ["lot"] (upSp K (sp_free_set c_KeptMembers c_Lot c_Refused tb_free_set_in))) (GR_free_set : FnOk P w K mg base (L2.CX P w) 5 f_free_set d_free_set ["lot"] (upSpR K (spR_free_set c_KeptMembers c_Lot c_Refused tb_free_set_in))) :
    FnG P w K mg base 6 f fd ["_law_lot"] (upSp K (sp_qtold c_KeptMembers c_Lot c_Refused tb_free_set_in)) := by
  refine fun_okG D.fn sc_qtold (fun ds g Q h => len1 h) (fun A outer s H E hr hgd => ⟨_, (pds_one (pds_try rfl rfl sc_qtold.nd (fun pn xe po => (pds_one (pds_ret (pd_callG G_free_set (hr.mono (by decide)) hgd D_free_set.at_ D_free_set.fn.kp D_free_set.bd (pda_cons (pdv 0) pda_nil))))) (fun W pn xe tk po => (prs_now (pr_ret (pr_call GR_free_set (hr.mono (by decide)) D_free_set.at_ D_free_set.fn.kp D_free_set.bd tk (pda_cons (pdv 0) pda_nil))))) (.named (i := 1) rfl rfl ⟨rfl, by decide, .inl T.xg_Refused⟩ (ms_cons T.xm_Refused_Refused ms_nil) (fun a oe cls d pn hz hf => (pds_one (pds_ret (pd_tup (pda_cons pd_str (pda_cons (pd_xf T.XF_Refused T.xn_Refused_reason hz hf (pdv 1)) pda_nil)))))) .nil))), ?_⟩)
  intro ds g Q h
  obtain ⟨a0, rfl, h⟩ := sp1_of h
  rw [show startD N_qtold [a0] = [some a0, none] from rfl]
  obtain ⟨n, M, e1, n1, n8, hM, hl, hT, k⟩ := h
  subst e1
  cases ha : isAllB M with
  | false =>
    rw [ha, if_neg Bool.false_ne_true] at k
    refine rd_tryN ?_
    walk_at "rr32"
    exact ⟨n, M, rfl, n1, n8, hM, hl, ha, hT, dret k⟩
  | true =>
    rw [ha, if_pos rfl] at k
    refine rd_tryR ?_
    walk_at "rr32"
    refine ⟨n, M, rfl, n1, n8, hM, ha, ?_⟩
    refine rd_hYesF (by simp) fun a d => ?_
    walk_at "rr32"
    refine rd_xf ?_
    walk_at "rr32"
    refine rd_excK ?_
    walk_at "rr32"
    refine rd_zK (by simp) ?_
    exact dret k

abbrev s_qright : Stmt := topS 69
abbrev N_qright : List Str := ["_law_jug_here", "_law_letters", "_law_members_here", "_law_due", "_law_told_here", "_law_values", "_law_value", "_law_lot", "_law_free", "_law_is_right", "_law_chosen"]
theorem sc_qright : FnScope N_qright ["_law_jug_here"] (defScope s_qright) := ⟨rfl, rfl, rfl, by decide +kernel, rfl, by decide +kernel, by decide +kernel⟩
abbrev sp_qright (c_KeptMembers c_Lot c_Refused tb_free_set_in : Addr) : SpD :=
  sp1 fun a g P => ∃ (p : Addr) (n : Nat) (L : List DV), a = .ref p ∧ g p = some (.lst L) ∧ PotL n L ∧ n ≤ 50000 ∧ TbG (TT tb_free_set_in) g ∧ ∀ (L' : List DV), PotL (n + 200) L' → P (.bl true) (gup g p (.lst L'))

local macro_rules | `(tactic| walk_at "rr33") => `(tactic| (repeat (first | (with_reducible first | refine rd_seq ?_ | refine rd_seqE ?_ | refine rd_next ?_ | refine rd_rtE ?_ | refine rd_nxE ?_ | refine rd_nx ?_ | refine rd_rt ?_ | refine rd_ct ?_ | refine rd_bk ?_ | refine rd_drop ?_ | refine rd_ret ?_ | refine rd_dif ?_ | refine rd_asg ?_ | refine rd_par ?_ | refine rd_for ?_ | refine rd_c ?_ | refine rd_op ?_ | refine rd_un ?_ | refine rd_b ?_ | refine rd_bK ?_ | refine rd_tru ?_ | refine rd_tKb ?_ | refine rd_or ?_ | refine rd_not ?_ | refine rd_andV ?_ | refine rd_tvKb ?_ | refine rd_ifE ?_ | refine rd_nil ?_ | refine rd_cons ?_ | refine rd_tup ?_ | refine rd_lst ?_ | refine rd_cb ?_ | refine rd_call ?_ | refine rd_sp1 ?_ | refine rd_sp2 ?_ | refine rd_sp3 ?_ | refine rd_add ?_ | refine rd_sub ?_ | refine rd_lc ?_ | refine rd_yes ?_ | refine rd_wseq ?_ | refine rd_wsT ?_ | refine rd_wsL ?_ | refine rd_wsS ?_ | refine rd_sl ?_ | refine rd_slT ?_ | refine rd_slL ?_ | refine rd_slS ?_ | refine rd_nopart ?_ | refine rd_part ?_ | refine rd_ptK ?_ | refine rd_rev ?_ | refine rd_ng ?_ | refine rd_rvT ?_ | refine rd_rvL ?_ | refine rd_newF ?_ | refine rd_tupRg ?_ | refine rd_mk ?_ | refine rd_itet ?_ | refine rd_itef ?_ | refine rd_itnt ?_ | refine rd_itnf ?_) | ((with_reducible apply rd_var); (· exact rfl)) | ((with_reducible apply rd_asgK); (· exact rfl)) | ((with_reducible apply rd_parK); (· exact rfl)) | ((with_reducible apply rd_len); (· (first | assumption | exact seqD_ref (by assumption) | exact seqD_up | exact lstD_ref (by assumption) | exact lstD_up | rfl))) | ((with_reducible apply rd_list); (· (first | assumption | exact seqD_ref (by assumption) | exact seqD_up | exact lstD_ref (by assumption) | exact lstD_up | rfl))) | ((with_reducible apply rd_ix); (· (first | assumption | exact seqD_ref (by assumption) | exact seqD_up | exact lstD_ref (by assumption) | exact lstD_up | rfl)); (· (first | exact atI_c0 _ _ | exact atI_c1 _ _ _ | exact atI_c2 _ _ _ _ | assumption | rfl))))))
theorem ok_qright {P : Program} {w : World} {K : Fg} {mg : Str → Option Value} {base : Heap} {t_ALL t_MAX_EXPONENT t_MAX_LETTERS t_MAX_MEMBERS t_MAX_MEMBER_EXPONENT t_MAX_PASSED : Tok} {c_KeptMembers c_Lot c_Refused tb_free_set_in : Addr} {f cc_qright f_is_free_set cc_is_free_set f_qsets f_dimension cc_dimension f_qtold cc_qtold f_qis_free f_qmembers f_qtaken f_qpour f_Lot___init__ : Addr} {fd d_is_free_set d_qsets d_dimension d_qtold d_qis_free d_qmembers d_qtaken d_qpour d_Lot___init__ : FuncData} (D : DfnC K mg "_law_right" s_qright ["_law_jug_here"] f fd cc_qright) (T : Txt P K mg t_ALL t_MAX_EXPONENT t_MAX_LETTERS t_MAX_MEMBERS t_MAX_MEMBER_EXPONENT t_MAX_PASSED c_KeptMembers c_Lot c_Refused tb_free_set_in) (D_is_free_set : DfnC K mg "is_free_set" s_is_free_set ["lot", "value"] f_is_free_set d_is_free_set cc_is_free_set) (G_is_free_set : FnG P w K mg base 6 f_is_free_set d_is_free_set ["lot", "value"] (upSp K (sp_is_free_set c_KeptMembers c_Lot c_Refused tb_free_set_in))) (D_qsets : Dfn K mg "_law_sets" s_qsets ["_law_letters"] f_qsets d_qsets) (G_qsets : FnOk P w K mg base CX0 1 f_qsets d_qsets ["_law_letters"] (upSp K (sp_qsets c_KeptMembers c_Lot c_Refused tb_free_set_in))) (D_dimension : DfnC K mg "dimension" s_dimension ["lot"] f_dimension d_dimension cc_dimension) (G_dimension : FnG P w K mg base 6 f_dimension d_dimension ["lot"] (upSp K (sp_dimension c_KeptMembers c_Lot c_Refused tb_free_set_in))) (D_qtold : DfnC K mg "_law_told" s_qtold ["_law_lot"] f_qtold d_qtold cc_qtold) (G_qtold : FnG P w K mg base 6 f_qtold d_qtold ["_law_lot"] (upSp K (sp_qtold c_KeptMembers c_Lot c_Refused tb_free_set_in))) (D_qis_free : Dfn K mg "_law_is_free" s_qis_free ["_law_members_here", "_law_chosen"] f_qis_free d_qis_free) (G_qis_free : FnOk P w K mg base CX0 1 f_qis_free d_qis_free ["_law_members_here", "_law_chosen"] (upSp K (sp_qis_free c_KeptMembers c_Lot c_Refused tb_free_set_in))) (D_qmembers : Dfn K mg "_law_members" s_qmembers ["_law_jug_here", "_law_letters", "_law_total", "_law_most"] f_qmembers d_qmembers) (G_qmembers : FnOk P w K mg base CX0 3 f_qmembers d_qmembers ["_law_jug_here", "_law_letters", "_law_total", "_law_most"] (upSp K (sp_qmembers c_KeptMembers c_Lot c_Refused tb_free_set_in))) (D_qtaken : Dfn K mg "_law_taken" s_qtaken ["_law_jug_here", "_law_items"] f_qtaken d_qtaken) (G_qtaken : FnOk P w K mg base CX0 2 f_qtaken d_qtaken ["_law_jug_here", "_law_items"] (upSp K (sp_qtaken c_KeptMembers c_Lot c_Refused tb_free_set_in))) (D_qpour : Dfn K mg "_law_pour" s_qpour ["_law_jug_here", "_law_total"] f_qpour d_qpour) (G_qpour : FnOk P w K mg base CX0 1 f_qpour d_qpour ["_law_jug_here", "_law_total"] (upSp K (sp_qpour c_KeptMembers c_Lot c_Refused tb_free_set_in))) (D_Lot___init__ : Mtd K c_Lot "__init__" "Lot.__init__" s_Lot___init__ ["self", "letters", "members"] f_Lot___init__ d_Lot___init__) (G_Lot___init__ : FnOk P w K mg base CX0 5 f_Lot___init__ d_Lot___init__ ["self", "letters", "members"] (upSp K (sp_Lot___init__ c_KeptMembers c_Lot c_Refused tb_free_set_in))) :
    FnG P w K mg base 7 f fd ["_law_jug_here"] (upSp K (sp_qright c_KeptMembers c_Lot c_Refused tb_free_set_in)) := by
  refine fun_okG D.fn sc_qright (fun ds g Q h => len1 h) (fun A outer s H E hr hgd => ⟨_, (pds_cons (pds_set (i := 1) sc_qright.nd (pd_add pd_int (pd_call G_qpour (hr.mono (by decide)) D_qpour.at_ D_qpour.fn.kp D_qpour.bd pass0 (pda_cons (pdv 0) (pda_cons pd_int pda_nil))))) (pds_cons (pds_set (i := 2) sc_qright.nd (pd_call G_qmembers (hr.mono (by decide)) D_qmembers.at_ D_qmembers.fn.kp D_qmembers.bd pass0 (pda_cons (pdv 0) (pda_cons (pdv 1) (pda_cons pd_int (pda_cons (pd_call G_qtaken (hr.mono (by decide)) D_qtaken.at_ D_qtaken.fn.kp D_qtaken.bd pass0 (pda_cons (pdv 0) (pda_cons (pd_lst (pda_cons pd_int (pda_cons pd_int (pda_cons pd_int pda_nil)))) pda_nil))) pda_nil)))))) (pds_cons (pds_par (i := 7) (j := 8) rfl sc_qright.nd (pda_cons (pd_mk (mtd_mk D_Lot___init__ T.F_Lot) (FnOk_r0 G_Lot___init__ D_Lot___init__.bd) (hr.mono (by decide)) T.g_Lot (pda_cons (pdv 1) (pda_cons (pdv 2) pda_nil))) (pda_cons (pd_lc (own := [("_law_chosen", 10)]) (tg := .nm 10) rfl sc_qright.nd (pid_seq (pd_call G_qsets (hr.mono (by decide)) D_qsets.at_ D_qsets.fn.kp D_qsets.bd pass0 (pda_cons (pdv 1) pda_nil))) (blkOk_by (own := [("_law_chosen", 10)]) (N := N_qright) (sc := defScope s_qright) (by decide +kernel)) (fun _ _ _ _ _ => (pgd_nm (i := 10) sc_qright.nd)) (fun _ _ _ _ _ => (ptsd_one (pt_truD (pd_call G_qis_free (hr.mono (by decide)) D_qis_free.at_ D_qis_free.fn.kp D_qis_free.bd pass0 (pda_cons (pdv 2) (pda_cons (pdv 10) pda_nil)))))) (fun _ _ _ _ _ => (pdv 10))) pda_nil))) (pds_cons (pds_set (i := 3) sc_qright.nd (pd_callB (cr_maxS rfl) ref_maxS T.b_max (by decide +kernel) (pda_cons (pd_add (pd_lc (own := [("_law_chosen", 10)]) (tg := .nm 10) rfl sc_qright.nd (pid_seq (pdv 8)) (blkOk_by (own := [("_law_chosen", 10)]) (N := N_qright) (sc := defScope s_qright) (by decide +kernel)) (fun _ _ _ _ _ => (pgd_nm (i := 10) sc_qright.nd)) (fun _ _ _ _ _ => ptsd_nil) (fun _ _ _ _ _ => (pd_callB call_len_seq ref_len T.b_len (by decide +kernel) (pda_cons (pdv 10) pda_nil)))) (pd_lst (pda_cons (pd_neg pd_int) pda_nil))) pda_nil))) (pds_cons (pds_set (i := 4) sc_qright.nd (pd_callG G_qtold (hr.mono (by decide)) hgd D_qtold.at_ D_qtold.fn.kp D_qtold.bd (pda_cons (pdv 7) pda_nil))) (pds_cons (pds_if (pt_cmpD (op_neD hr.units) (RefCmp.op ref_ne) (pd_callG G_dimension (hr.mono (by decide)) hgd D_dimension.at_ D_dimension.fn.kp D_dimension.bd (pda_cons (pdv 7) pda_nil)) (pdv 3) (nomark _)) (pds_one (pds_ret pd_bl)) pds_nil) (pds_cons (pds_if (pt_cmpD (op_eqD hr.units) (RefCmp.op ref_eq) (pdv 3) (pd_neg pd_int) (nomark _)) (pds_one (pds_ret (pd_and (pd_cmp (op_eqD hr.units) (RefCmp.op ref_eq) (pdv 4) (pd_tup (pda_cons pd_str (pda_cons (pd_tup (pda_cons pd_str pda_nil)) pda_nil))) (nomark _)) (pd_and (pd_cmp (op_eqD hr.units) (RefCmp.op ref_eq) (pd_callB call_len_seq ref_len T.b_len (by decide +kernel) (pda_cons (pdv 2) pda_nil)) pd_int (nomark _)) (pd_one (pd_cmp (op_eqD hr.units) (RefCmp.op ref_eq) (pd_callB (cr_sumS rfl) ref_sumS T.b_sum (by decide +kernel) (pda_cons (pd_ix (pdv 2) pd_int) pda_nil)) pd_int (nomark _))))))) pds_nil) (pds_cons (pds_if (pwd_pt (pwd_or (pt_cmpD (op_notInD (units65 hr)) (RefCmp.op ref_notInL) (pdv 4) (pdv 8) (by rfl)) (pwd_or (pt_cmpD (op_neD hr.units) (RefCmp.op ref_ne) (pd_callB call_len_seq ref_len T.b_len (by decide +kernel) (pda_cons (pdv 4) pda_nil)) (pdv 3) (nomark _)) (pwd_or1 (pt_notD (pt_truD (pd_callG G_is_free_set (hr.mono (by decide)) hgd D_is_free_set.at_ D_is_free_set.fn.kp D_is_free_set.bd (pda_cons (pdv 7) (pda_cons (pdv 4) pda_nil))))))))) (pds_one (pds_ret pd_bl)) pds_nil) (pds_cons (pds_set (i := 5) sc_qright.nd (pd_lst (pda_cons pd_non (pda_cons pd_int (pda_cons (pd_callTy call_list_of ref_list T.b_list (by decide +kernel) (pda_cons (pdv 4) pda_nil)) (pda_cons (pd_add (pdv 4) (pd_tup (pda_cons pd_int pda_nil))) (pda_cons (pd_slice (pdv 4) (pod_some pd_int) pod_none) (pda_cons (pd_add (pdv 4) (pd_tup (pda_cons (pdv 1) pda_nil))) (pda_cons (pd_ifExp (pt_cmpD (op_neD hr.units) (RefCmp.op ref_ne) (pdv 4) (pd_tup pda_nil) (nomark _)) (pd_add (pdv 4) (pd_tup (pda_cons (pd_ix (pdv 4) (pd_neg pd_int)) pda_nil))) (pd_tup (pda_cons pd_bl pda_nil))) (pda_cons (pd_tup (pda_cons pd_int (pda_cons pd_int pda_nil))) (pda_cons pd_str (pda_cons pd_newF pda_nil)))))))))))) (pds_cons (pds_set (i := 5) sc_qright.nd (pd_add (pd_add (pdv 5) (pd_slice (pd_call G_qsets (hr.mono (by decide)) D_qsets.at_ D_qsets.fn.kp D_qsets.bd pass0 (pda_cons (pdv 1) pda_nil)) pod_none (pod_some pd_int))) (pd_lst (pda_cons (pd_rev (pdv 4)) (pda_cons (pd_tup (pda_cons (pd_sub pd_int pd_int) pda_nil)) (pda_cons (pd_tupRg T.b_tuple T.b_range (pdv 1)) pda_nil)))))) (pds_cons (pds_for (tg := .nm 6) PassesOwn.never rfl (pid_seq (pdv 5)) (pgd_nm (i := 6) sc_qright.nd) (pds_cons (pds_set (i := 9) sc_qright.nd (pd_and (pd_callB call_isiY ref_isi T.b_isinstance (by decide +kernel) (pda_cons (pdv 6) (pda_cons (pd_ty (n := "tuple") T.b_tuple (by decide +kernel)) pda_nil))) (pd_and (pd_cmp (op_eqD hr.units) (RefCmp.op ref_eq) (pd_callB call_len_seq ref_len T.b_len (by decide +kernel) (pda_cons (pdv 6) pda_nil)) (pdv 3) (nomark _)) (pd_one (pd_cmp (op_inD (units65 hr)) (RefCmp.op ref_inL) (pdv 6) (pdv 8) (by rfl)))))) (pds_one (pds_if (pt_cmpD (op_neD hr.units) (RefCmp.op ref_ne) (pd_callG G_is_free_set (hr.mono (by decide)) hgd D_is_free_set.at_ D_is_free_set.fn.kp D_is_free_set.bd (pda_cons (pdv 7) (pda_cons (pdv 6) pda_nil))) (pdv 9) (nomark _)) (pds_one (pds_ret pd_bl)) pds_nil)))) (pds_one (pds_ret pd_bl))))))))))))), ?_⟩)
  intro ds g Q h
  obtain ⟨a0, rfl, h⟩ := sp1_of h
  rw [show startD N_qright [a0] = [some a0, none, none, none, none, none, none, none, none, none, none] from rfl]
  obtain ⟨p, k0, L, e1, hg, hp, hn, hT0, k⟩ := h
  subst e1
  walk_at "rr33"
  refine ⟨p, 8, k0, L, rfl, rfl, by decide, by decide, hg, hp, by omega, fun r L1 r0 r1 hp1 => ?_⟩
  obtain ⟨n, hd⟩ := Int.eq_ofNat_of_zero_le (a := 1 + r) (by omega)
  have n1 : 1 ≤ n := by omega
  have n8 : n ≤ 8 := by omega
  walk_at "rr33"
  rw [hd]
  refine rd_zK (by show 3 ≤ 16777216; decide) ?_
  walk_at "rr33"
  refine ⟨p, _, _, L1, rfl, rfl, by simp, by show 3 < 100000; decide, gup_same, hp1, by omega, fun x hx L2 hp2 => ?_⟩
  rw [gup_gup]
  obtain ⟨t, e, t1, t4⟩ := pick123 hx
  subst e
  walk_at "rr33"
  refine ⟨p, n, _, 7, t, L2, rfl, rfl, n1, n8, rfl, by decide, rfl, t1, by omega, gup_same, hp2, by omega, fun G L3 hG hGl hp3 => ?_⟩
  rw [gup_gup]
  have hT := hT0.lst hg (es := L3)
  have hG4 : Prods n 4 (leastL G) := (leastL_prods hG).mono (by omega)
  have hGl2 := leastL_le G
  have hMl : (leastL G).length ≤ 24 := by omega
  have hML := least_self (leastL_is G)
  have hfin := k L3 (hp3.more (by omega))
  generalize gup g p (.lst L3) = g1 at hT hfin ⊢
  walk_at "rr33"
  intro p2 hq2
  walk_at "rr33"
  refine ⟨p2, n, leastL (leastL G), rfl, rfl, n1, n8, .inr ⟨leastL G, rfl, hG4.mono (by decide), by omega, rfl⟩, gup_same, mkK_mk (ds := [.int (n : Int), .tup ((leastL (leastL G)).map tI)]) hq2 (by simp) ?_⟩
  rw [leastL_two]
  have hM60 : Prods n 60 (leastL G) := hG4.mono (by decide)
  generalize leastL G = M at hM60 hMl hML ⊢
  clear hG4 hGl2 hGl hG k
  have hsl := setsL_le n8
  walk_at "rr33"
  refine ⟨n, rfl, n8, ?_⟩
  walk_at "rr33"
  refine rd_zK (by rw [List.length_map]; omega) (comp_fil (p := fun d => freeB M (ofT d)) (f := fun d => d) (fun d hd => ?_) ?_)
  · obtain ⟨x, hx, e⟩ := tI_mem hd
    subst e
    refine ⟨_, rfl, fun Q' h' => ?_, fun _ Q2 h2 => ?_⟩
    · walk_at "rr33"
      refine ⟨n, M, x, rfl, rfl, n8, hM60, ?_⟩
      have h' : Q' (freeB M (ofT (tI x))) g1 := h'
      rw [ofT_tI] at h'
      walk_at "rr33"
      exact h'
    · walk_at "rr33"
      exact h2
  rw [List.map_id', fil_tIs (q := freeB M) (fun x => by show freeB M (ofT (tI x)) = _; rw [ofT_tI])]
  have hFl : ((setsL n).filter (freeB M)).length ≤ 256 := Nat.le_trans (List.length_filter_le _ _) hsl
  walk_at "rr33"
  refine rd_zK (by rw [List.length_map]; omega) (comp_map (f := lenD) (fun d hd => ?_) ?_)
  · obtain ⟨x, hx, e⟩ := tI_mem hd
    subst e
    refine ⟨_, rfl, fun Q2 h2 => ?_⟩
    walk_at "rr33"
    exact h2
  walk_at "rr33"
  refine rd_zK (by show 1 ≤ 16777216; decide) ?_
  refine rd_addL (by rw [List.length_map, List.length_map]; show _ + 1 ≤ _; omega) ?_
  rw [lens_tIs]
  walk_at "rr33"
  refine rd_maxS (ns := ((setsL n).filter (freeB M)).map (fun s => (s.length : Int)) ++ [-1]) rfl (by rw [List.length_append]; show 0 < _ + 1; omega) fun z hz hzm => ?_
  have hdue := dim_due hz hzm
  subst hdue
  clear hz hzm
  walk_at "rr33"
  refine ⟨n, M, rfl, n1, n8, hM60, hMl, hT, ?_⟩
  walk_at "rr33"
  refine ⟨n, M, rfl, n8, hM60, hMl, hT, ?_⟩
  walk_at "rr33"
  refine rd_neN rfl ?_
  walk_at "rr33"
  refine rd_eq (okD_int _) (okD_int _) ?_
  rw [eqD_int]
  cases ha : isAllB M with
  | true =>
    rw [decide_eq_true ((dim_neg hM60 hML).mpr ha), if_pos rfl]
    obtain ⟨m, em, hm0⟩ := all_one hM60 ha
    subst em
    walk_at "rr33"
    refine rd_zK (by show 1 ≤ 16777216; decide) ?_
    walk_at "rr33"
    refine rd_zK (by show 2 ≤ 16777216; decide) ?_
    refine rd_eq (by decide +kernel) (by decide +kernel) ?_
    rw [show eqD (DV.tup [.str "refused", .tup [.str "all"]]) (DV.tup [.str "refused", .tup [.str "all"]]) = true by decide +kernel]
    walk_at "rr33"
    refine rd_eq (okD_int _) (okD_int _) ?_
    rw [eqD_int, decide_eq_true (by rfl)]
    walk_at "rr33"
    refine rd_sumS (ns := m) rfl ?_
    walk_at "rr33"
    refine rd_eq (okD_int _) (okD_int _) ?_
    rw [eqD_int, decide_eq_true hm0]
    exact dret hfin
  | false =>
    have hns : ¬ dimI n M = -1 := fun z => by rw [(dim_neg hM60 hML).mp z] at ha; cases ha
    rw [decide_eq_false hns, if_neg Bool.false_ne_true]
    cases hfs : fsI n M with
    | none => exact absurd (by unfold dimI; rw [hfs]; rfl) hns
    | some S =>
    have hS := fsI_some hfs
    have hSn := fs_lt hfs
    have hdi : dimI n M = (S.length : Int) := by unfold dimI; rw [hfs]; rfl
    have hmem : S ∈ (setsL n).filter (freeB M) := List.mem_filter.mpr ⟨hS.1, hS.2.1⟩
    dsimp only [Option.elim]
    walk_at "rr33"
    refine rd_inL (neg := true) (okD_tI _) (okD_lIs' _) ?_
    rw [if_pos rfl, any_tIs, decide_eq_true hmem]
    walk_at "rr33"
    refine rd_neN (by rw [List.length_map, hdi]) ?_
    walk_at "rr33"
    refine ⟨n, M, rfl, n1, n8, hM60, hMl, ha, hT, .inl ⟨S, rfl, by omega, ?_⟩⟩
    rw [isFs_self hfs]
    walk_at "rr33"
    refine rd_zK (by show 1 ≤ 16777216; decide) ?_
    refine rd_addT (by rw [List.length_map]; show _ + 1 ≤ _; omega) ?_
    walk_at "rr33"
    refine rd_zK (by show 1 ≤ 16777216; decide) ?_
    refine rd_addT (by rw [List.length_map]; show _ + 1 ≤ _; omega) ?_
    walk_at "rr33"
    refine rd_zK (by show 0 ≤ 16777216; decide) ?_
    refine rd_ne (okD_tI _) (okD_tI []) ?_
    rw [show (DV.tup []) = tI [] from rfl, eqD_tI]
    have hz0 : S = [] → dimI n M = 0 := fun z => by rw [hdi, z]; rfl
    by_cases hS0 : S = []
    · rw [decide_eq_true hS0]
      have h7 : OkV (dimI n M) (.tup [.bl true]) := .inr (.inl ⟨rfl, hz0 hS0⟩)
      walk_at "rr33"
      refine rd_zK (by show 1 ≤ 16777216; decide) ?_
      walk_at "rr33"
      refine rd_zK (by show 2 ≤ 16777216; decide) ?_
      walk_at "rr33"
      refine rd_zK (by show 10 ≤ 16777216; decide) ?_
      walk_at "rr33"
      refine ⟨n, rfl, n8, ?_⟩
      walk_at "rr33"
      have hcl := cutD_le (ds := (setsL n).map tI) (lo := none) (hi := some 64)
      rw [List.length_map] at hcl
      refine rd_addL (by show 10 + _ ≤ _; omega) ?_
      walk_at "rr33"
      refine rd_zK (by show 1 ≤ 16777216; decide) ?_
      walk_at "rr33"
      refine rd_trK ⟨by omega, by omega⟩ ?_
      walk_at "rr33"
      refine rd_zK (by show 3 ≤ 16777216; decide) ?_
      refine rd_addL (by rw [List.length_append]; show 10 + _ + 3 ≤ _; omega) ?_
      walk_at "rr33"
      refine rd_loopI (I := fun _ δ g' => g1 = g' ∧ ∃ (W v6 v9 v10 : Option DV), δ = [some (.ref p), some (.int (n : Int)), some (.tup (M.map tI)), some (.int (dimI n M)), some (tI S), W, v6, some (lotD c_Lot n M), some (.lst (((setsL n).filter (freeB M)).map tI)), v9, v10]) ⟨rfl, _, _, _, _, rfl⟩ ?_ ?_
      · intro d hd j δ g' f hf hI
        obtain ⟨eg, W, v6, v9, v10, e⟩ := hI
        subst eg e
        refine ⟨_, rfl, ?_⟩
        rcases (okV_list (by omega) n8 h7 d hd).ty (g := g1) with ⟨s, ed, hs⟩ | ⟨ed, hz⟩ | ⟨ty, et, ei⟩
        · subst ed
          have hdu := isFs_due (n := n) (M := M) (s := s)
          walk_at "rr33"
          refine rd_isiT ?_
          walk_at "rr33"
          refine rd_eq (okD_int _) (okD_int _) ?_
          rw [eqD_int, List.length_map]
          by_cases c : (s.length : Int) = dimI n M
          · rw [decide_eq_true c, Bool.true_and] at hdu
            rw [decide_eq_true c]
            walk_at "rr33"
            refine rd_inL (neg := false) (okD_tI _) (okD_lIs' _) ?_
            rw [if_neg Bool.false_ne_true, any_tIs, ← hdu]
            walk_at "rr33"
            refine ⟨n, M, rfl, n1, n8, hM60, hMl, ha, hT, .inl ⟨s, rfl, hs, ?_⟩⟩
            walk_at "rr33"
            refine rd_neB ?_
            walk_at "rr33"
            exact hf _ _ ⟨rfl, _, _, _, _, rfl⟩
          · rw [decide_eq_false c, Bool.false_and] at hdu
            rw [decide_eq_false c]
            walk_at "rr33"
            refine ⟨n, M, rfl, n1, n8, hM60, hMl, ha, hT, .inl ⟨s, rfl, hs, ?_⟩⟩
            rw [hdu]
            walk_at "rr33"
            refine rd_neB ?_
            walk_at "rr33"
            exact hf _ _ ⟨rfl, _, _, _, _, rfl⟩
        · subst ed
          walk_at "rr33"
          refine rd_isiT ?_
          walk_at "rr33"
          refine rd_eq (okD_int _) (okD_int _) ?_
          rw [eqD_int, decide_eq_false (by rw [hz]; decide)]
          walk_at "rr33"
          refine ⟨n, M, rfl, n1, n8, hM60, hMl, ha, hT, .inr (.inl ⟨rfl, ?_⟩)⟩
          walk_at "rr33"
          refine rd_neB ?_
          walk_at "rr33"
          exact hf _ _ ⟨rfl, _, _, _, _, rfl⟩
        · walk_at "rr33"
          refine rd_isi et ei ?_
          walk_at "rr33"
          refine ⟨n, M, rfl, n1, n8, hM60, hMl, ha, hT, .inr (.inr (.inr ⟨⟨_, et, ei⟩, ?_⟩))⟩
          walk_at "rr33"
          refine rd_neB ?_
          walk_at "rr33"
          exact hf _ _ ⟨rfl, _, _, _, _, rfl⟩
      · intro δ g' hI
        obtain ⟨eg, W, v6, v9, v10, e⟩ := hI
        subst eg e
        walk_at "rr33"
        exact dret hfin
    · rw [decide_eq_false hS0]
      have h7 : OkV (dimI n M) (.tup (S.map DV.int ++ [.int (S.getLast hS0)])) := by
        rw [show DV.tup (S.map DV.int ++ [.int (S.getLast hS0)]) = tI (S ++ [S.getLast hS0]) by rw [tI, List.map_append]; rfl]
        exact .tup (by rw [List.length_append]; show _ + 1 ≤ _; omega)
      walk_at "rr33"
      (with_reducible apply rd_ix)
      · rfl
      · exact atI_last S hS0
      walk_at "rr33"
      refine rd_zK (by show 1 ≤ 16777216; decide) ?_
      refine rd_addT (by rw [List.length_map]; show _ + 1 ≤ _; omega) ?_
      walk_at "rr33"
      refine rd_zK (by show 2 ≤ 16777216; decide) ?_
      walk_at "rr33"
      refine rd_zK (by show 10 ≤ 16777216; decide) ?_
      walk_at "rr33"
      refine ⟨n, rfl, n8, ?_⟩
      walk_at "rr33"
      have hcl := cutD_le (ds := (setsL n).map tI) (lo := none) (hi := some 64)
      rw [List.length_map] at hcl
      refine rd_addL (by show 10 + _ ≤ _; omega) ?_
      walk_at "rr33"
      refine rd_zK (by show 1 ≤ 16777216; decide) ?_
      walk_at "rr33"
      refine rd_trK ⟨by omega, by omega⟩ ?_
      walk_at "rr33"
      refine rd_zK (by show 3 ≤ 16777216; decide) ?_
      refine rd_addL (by rw [List.length_append]; show 10 + _ + 3 ≤ _; omega) ?_
      walk_at "rr33"
      refine rd_loopI (I := fun _ δ g' => g1 = g' ∧ ∃ (W v6 v9 v10 : Option DV), δ = [some (.ref p), some (.int (n : Int)), some (.tup (M.map tI)), some (.int (dimI n M)), some (tI S), W, v6, some (lotD c_Lot n M), some (.lst (((setsL n).filter (freeB M)).map tI)), v9, v10]) ⟨rfl, _, _, _, _, rfl⟩ ?_ ?_
      · intro d hd j δ g' f hf hI
        obtain ⟨eg, W, v6, v9, v10, e⟩ := hI
        subst eg e
        refine ⟨_, rfl, ?_⟩
        rcases (okV_list (by omega) n8 h7 d hd).ty (g := g1) with ⟨s, ed, hs⟩ | ⟨ed, hz⟩ | ⟨ty, et, ei⟩
        · subst ed
          have hdu := isFs_due (n := n) (M := M) (s := s)
          walk_at "rr33"
          refine rd_isiT ?_
          walk_at "rr33"
          refine rd_eq (okD_int _) (okD_int _) ?_
          rw [eqD_int, List.length_map]
          by_cases c : (s.length : Int) = dimI n M
          · rw [decide_eq_true c, Bool.true_and] at hdu
            rw [decide_eq_true c]
            walk_at "rr33"
            refine rd_inL (neg := false) (okD_tI _) (okD_lIs' _) ?_
            rw [if_neg Bool.false_ne_true, any_tIs, ← hdu]
            walk_at "rr33"
            refine ⟨n, M, rfl, n1, n8, hM60, hMl, ha, hT, .inl ⟨s, rfl, hs, ?_⟩⟩
            walk_at "rr33"
            refine rd_neB ?_
            walk_at "rr33"
            exact hf _ _ ⟨rfl, _, _, _, _, rfl⟩
          · rw [decide_eq_false c, Bool.false_and] at hdu
            rw [decide_eq_false c]
            walk_at "rr33"
            refine ⟨n, M, rfl, n1, n8, hM60, hMl, ha, hT, .inl ⟨s, rfl, hs, ?_⟩⟩
            rw [hdu]
            walk_at "rr33"
            refine rd_neB ?_
            walk_at "rr33"
            exact hf _ _ ⟨rfl, _, _, _, _, rfl⟩
        · subst ed
          walk_at "rr33"
          refine rd_isiT ?_
          walk_at "rr33"
          refine rd_eq (okD_int _) (okD_int _) ?_
          rw [eqD_int, decide_eq_false (by rw [hz]; decide)]
          walk_at "rr33"
          refine ⟨n, M, rfl, n1, n8, hM60, hMl, ha, hT, .inr (.inl ⟨rfl, ?_⟩)⟩
          walk_at "rr33"
          refine rd_neB ?_
          walk_at "rr33"
          exact hf _ _ ⟨rfl, _, _, _, _, rfl⟩
        · walk_at "rr33"
          refine rd_isi et ei ?_
          walk_at "rr33"
          refine ⟨n, M, rfl, n1, n8, hM60, hMl, ha, hT, .inr (.inr (.inr ⟨⟨_, et, ei⟩, ?_⟩))⟩
          walk_at "rr33"
          refine rd_neB ?_
          walk_at "rr33"
          exact hf _ _ ⟨rfl, _, _, _, _, rfl⟩
      · intro δ g' hI
        obtain ⟨eg, W, v6, v9, v10, e⟩ := hI
        subst eg e
        walk_at "rr33"
        exact dret hfin

abbrev s_law : Stmt := topS 70
abbrev N_law : List Str := ["_law_script", "_law_turn", "_law_edges", "_law_told_here"]
theorem sc_law : FnScope N_law ["_law_script"] (defScope s_law) := ⟨rfl, rfl, rfl, by decide +kernel, rfl, by decide +kernel, by decide +kernel⟩
abbrev sp_law (c_KeptMembers c_Lot c_Refused tb_free_set_in : Addr) : SpD :=
  sp1 fun a g P => ∃ ns : List Int, a = .scr ns ∧ TbG (TT tb_free_set_in) g ∧ P (.bl true) g

local macro_rules | `(tactic| walk_at "rr34") => `(tactic| (repeat (first | (with_reducible first | refine rd_seq ?_ | refine rd_seqE ?_ | refine rd_next ?_ | refine rd_rtE ?_ | refine rd_nxE ?_ | refine rd_nx ?_ | refine rd_rt ?_ | refine rd_ct ?_ | refine rd_bk ?_ | refine rd_drop ?_ | refine rd_ret ?_ | refine rd_dif ?_ | refine rd_asg ?_ | refine rd_for ?_ | refine rd_c ?_ | refine rd_op ?_ | refine rd_b ?_ | refine rd_bK ?_ | refine rd_tru ?_ | refine rd_tKb ?_ | refine rd_not ?_ | refine rd_andV ?_ | refine rd_tvKb ?_ | refine rd_nil ?_ | refine rd_cons ?_ | refine rd_tup ?_ | refine rd_lst ?_ | refine rd_cb ?_ | refine rd_call ?_ | refine rd_sp1 ?_ | refine rd_sp2 ?_ | refine rd_sp3 ?_ | refine rd_ii ?_ | refine rd_rng1 ?_ | refine rd_mk ?_ | refine rd_itet ?_ | refine rd_itef ?_ | refine rd_itnt ?_ | refine rd_itnf ?_) | ((with_reducible apply rd_var); (· exact rfl)) | ((with_reducible apply rd_asgK); (· exact rfl)) | ((with_reducible apply rd_len); (· (first | assumption | exact seqD_ref (by assumption) | exact seqD_up | exact lstD_ref (by assumption) | exact lstD_up | rfl))))))
theorem ok_law {P : Program} {w : World} {K : Fg} {mg : Str → Option Value} {base : Heap} {t_ALL t_MAX_EXPONENT t_MAX_LETTERS t_MAX_MEMBERS t_MAX_MEMBER_EXPONENT t_MAX_PASSED : Tok} {c_KeptMembers c_Lot c_Refused tb_free_set_in : Addr} {f cc_law f_free_set cc_free_set f_is_free_set cc_is_free_set f_qright cc_qright f_qjug f_Lot___init__ : Addr} {fd d_free_set d_is_free_set d_qright d_qjug d_Lot___init__ : FuncData} (D : DfnC K mg "law" s_law ["_law_script"] f fd cc_law) (T : Txt P K mg t_ALL t_MAX_EXPONENT t_MAX_LETTERS t_MAX_MEMBERS t_MAX_MEMBER_EXPONENT t_MAX_PASSED c_KeptMembers c_Lot c_Refused tb_free_set_in) (D_free_set : DfnC K mg "free_set" s_free_set ["lot"] f_free_set d_free_set cc_free_set) (G_free_set : FnG P w K mg base 5 f_free_set d_free_set ["lot"] (upSp K (sp_free_set c_KeptMembers c_Lot c_Refused tb_free_set_in))) (D_is_free_set : DfnC K mg "is_free_set" s_is_free_set ["lot", "value"] f_is_free_set d_is_free_set cc_is_free_set) (G_is_free_set : FnG P w K mg base 6 f_is_free_set d_is_free_set ["lot", "value"] (upSp K (sp_is_free_set c_KeptMembers c_Lot c_Refused tb_free_set_in))) (D_qright : DfnC K mg "_law_right" s_qright ["_law_jug_here"] f_qright d_qright cc_qright) (G_qright : FnG P w K mg base 7 f_qright d_qright ["_law_jug_here"] (upSp K (sp_qright c_KeptMembers c_Lot c_Refused tb_free_set_in))) (D_qjug : Dfn K mg "_law_jug" s_qjug ["_law_script", "_law_turn"] f_qjug d_qjug) (G_qjug : FnOk P w K mg base CX0 1 f_qjug d_qjug ["_law_script", "_law_turn"] (upSp K (sp_qjug c_KeptMembers c_Lot c_Refused tb_free_set_in))) (D_Lot___init__ : Mtd K c_Lot "__init__" "Lot.__init__" s_Lot___init__ ["self", "letters", "members"] f_Lot___init__ d_Lot___init__) (G_Lot___init__ : FnOk P w K mg base CX0 5 f_Lot___init__ d_Lot___init__ ["self", "letters", "members"] (upSp K (sp_Lot___init__ c_KeptMembers c_Lot c_Refused tb_free_set_in))) :
    FnG P w K mg base 8 f fd ["_law_script"] (upSp K (sp_law c_KeptMembers c_Lot c_Refused tb_free_set_in)) := by
  refine fun_okG D.fn sc_law (fun ds g Q h => len1 h) (fun A outer s H E hr hgd => ⟨_, (pds_cons (pds_for (tg := .nm 1) PassesOwn.never rfl (pid_range1 T.b_range (pda_cons (pd_callB (call_max2 rfl) ref_II T.b_max (by decide +kernel) (pda_cons pd_int (pda_cons (pd_callB (call_min2 rfl) ref_II T.b_min (by decide +kernel) (pda_cons pd_int (pda_cons (pd_callB call_len_seq ref_len T.b_len (by decide +kernel) (pda_cons (pdv 0) pda_nil)) pda_nil))) pda_nil))) pda_nil)) (pgd_nm (i := 1) sc_law.nd) (pds_one (pds_if (pt_notD (pt_truD (pd_callG G_qright (hr.mono (by decide)) hgd D_qright.at_ D_qright.fn.kp D_qright.bd (pda_cons (pd_call G_qjug (hr.mono (by decide)) D_qjug.at_ D_qjug.fn.kp D_qjug.bd pass0 (pda_cons (pdv 0) (pda_cons (pdv 1) pda_nil))) pda_nil)))) (pds_one (pds_ret pd_bl)) pds_nil))) (pds_cons (pds_set (i := 2) sc_law.nd (pd_mk (mtd_mk D_Lot___init__ T.F_Lot) (FnOk_r0 G_Lot___init__ D_Lot___init__.bd) (hr.mono (by decide)) T.g_Lot (pda_cons pd_int (pda_cons (pd_tup (pda_cons (pd_tup (pda_cons pd_int (pda_cons pd_int (pda_cons pd_int (pda_cons pd_int pda_nil))))) (pda_cons (pd_tup (pda_cons pd_int (pda_cons pd_int (pda_cons pd_int (pda_cons pd_int pda_nil))))) (pda_cons (pd_tup (pda_cons pd_int (pda_cons pd_int (pda_cons pd_int (pda_cons pd_int pda_nil))))) pda_nil)))) pda_nil)))) (pds_cons (pds_set (i := 3) sc_law.nd (pd_lst (pda_cons (pd_callG G_is_free_set (hr.mono (by decide)) hgd D_is_free_set.at_ D_is_free_set.fn.kp D_is_free_set.bd (pda_cons (pdv 2) (pda_cons (pd_tup (pda_cons pd_int (pda_cons pd_int pda_nil))) pda_nil))) (pda_cons (pd_callG G_is_free_set (hr.mono (by decide)) hgd D_is_free_set.at_ D_is_free_set.fn.kp D_is_free_set.bd (pda_cons (pdv 2) (pda_cons (pd_tup (pda_cons pd_int (pda_cons pd_int pda_nil))) pda_nil))) (pda_cons (pd_callG G_is_free_set (hr.mono (by decide)) hgd D_is_free_set.at_ D_is_free_set.fn.kp D_is_free_set.bd (pda_cons (pdv 2) (pda_cons (pd_tup (pda_cons pd_int (pda_cons pd_bl pda_nil))) pda_nil))) (pda_cons (pd_callG G_is_free_set (hr.mono (by decide)) hgd D_is_free_set.at_ D_is_free_set.fn.kp D_is_free_set.bd (pda_cons (pd_mk (mtd_mk D_Lot___init__ T.F_Lot) (FnOk_r0 G_Lot___init__ D_Lot___init__.bd) (hr.mono (by decide)) T.g_Lot (pda_cons pd_int (pda_cons (pd_tup (pda_cons (pd_tup (pda_cons pd_int (pda_cons pd_int pda_nil))) (pda_cons (pd_tup (pda_cons pd_int (pda_cons pd_int pda_nil))) pda_nil))) pda_nil))) (pda_cons (pd_tup pda_nil) pda_nil))) pda_nil)))))) (pds_one (pds_ret (pd_and (pd_cmp (op_eqD hr.units) (RefCmp.op ref_eq) (pdv 3) (pd_lst (pda_cons pd_bl (pda_cons pd_bl (pda_cons pd_bl (pda_cons pd_bl pda_nil))))) (nomark _)) (pd_one (pd_cmp (op_eqD hr.units) (RefCmp.op ref_eq) (pd_callG G_free_set (hr.mono (by decide)) hgd D_free_set.at_ D_free_set.fn.kp D_free_set.bd (pda_cons (pd_mk (mtd_mk D_Lot___init__ T.F_Lot) (FnOk_r0 G_Lot___init__ D_Lot___init__.bd) (hr.mono (by decide)) T.g_Lot (pda_cons pd_int (pda_cons (pd_tup pda_nil) pda_nil))) pda_nil)) (pd_tup (pda_cons pd_int (pda_cons pd_int (pda_cons pd_int pda_nil)))) (nomark _))))))))), ?_⟩)
  intro ds g Q h
  obtain ⟨a0, rfl, h⟩ := sp1_of h
  rw [show startD N_law [a0] = [some a0, none, none, none] from rfl]
  obtain ⟨ns, e1, hT, k⟩ := h
  subst e1
  walk_at "rr34"
  refine rd_rng1K ⟨by split <;> split <;> omega, by split <;> split <;> omega⟩ ?_
  refine rd_loopI (I := fun _ δ g' => (∀ a, g a ≠ none → g' a = g a) ∧ TbG (TT tb_free_set_in) g' ∧ ∃ v1 v2 v3 : Option DV, δ = [some (.scr ns), v1, v2, v3]) ⟨fun _ _ => rfl, hT, _, _, _, rfl⟩ ?_ ?_
  · intro d hd j δ g' f hf hI
    obtain ⟨hs, hT2, v1, v2, v3, e⟩ := hI
    subst e
    obtain ⟨i, hi, e⟩ := List.mem_map.mp hd
    rw [List.mem_range] at hi
    subst e
    refine ⟨_, rfl, ?_⟩
    walk_at "rr34"
    refine ⟨ns, i, rfl, by rw [Int.zero_add], by revert hi; split <;> split <;> omega, fun p L hp hpot => ?_⟩
    have hTn : ∀ L, TbG (TT tb_free_set_in) (gup g' p (.lst L)) := fun L => hT2.new hp fun q z => by cases z
    walk_at "rr34"
    refine ⟨p, 0, L, rfl, gup_same, hpot, by omega, hTn L, fun L2 hp2 => ?_⟩
    rw [gup_gup]
    walk_at "rr34"
    refine hf _ _ ⟨fun a ha => ?_, hTn L2, _, _, _, rfl⟩
    by_cases hb : a = p
    · subst hb
      rw [hs a ha] at hp
      exact absurd hp ha
    · rw [gup_ne hb]
      exact hs a ha
  · intro δ g' hI
    obtain ⟨hs, hT2, v1, v2, v3, e⟩ := hI
    subst e
    walk_at "rr34"
    refine rd_zK (by show 4 ≤ 16777216; decide) ?_
    walk_at "rr34"
    refine rd_zK (by show 4 ≤ 16777216; decide) ?_
    walk_at "rr34"
    refine rd_zK (by show 4 ≤ 16777216; decide) ?_
    walk_at "rr34"
    refine rd_zK (by show 3 ≤ 16777216; decide) ?_
    walk_at "rr34"
    intro p1 hp1
    walk_at "rr34"
    refine ⟨p1, 4, leastL eF, rfl, rfl, by decide, by decide, .inr ⟨eF, rfl, eF_pr, by decide, rfl⟩, gup_same, mkK_mk (ds := [.int ((4 : Nat) : Int), .tup ((leastL eF).map tI)]) hp1 (by simp) ?_⟩
    rw [eF_is]
    walk_at "rr34"
    refine rd_zK (by show 2 ≤ 16777216; decide) ?_
    walk_at "rr34"
    refine ⟨4, eF', rfl, by decide, by decide, eF60, by decide, by decide, hT2, .inl ⟨[0, 2], rfl, by decide, ?_⟩⟩
    rw [eF_a]
    walk_at "rr34"
    refine rd_zK (by show 2 ≤ 16777216; decide) ?_
    walk_at "rr34"
    refine ⟨4, eF', rfl, by decide, by decide, eF60, by decide, by decide, hT2, .inl ⟨[0, 1], rfl, by decide, ?_⟩⟩
    rw [eF_b]
    walk_at "rr34"
    refine rd_zK (by show 2 ≤ 16777216; decide) ?_
    walk_at "rr34"
    refine ⟨4, eF', rfl, by decide, by decide, eF60, by decide, by decide, hT2, .inr (.inr (.inl ⟨rfl, ?_⟩))⟩
    walk_at "rr34"
    refine rd_zK (by show 2 ≤ 16777216; decide) ?_
    walk_at "rr34"
    refine rd_zK (by show 2 ≤ 16777216; decide) ?_
    walk_at "rr34"
    refine rd_zK (by show 2 ≤ 16777216; decide) ?_
    walk_at "rr34"
    intro p2 hp2
    walk_at "rr34"
    refine ⟨p2, 2, leastL eH, rfl, rfl, by decide, by decide, .inr ⟨eH, rfl, eH_pr, by decide, rfl⟩, gup_same, mkK_mk (ds := [.int ((2 : Nat) : Int), .tup ((leastL eH).map tI)]) hp2 (by simp) ?_⟩
    rw [eH_is]
    walk_at "rr34"
    refine rd_zK (by show 0 ≤ 16777216; decide) ?_
    walk_at "rr34"
    refine ⟨2, eH', rfl, by decide, by decide, eH60, by decide, by decide, hT2, .inl ⟨[], rfl, by decide, ?_⟩⟩
    rw [eH_a]
    walk_at "rr34"
    refine rd_zK (by show 4 ≤ 16777216; decide) ?_
    walk_at "rr34"
    refine rd_zK (by show 4 ≤ 16777216; decide) ?_
    refine rd_eq (by decide +kernel) (by decide +kernel) ?_
    rw [show eqD (DV.lst [.bl true, .bl false, .bl false, .bl true]) (DV.lst [.bl true, .bl false, .bl false, .bl true]) = true by decide +kernel]
    walk_at "rr34"
    refine rd_zK (by show 0 ≤ 16777216; decide) ?_
    walk_at "rr34"
    intro p3 hp3
    walk_at "rr34"
    refine ⟨p3, 3, leastL [], rfl, rfl, by decide, by decide, .inr ⟨[], rfl, nil_pr14 3 8, by decide, rfl⟩, gup_same, mkK_mk (ds := [.int ((3 : Nat) : Int), .tup ((leastL []).map tI)]) hp3 (by simp) ?_⟩
    rw [nil_is14]
    walk_at "rr34"
    refine ⟨3, [], rfl, by decide, by decide, nil_pr14 3 60, by decide, rfl, hT2, ?_⟩
    rw [nil_fs]
    dsimp only [Option.elim]
    walk_at "rr34"
    refine rd_zK (by show 3 ≤ 16777216; decide) ?_
    refine rd_eq (okD_tI _) (okD_tI [0, 1, 2]) ?_
    rw [show (DV.tup [.int 0, .int 1, .int 2]) = tI [0, 1, 2] from rfl, eqD_tI, decide_eq_true rfl]
    refine ⟨g, fun a => ?_, k⟩
    by_cases ha : g a = none
    · exact .inr ha
    · exact .inl (hs a ha).symm

theorem all_mk {l : PySem.W.OpenLaw} {w : World} {K : Fg} {h : Heap} {mg : Str → Option Value} {fa f_is_whole f_is_within f_require_within f_is_product_in f_divides f_require_letters f_least_of f_are_long f_few_least_of f_KeptMembers___init__ f_is_passed_member f_members_told f_Lot___init__ f_is_all_in f_require_lot f_is_free_in f_sets_of f_free_set_in f_dimension_in f_dimension f_require_some_left f_free_set f_is_free_set f_qjug f_qpour f_qtaken f_qdivides f_qleast f_qproduct f_qmembers f_qis_free f_qsets f_qtold f_qright f_law cc_free_set_in cc_dimension_in cc_dimension cc_free_set cc_is_free_set cc_qtold cc_qright cc_law tb_free_set_in xf_Refused xc_Refused xe_Refused c_KeptMembers c_Lot c_Refused p_KeptMembers_own_members p_Lot_own_letters p_Lot_own_members : Addr} {t_ALL t_MAX_EXPONENT t_MAX_LETTERS t_MAX_MEMBERS t_MAX_MEMBER_EXPONENT t_MAX_PASSED : Tok} (X : K.In h) (G : h.Ns mainGlobals mg) (hfa : mg "law" = some (.ref fa))
    {q : Program} (tab : ∀ (y : Str) (c P : Addr), ((PyProof.Rows.recsOf q).find? fun e => e.name == y).isSome = true → PySem.W.tabIn K y = some (c, P) → PySem.W.CodeHd h c P ∧ h.get? P = some { cls := .none, data := .fields #[] })
    {ccl_free_set_in : Value} {cdd_free_set_in : Option Addr} {ccs_free_set_in : Array (Option Value)} {vs_free_set_in : Array Value}
    {xq_Refused xh_Refused : Str} {xu0_Refused xu2_Refused xu3_Refused xu4_Refused xu5_Refused xu6_Refused xu7_Refused : Value} {xo0_Refused xo1_Refused xo2_Refused xo3_Refused : Option Addr} {xs0_Refused xs1_Refused xs2_Refused : Array (Option Value)} {xv_Refused : Array Value} {xw_Refused : Tok}
    {od_is_whole an_is_whole od_is_within an_is_within od_require_within an_require_within od_is_product_in an_is_product_in od_divides an_divides od_require_letters an_require_letters od_least_of an_least_of od_are_long an_are_long od_few_least_of an_few_least_of od_KeptMembers___init__ an_KeptMembers___init__ od_is_passed_member an_is_passed_member od_members_told an_members_told od_Lot___init__ an_Lot___init__ od_is_all_in an_is_all_in od_require_lot an_require_lot od_is_free_in an_is_free_in od_sets_of an_sets_of od_free_set_in an_free_set_in od_dimension_in an_dimension_in od_dimension an_dimension od_require_some_left an_require_some_left od_free_set an_free_set od_is_free_set an_is_free_set od_qjug an_qjug od_qpour an_qpour od_qtaken an_qtaken od_qdivides an_qdivides od_qleast an_qleast od_qproduct an_qproduct od_qmembers an_qmembers od_qis_free an_qis_free od_qsets an_qsets od_qtold an_qtold od_qright an_qright od_law an_law : Option Addr} {sl_is_whole sl_is_within sl_require_within sl_is_product_in sl_divides sl_require_letters sl_least_of sl_are_long sl_few_least_of sl_KeptMembers___init__ sl_is_passed_member sl_members_told sl_Lot___init__ sl_is_all_in sl_require_lot sl_is_free_in sl_sets_of sl_free_set_in sl_dimension_in sl_dimension sl_require_some_left sl_free_set sl_is_free_set sl_qjug sl_qpour sl_qtaken sl_qdivides sl_qleast sl_qproduct sl_qmembers sl_qis_free sl_qsets sl_qtold sl_qright sl_law : Array (Option Value)} {oc_is_whole kV_is_whole dc_is_whole pm_is_whole cd_is_whole ct_is_whole oc_is_within kV_is_within dc_is_within pm_is_within cd_is_within ct_is_within oc_require_within kV_require_within dc_require_within pm_require_within cd_require_within ct_require_within oc_is_product_in kV_is_product_in dc_is_product_in pm_is_product_in cd_is_product_in ct_is_product_in oc_divides kV_divides dc_divides pm_divides cd_divides ct_divides oc_require_letters kV_require_letters dc_require_letters pm_require_letters cd_require_letters ct_require_letters oc_least_of kV_least_of dc_least_of pm_least_of cd_least_of ct_least_of oc_are_long kV_are_long dc_are_long pm_are_long cd_are_long ct_are_long oc_few_least_of kV_few_least_of dc_few_least_of pm_few_least_of cd_few_least_of ct_few_least_of oc_KeptMembers___init__ kV_KeptMembers___init__ dc_KeptMembers___init__ pm_KeptMembers___init__ cd_KeptMembers___init__ ct_KeptMembers___init__ oc_is_passed_member kV_is_passed_member dc_is_passed_member pm_is_passed_member cd_is_passed_member ct_is_passed_member oc_members_told kV_members_told dc_members_told pm_members_told cd_members_told ct_members_told oc_Lot___init__ kV_Lot___init__ dc_Lot___init__ pm_Lot___init__ cd_Lot___init__ ct_Lot___init__ oc_is_all_in kV_is_all_in dc_is_all_in pm_is_all_in cd_is_all_in ct_is_all_in oc_require_lot kV_require_lot dc_require_lot pm_require_lot cd_require_lot ct_require_lot oc_is_free_in kV_is_free_in dc_is_free_in pm_is_free_in cd_is_free_in ct_is_free_in oc_sets_of kV_sets_of dc_sets_of pm_sets_of cd_sets_of ct_sets_of oc_free_set_in kV_free_set_in dc_free_set_in pm_free_set_in ct_free_set_in oc_dimension_in kV_dimension_in dc_dimension_in pm_dimension_in ct_dimension_in oc_dimension kV_dimension dc_dimension pm_dimension ct_dimension oc_require_some_left kV_require_some_left dc_require_some_left pm_require_some_left cd_require_some_left ct_require_some_left oc_free_set kV_free_set dc_free_set pm_free_set ct_free_set oc_is_free_set kV_is_free_set dc_is_free_set pm_is_free_set ct_is_free_set oc_qjug kV_qjug dc_qjug pm_qjug cd_qjug ct_qjug oc_qpour kV_qpour dc_qpour pm_qpour cd_qpour ct_qpour oc_qtaken kV_qtaken dc_qtaken pm_qtaken cd_qtaken ct_qtaken oc_qdivides kV_qdivides dc_qdivides pm_qdivides cd_qdivides ct_qdivides oc_qleast kV_qleast dc_qleast pm_qleast cd_qleast ct_qleast oc_qproduct kV_qproduct dc_qproduct pm_qproduct cd_qproduct ct_qproduct oc_qmembers kV_qmembers dc_qmembers pm_qmembers cd_qmembers ct_qmembers oc_qis_free kV_qis_free dc_qis_free pm_qis_free cd_qis_free ct_qis_free oc_qsets kV_qsets dc_qsets pm_qsets cd_qsets ct_qsets oc_qtold kV_qtold dc_qtold pm_qtold ct_qtold oc_qright kV_qright dc_qright pm_qright ct_qright oc_law kV_law dc_law pm_law ct_law : Value}
    (cl_KeptMembers : PySem.W.nsIn K mainGlobals "KeptMembers" = some (some (.ref c_KeptMembers)))
    (pg_KeptMembers : PySem.W.plainGet K c_KeptMembers Str.empty = true)
    (ic_KeptMembers : PySem.W.isClsIn K c_KeptMembers = true)
    (po_KeptMembers : PySem.W.plainOver K c_KeptMembers = true)
    (sa_KeptMembers : PySem.W.findIn K (.ref c_KeptMembers) "__setattr__" = some (some (.builtin "object.__setattr__")))
    (ca_KeptMembers : PySem.W.findIn K (.ref c_KeptMembers) "__class__" = some (some (.builtin "object.__class__")))
    (cn_KeptMembers : PySem.W.specialIn K (.builtin "object.__class__") "__get__" = some (some (.builtin "getset_descriptor.__get__")))
    (ct_KeptMembers : PySem.W.takesIn K (.builtin "object.__class__") = some true)
    (cm_KeptMembers : PySem.W.mroIn K c_KeptMembers (.type "object") = some true)
    (ty_KeptMembers : PySem.W.typeIn K (.ref c_KeptMembers) = some (.type "type"))
    (ms_KeptMembers : PySem.W.makesIn K c_KeptMembers = true)
    (kp_KeptMembers : PySem.W.keepIn K (.ref c_KeptMembers) = true)
    (cl_Lot : PySem.W.nsIn K mainGlobals "Lot" = some (some (.ref c_Lot)))
    (pg_Lot : PySem.W.plainGet K c_Lot Str.empty = true)
    (ic_Lot : PySem.W.isClsIn K c_Lot = true)
    (po_Lot : PySem.W.plainOver K c_Lot = true)
    (sa_Lot : PySem.W.findIn K (.ref c_Lot) "__setattr__" = some (some (.builtin "object.__setattr__")))
    (ca_Lot : PySem.W.findIn K (.ref c_Lot) "__class__" = some (some (.builtin "object.__class__")))
    (cn_Lot : PySem.W.specialIn K (.builtin "object.__class__") "__get__" = some (some (.builtin "getset_descriptor.__get__")))
    (ct_Lot : PySem.W.takesIn K (.builtin "object.__class__") = some true)
    (cm_Lot : PySem.W.mroIn K c_Lot (.type "object") = some true)
    (ty_Lot : PySem.W.typeIn K (.ref c_Lot) = some (.type "type"))
    (ms_Lot : PySem.W.makesIn K c_Lot = true)
    (kp_Lot : PySem.W.keepIn K (.ref c_Lot) = true)
    (xl_Refused : PySem.W.nsIn K mainGlobals "Refused" = some (some (.ref c_Refused)))
    (xi_Refused : PySem.W.isClsIn K c_Refused = true)
    (xa0_Refused : PySem.W.findIn K (.ref c_Refused) "__init__" = some (some (.ref xf_Refused)))
    (xa1_Refused : PySem.W.excInitIn K c_Refused [.type "ArithmeticError", .type "Exception", .type "BaseException", .type "object"] "ArithmeticError.__new__" = true)
    (xa2_Refused : PySem.W.excOver K c_Refused [.type "ArithmeticError", .type "Exception", .type "BaseException", .type "object"] = true)
    (xa3_Refused : PySem.W.findIn K (.ref c_Refused) "__setattr__" = some (some (.builtin "object.__setattr__")))
    (xa4_Refused : PySem.W.takerIn K c_Refused "reason" = some none)
    (xa5_Refused : PySem.W.hasDictIn K c_Refused = true)
    (xa6_Refused : PySem.W.ks_superIn K c_Refused c_Refused "__init__" = some (some (.builtin "ArithmeticError.__init__")))
    (xa7_Refused : PySem.W.subIn K (.ref c_Refused) (.type "ArithmeticError") = some true)
    (xa8_Refused : PySem.W.nsIn K cStatics "thirdparty.any" = some none)
    (xa9_Refused : PySem.W.mroIn K c_Refused (.ref c_Refused) = some true)
    (xk_Refused : PySem.W.keepIn K (.ref c_Refused) = true)
    (xb_Refused : PySem.W.subIn K (.ref c_Refused) (.type "BaseException") = some true)
    (xt_Refused : PySem.W.typeIn K (.ref c_Refused) = some (.type "type"))
    (xa10_Refused : PySem.W.typeIn K (.ref xf_Refused) = some (.type "function"))
    (xa11_Refused : PySem.W.nsIn K mainGlobals "super" = some none)
    (xa12_Refused : (l.prog.main.scope.names.lookup ("super" : Str)).isSome = false)
    (xa13_Refused : K.lookup xf_Refused = some ⟨xu0_Refused, xo0_Refused, .func (PySem.W.ksFn "__init__" xq_Refused (defArgs s_xRefused) (defBody s_xRefused) (defScope s_xRefused) .none xu2_Refused xu3_Refused xu4_Refused xo1_Refused (.ref xc_Refused) xu5_Refused xe_Refused), xs0_Refused⟩)
    (xa14_Refused : PySem.W.codeIn K (.ref xc_Refused) xq_Refused = true)
    (xa15_Refused : K.lookup xc_Refused = some ⟨xu6_Refused, xo2_Refused, .fields xv_Refused, xs1_Refused⟩)
    (xa16_Refused : xv_Refused[2]? = some (.str xh_Refused xw_Refused))
    (xa17_Refused : ((l.prog.main.file : Str) == xh_Refused) = true)
    (xa18_Refused : K.lookup xe_Refused = some ⟨xu7_Refused, xo3_Refused, .cell (some (.ref c_Refused)), xs2_Refused⟩)
    (xs_Refused_Refused : PySem.W.subIn K (.ref c_Refused) (.ref c_Refused) = some true)
    (xg1_Refused : PySem.W.findIn K (.ref c_Refused) "__getattribute__" = some (some (.builtin "BaseException.__getattribute__")))
    (xg2_Refused : PySem.W.findIn K (.ref c_Refused) "__getattr__" = some none)
    (xg3_Refused : PySem.W.subIn K (.ref c_Refused) (.type "BaseException") = some true)
    (xg4_Refused : PySem.W.hasDictIn K c_Refused = true)
    (xn_Refused_reason : PySem.W.findIn K (.ref c_Refused) "reason" = some none)
    (s1_KeptMembers_own_members : PySem.W.findIn K (.ref c_KeptMembers) "own_members" = some (some (.ref p_KeptMembers_own_members)))
    (s2_KeptMembers_own_members : PySem.W.specialIn K (.ref p_KeptMembers_own_members) "__get__" = some (some (.builtin "member_descriptor.__get__")))
    (s3_KeptMembers_own_members : PySem.W.takesIn K (.ref p_KeptMembers_own_members) = some true)
    (s4_KeptMembers_own_members : PySem.W.typeIn K (.ref p_KeptMembers_own_members) = some (.type "member_descriptor"))
    (s5_KeptMembers_own_members : PySem.W.slotIn K p_KeptMembers_own_members c_KeptMembers = some 0)
    (s1_Lot_own_letters : PySem.W.findIn K (.ref c_Lot) "own_letters" = some (some (.ref p_Lot_own_letters)))
    (s2_Lot_own_letters : PySem.W.specialIn K (.ref p_Lot_own_letters) "__get__" = some (some (.builtin "member_descriptor.__get__")))
    (s3_Lot_own_letters : PySem.W.takesIn K (.ref p_Lot_own_letters) = some true)
    (s4_Lot_own_letters : PySem.W.typeIn K (.ref p_Lot_own_letters) = some (.type "member_descriptor"))
    (s5_Lot_own_letters : PySem.W.slotIn K p_Lot_own_letters c_Lot = some 0)
    (s1_Lot_own_members : PySem.W.findIn K (.ref c_Lot) "own_members" = some (some (.ref p_Lot_own_members)))
    (s2_Lot_own_members : PySem.W.specialIn K (.ref p_Lot_own_members) "__get__" = some (some (.builtin "member_descriptor.__get__")))
    (s3_Lot_own_members : PySem.W.takesIn K (.ref p_Lot_own_members) = some true)
    (s4_Lot_own_members : PySem.W.typeIn K (.ref p_Lot_own_members) = some (.type "member_descriptor"))
    (s5_Lot_own_members : PySem.W.slotIn K p_Lot_own_members c_Lot = some 1)
    (a_is_whole : PySem.W.nsIn K mainGlobals "is_whole" = some (some (.ref f_is_whole)))
    (l_is_whole : K.lookup f_is_whole = some ⟨oc_is_whole, od_is_whole, .func (PySem.W.fnOf "is_whole" "is_whole" (defArgs s_is_whole) (defBody s_is_whole) (defScope s_is_whole) .none kV_is_whole dc_is_whole pm_is_whole an_is_whole cd_is_whole ct_is_whole), sl_is_whole⟩)
    (c_is_whole : PySem.W.codeIn K cd_is_whole "is_whole" = true)
    (k_is_whole : PySem.W.keepIn K (.ref f_is_whole) = true)
    (a_is_within : PySem.W.nsIn K mainGlobals "is_within" = some (some (.ref f_is_within)))
    (l_is_within : K.lookup f_is_within = some ⟨oc_is_within, od_is_within, .func (PySem.W.fnOf "is_within" "is_within" (defArgs s_is_within) (defBody s_is_within) (defScope s_is_within) .none kV_is_within dc_is_within pm_is_within an_is_within cd_is_within ct_is_within), sl_is_within⟩)
    (c_is_within : PySem.W.codeIn K cd_is_within "is_within" = true)
    (k_is_within : PySem.W.keepIn K (.ref f_is_within) = true)
    (a_require_within : PySem.W.nsIn K mainGlobals "require_within" = some (some (.ref f_require_within)))
    (l_require_within : K.lookup f_require_within = some ⟨oc_require_within, od_require_within, .func (PySem.W.fnOf "require_within" "require_within" (defArgs s_require_within) (defBody s_require_within) (defScope s_require_within) .none kV_require_within dc_require_within pm_require_within an_require_within cd_require_within ct_require_within), sl_require_within⟩)
    (c_require_within : PySem.W.codeIn K cd_require_within "require_within" = true)
    (k_require_within : PySem.W.keepIn K (.ref f_require_within) = true)
    (a_is_product_in : PySem.W.nsIn K mainGlobals "is_product_in" = some (some (.ref f_is_product_in)))
    (l_is_product_in : K.lookup f_is_product_in = some ⟨oc_is_product_in, od_is_product_in, .func (PySem.W.fnOf "is_product_in" "is_product_in" (defArgs s_is_product_in) (defBody s_is_product_in) (defScope s_is_product_in) .none kV_is_product_in dc_is_product_in pm_is_product_in an_is_product_in cd_is_product_in ct_is_product_in), sl_is_product_in⟩)
    (c_is_product_in : PySem.W.codeIn K cd_is_product_in "is_product_in" = true)
    (k_is_product_in : PySem.W.keepIn K (.ref f_is_product_in) = true)
    (a_divides : PySem.W.nsIn K mainGlobals "divides" = some (some (.ref f_divides)))
    (l_divides : K.lookup f_divides = some ⟨oc_divides, od_divides, .func (PySem.W.fnOf "divides" "divides" (defArgs s_divides) (defBody s_divides) (defScope s_divides) .none kV_divides dc_divides pm_divides an_divides cd_divides ct_divides), sl_divides⟩)
    (c_divides : PySem.W.codeIn K cd_divides "divides" = true)
    (k_divides : PySem.W.keepIn K (.ref f_divides) = true)
    (a_require_letters : PySem.W.nsIn K mainGlobals "require_letters" = some (some (.ref f_require_letters)))
    (l_require_letters : K.lookup f_require_letters = some ⟨oc_require_letters, od_require_letters, .func (PySem.W.fnOf "require_letters" "require_letters" (defArgs s_require_letters) (defBody s_require_letters) (defScope s_require_letters) .none kV_require_letters dc_require_letters pm_require_letters an_require_letters cd_require_letters ct_require_letters), sl_require_letters⟩)
    (c_require_letters : PySem.W.codeIn K cd_require_letters "require_letters" = true)
    (k_require_letters : PySem.W.keepIn K (.ref f_require_letters) = true)
    (a_least_of : PySem.W.nsIn K mainGlobals "least_of" = some (some (.ref f_least_of)))
    (l_least_of : K.lookup f_least_of = some ⟨oc_least_of, od_least_of, .func (PySem.W.fnOf "least_of" "least_of" (defArgs s_least_of) (defBody s_least_of) (defScope s_least_of) .none kV_least_of dc_least_of pm_least_of an_least_of cd_least_of ct_least_of), sl_least_of⟩)
    (c_least_of : PySem.W.codeIn K cd_least_of "least_of" = true)
    (k_least_of : PySem.W.keepIn K (.ref f_least_of) = true)
    (a_are_long : PySem.W.nsIn K mainGlobals "are_long" = some (some (.ref f_are_long)))
    (l_are_long : K.lookup f_are_long = some ⟨oc_are_long, od_are_long, .func (PySem.W.fnOf "are_long" "are_long" (defArgs s_are_long) (defBody s_are_long) (defScope s_are_long) .none kV_are_long dc_are_long pm_are_long an_are_long cd_are_long ct_are_long), sl_are_long⟩)
    (c_are_long : PySem.W.codeIn K cd_are_long "are_long" = true)
    (k_are_long : PySem.W.keepIn K (.ref f_are_long) = true)
    (a_few_least_of : PySem.W.nsIn K mainGlobals "few_least_of" = some (some (.ref f_few_least_of)))
    (l_few_least_of : K.lookup f_few_least_of = some ⟨oc_few_least_of, od_few_least_of, .func (PySem.W.fnOf "few_least_of" "few_least_of" (defArgs s_few_least_of) (defBody s_few_least_of) (defScope s_few_least_of) .none kV_few_least_of dc_few_least_of pm_few_least_of an_few_least_of cd_few_least_of ct_few_least_of), sl_few_least_of⟩)
    (c_few_least_of : PySem.W.codeIn K cd_few_least_of "few_least_of" = true)
    (k_few_least_of : PySem.W.keepIn K (.ref f_few_least_of) = true)
    (a_KeptMembers___init__ : PySem.W.findIn K (.ref c_KeptMembers) "__init__" = some (some (.ref f_KeptMembers___init__)))
    (i_KeptMembers___init__ : PySem.W.isFn K (.ref f_KeptMembers___init__) = true)
    (l_KeptMembers___init__ : K.lookup f_KeptMembers___init__ = some ⟨oc_KeptMembers___init__, od_KeptMembers___init__, .func (PySem.W.fnOf "__init__" "KeptMembers.__init__" (defArgs s_KeptMembers___init__) (defBody s_KeptMembers___init__) (defScope s_KeptMembers___init__) .none kV_KeptMembers___init__ dc_KeptMembers___init__ pm_KeptMembers___init__ an_KeptMembers___init__ cd_KeptMembers___init__ ct_KeptMembers___init__), sl_KeptMembers___init__⟩)
    (c_KeptMembers___init__ : PySem.W.codeIn K cd_KeptMembers___init__ "KeptMembers.__init__" = true)
    (k_KeptMembers___init__ : PySem.W.keepIn K (.ref f_KeptMembers___init__) = true)
    (a_is_passed_member : PySem.W.nsIn K mainGlobals "is_passed_member" = some (some (.ref f_is_passed_member)))
    (l_is_passed_member : K.lookup f_is_passed_member = some ⟨oc_is_passed_member, od_is_passed_member, .func (PySem.W.fnOf "is_passed_member" "is_passed_member" (defArgs s_is_passed_member) (defBody s_is_passed_member) (defScope s_is_passed_member) .none kV_is_passed_member dc_is_passed_member pm_is_passed_member an_is_passed_member cd_is_passed_member ct_is_passed_member), sl_is_passed_member⟩)
    (c_is_passed_member : PySem.W.codeIn K cd_is_passed_member "is_passed_member" = true)
    (k_is_passed_member : PySem.W.keepIn K (.ref f_is_passed_member) = true)
    (a_members_told : PySem.W.nsIn K mainGlobals "members_told" = some (some (.ref f_members_told)))
    (l_members_told : K.lookup f_members_told = some ⟨oc_members_told, od_members_told, .func (PySem.W.fnOf "members_told" "members_told" (defArgs s_members_told) (defBody s_members_told) (defScope s_members_told) .none kV_members_told dc_members_told pm_members_told an_members_told cd_members_told ct_members_told), sl_members_told⟩)
    (c_members_told : PySem.W.codeIn K cd_members_told "members_told" = true)
    (k_members_told : PySem.W.keepIn K (.ref f_members_told) = true)
    (a_Lot___init__ : PySem.W.findIn K (.ref c_Lot) "__init__" = some (some (.ref f_Lot___init__)))
    (i_Lot___init__ : PySem.W.isFn K (.ref f_Lot___init__) = true)
    (l_Lot___init__ : K.lookup f_Lot___init__ = some ⟨oc_Lot___init__, od_Lot___init__, .func (PySem.W.fnOf "__init__" "Lot.__init__" (defArgs s_Lot___init__) (defBody s_Lot___init__) (defScope s_Lot___init__) .none kV_Lot___init__ dc_Lot___init__ pm_Lot___init__ an_Lot___init__ cd_Lot___init__ ct_Lot___init__), sl_Lot___init__⟩)
    (c_Lot___init__ : PySem.W.codeIn K cd_Lot___init__ "Lot.__init__" = true)
    (k_Lot___init__ : PySem.W.keepIn K (.ref f_Lot___init__) = true)
    (a_is_all_in : PySem.W.nsIn K mainGlobals "is_all_in" = some (some (.ref f_is_all_in)))
    (l_is_all_in : K.lookup f_is_all_in = some ⟨oc_is_all_in, od_is_all_in, .func (PySem.W.fnOf "is_all_in" "is_all_in" (defArgs s_is_all_in) (defBody s_is_all_in) (defScope s_is_all_in) .none kV_is_all_in dc_is_all_in pm_is_all_in an_is_all_in cd_is_all_in ct_is_all_in), sl_is_all_in⟩)
    (c_is_all_in : PySem.W.codeIn K cd_is_all_in "is_all_in" = true)
    (k_is_all_in : PySem.W.keepIn K (.ref f_is_all_in) = true)
    (a_require_lot : PySem.W.nsIn K mainGlobals "require_lot" = some (some (.ref f_require_lot)))
    (l_require_lot : K.lookup f_require_lot = some ⟨oc_require_lot, od_require_lot, .func (PySem.W.fnOf "require_lot" "require_lot" (defArgs s_require_lot) (defBody s_require_lot) (defScope s_require_lot) .none kV_require_lot dc_require_lot pm_require_lot an_require_lot cd_require_lot ct_require_lot), sl_require_lot⟩)
    (c_require_lot : PySem.W.codeIn K cd_require_lot "require_lot" = true)
    (k_require_lot : PySem.W.keepIn K (.ref f_require_lot) = true)
    (a_is_free_in : PySem.W.nsIn K mainGlobals "is_free_in" = some (some (.ref f_is_free_in)))
    (l_is_free_in : K.lookup f_is_free_in = some ⟨oc_is_free_in, od_is_free_in, .func (PySem.W.fnOf "is_free_in" "is_free_in" (defArgs s_is_free_in) (defBody s_is_free_in) (defScope s_is_free_in) .none kV_is_free_in dc_is_free_in pm_is_free_in an_is_free_in cd_is_free_in ct_is_free_in), sl_is_free_in⟩)
    (c_is_free_in : PySem.W.codeIn K cd_is_free_in "is_free_in" = true)
    (k_is_free_in : PySem.W.keepIn K (.ref f_is_free_in) = true)
    (a_sets_of : PySem.W.nsIn K mainGlobals "sets_of" = some (some (.ref f_sets_of)))
    (l_sets_of : K.lookup f_sets_of = some ⟨oc_sets_of, od_sets_of, .func (PySem.W.fnOf "sets_of" "sets_of" (defArgs s_sets_of) (defBody s_sets_of) (defScope s_sets_of) .none kV_sets_of dc_sets_of pm_sets_of an_sets_of cd_sets_of ct_sets_of), sl_sets_of⟩)
    (c_sets_of : PySem.W.codeIn K cd_sets_of "sets_of" = true)
    (k_sets_of : PySem.W.keepIn K (.ref f_sets_of) = true)
    (a_free_set_in : PySem.W.nsIn K mainGlobals "free_set_in" = some (some (.ref f_free_set_in)))
    (l_free_set_in : K.lookup f_free_set_in = some ⟨oc_free_set_in, od_free_set_in, .func (PySem.W.fnOf "free_set_in" "free_set_in" (defArgs s_free_set_in) (defBody s_free_set_in) (defScope s_free_set_in) .none kV_free_set_in dc_free_set_in pm_free_set_in an_free_set_in (.ref cc_free_set_in) ct_free_set_in), sl_free_set_in⟩)
    (c_free_set_in : PySem.W.codeIn K (.ref cc_free_set_in) "free_set_in" = true)
    (k_free_set_in : PySem.W.keepIn K (.ref f_free_set_in) = true)
    (a_dimension_in : PySem.W.nsIn K mainGlobals "dimension_in" = some (some (.ref f_dimension_in)))
    (l_dimension_in : K.lookup f_dimension_in = some ⟨oc_dimension_in, od_dimension_in, .func (PySem.W.fnOf "dimension_in" "dimension_in" (defArgs s_dimension_in) (defBody s_dimension_in) (defScope s_dimension_in) .none kV_dimension_in dc_dimension_in pm_dimension_in an_dimension_in (.ref cc_dimension_in) ct_dimension_in), sl_dimension_in⟩)
    (c_dimension_in : PySem.W.codeIn K (.ref cc_dimension_in) "dimension_in" = true)
    (k_dimension_in : PySem.W.keepIn K (.ref f_dimension_in) = true)
    (a_dimension : PySem.W.nsIn K mainGlobals "dimension" = some (some (.ref f_dimension)))
    (l_dimension : K.lookup f_dimension = some ⟨oc_dimension, od_dimension, .func (PySem.W.fnOf "dimension" "dimension" (defArgs s_dimension) (defBody s_dimension) (defScope s_dimension) .none kV_dimension dc_dimension pm_dimension an_dimension (.ref cc_dimension) ct_dimension), sl_dimension⟩)
    (c_dimension : PySem.W.codeIn K (.ref cc_dimension) "dimension" = true)
    (k_dimension : PySem.W.keepIn K (.ref f_dimension) = true)
    (a_require_some_left : PySem.W.nsIn K mainGlobals "require_some_left" = some (some (.ref f_require_some_left)))
    (l_require_some_left : K.lookup f_require_some_left = some ⟨oc_require_some_left, od_require_some_left, .func (PySem.W.fnOf "require_some_left" "require_some_left" (defArgs s_require_some_left) (defBody s_require_some_left) (defScope s_require_some_left) .none kV_require_some_left dc_require_some_left pm_require_some_left an_require_some_left cd_require_some_left ct_require_some_left), sl_require_some_left⟩)
    (c_require_some_left : PySem.W.codeIn K cd_require_some_left "require_some_left" = true)
    (k_require_some_left : PySem.W.keepIn K (.ref f_require_some_left) = true)
    (a_free_set : PySem.W.nsIn K mainGlobals "free_set" = some (some (.ref f_free_set)))
    (l_free_set : K.lookup f_free_set = some ⟨oc_free_set, od_free_set, .func (PySem.W.fnOf "free_set" "free_set" (defArgs s_free_set) (defBody s_free_set) (defScope s_free_set) .none kV_free_set dc_free_set pm_free_set an_free_set (.ref cc_free_set) ct_free_set), sl_free_set⟩)
    (c_free_set : PySem.W.codeIn K (.ref cc_free_set) "free_set" = true)
    (k_free_set : PySem.W.keepIn K (.ref f_free_set) = true)
    (a_is_free_set : PySem.W.nsIn K mainGlobals "is_free_set" = some (some (.ref f_is_free_set)))
    (l_is_free_set : K.lookup f_is_free_set = some ⟨oc_is_free_set, od_is_free_set, .func (PySem.W.fnOf "is_free_set" "is_free_set" (defArgs s_is_free_set) (defBody s_is_free_set) (defScope s_is_free_set) .none kV_is_free_set dc_is_free_set pm_is_free_set an_is_free_set (.ref cc_is_free_set) ct_is_free_set), sl_is_free_set⟩)
    (c_is_free_set : PySem.W.codeIn K (.ref cc_is_free_set) "is_free_set" = true)
    (k_is_free_set : PySem.W.keepIn K (.ref f_is_free_set) = true)
    (a_qjug : PySem.W.nsIn K mainGlobals "_law_jug" = some (some (.ref f_qjug)))
    (l_qjug : K.lookup f_qjug = some ⟨oc_qjug, od_qjug, .func (PySem.W.fnOf "_law_jug" "_law_jug" (defArgs s_qjug) (defBody s_qjug) (defScope s_qjug) .none kV_qjug dc_qjug pm_qjug an_qjug cd_qjug ct_qjug), sl_qjug⟩)
    (c_qjug : PySem.W.codeIn K cd_qjug "_law_jug" = true)
    (k_qjug : PySem.W.keepIn K (.ref f_qjug) = true)
    (a_qpour : PySem.W.nsIn K mainGlobals "_law_pour" = some (some (.ref f_qpour)))
    (l_qpour : K.lookup f_qpour = some ⟨oc_qpour, od_qpour, .func (PySem.W.fnOf "_law_pour" "_law_pour" (defArgs s_qpour) (defBody s_qpour) (defScope s_qpour) .none kV_qpour dc_qpour pm_qpour an_qpour cd_qpour ct_qpour), sl_qpour⟩)
    (c_qpour : PySem.W.codeIn K cd_qpour "_law_pour" = true)
    (k_qpour : PySem.W.keepIn K (.ref f_qpour) = true)
    (a_qtaken : PySem.W.nsIn K mainGlobals "_law_taken" = some (some (.ref f_qtaken)))
    (l_qtaken : K.lookup f_qtaken = some ⟨oc_qtaken, od_qtaken, .func (PySem.W.fnOf "_law_taken" "_law_taken" (defArgs s_qtaken) (defBody s_qtaken) (defScope s_qtaken) .none kV_qtaken dc_qtaken pm_qtaken an_qtaken cd_qtaken ct_qtaken), sl_qtaken⟩)
    (c_qtaken : PySem.W.codeIn K cd_qtaken "_law_taken" = true)
    (k_qtaken : PySem.W.keepIn K (.ref f_qtaken) = true)
    (a_qdivides : PySem.W.nsIn K mainGlobals "_law_divides" = some (some (.ref f_qdivides)))
    (l_qdivides : K.lookup f_qdivides = some ⟨oc_qdivides, od_qdivides, .func (PySem.W.fnOf "_law_divides" "_law_divides" (defArgs s_qdivides) (defBody s_qdivides) (defScope s_qdivides) .none kV_qdivides dc_qdivides pm_qdivides an_qdivides cd_qdivides ct_qdivides), sl_qdivides⟩)
    (c_qdivides : PySem.W.codeIn K cd_qdivides "_law_divides" = true)
    (k_qdivides : PySem.W.keepIn K (.ref f_qdivides) = true)
    (a_qleast : PySem.W.nsIn K mainGlobals "_law_least" = some (some (.ref f_qleast)))
    (l_qleast : K.lookup f_qleast = some ⟨oc_qleast, od_qleast, .func (PySem.W.fnOf "_law_least" "_law_least" (defArgs s_qleast) (defBody s_qleast) (defScope s_qleast) .none kV_qleast dc_qleast pm_qleast an_qleast cd_qleast ct_qleast), sl_qleast⟩)
    (c_qleast : PySem.W.codeIn K cd_qleast "_law_least" = true)
    (k_qleast : PySem.W.keepIn K (.ref f_qleast) = true)
    (a_qproduct : PySem.W.nsIn K mainGlobals "_law_product" = some (some (.ref f_qproduct)))
    (l_qproduct : K.lookup f_qproduct = some ⟨oc_qproduct, od_qproduct, .func (PySem.W.fnOf "_law_product" "_law_product" (defArgs s_qproduct) (defBody s_qproduct) (defScope s_qproduct) .none kV_qproduct dc_qproduct pm_qproduct an_qproduct cd_qproduct ct_qproduct), sl_qproduct⟩)
    (c_qproduct : PySem.W.codeIn K cd_qproduct "_law_product" = true)
    (k_qproduct : PySem.W.keepIn K (.ref f_qproduct) = true)
    (a_qmembers : PySem.W.nsIn K mainGlobals "_law_members" = some (some (.ref f_qmembers)))
    (l_qmembers : K.lookup f_qmembers = some ⟨oc_qmembers, od_qmembers, .func (PySem.W.fnOf "_law_members" "_law_members" (defArgs s_qmembers) (defBody s_qmembers) (defScope s_qmembers) .none kV_qmembers dc_qmembers pm_qmembers an_qmembers cd_qmembers ct_qmembers), sl_qmembers⟩)
    (c_qmembers : PySem.W.codeIn K cd_qmembers "_law_members" = true)
    (k_qmembers : PySem.W.keepIn K (.ref f_qmembers) = true)
    (a_qis_free : PySem.W.nsIn K mainGlobals "_law_is_free" = some (some (.ref f_qis_free)))
    (l_qis_free : K.lookup f_qis_free = some ⟨oc_qis_free, od_qis_free, .func (PySem.W.fnOf "_law_is_free" "_law_is_free" (defArgs s_qis_free) (defBody s_qis_free) (defScope s_qis_free) .none kV_qis_free dc_qis_free pm_qis_free an_qis_free cd_qis_free ct_qis_free), sl_qis_free⟩)
    (c_qis_free : PySem.W.codeIn K cd_qis_free "_law_is_free" = true)
    (k_qis_free : PySem.W.keepIn K (.ref f_qis_free) = true)
    (a_qsets : PySem.W.nsIn K mainGlobals "_law_sets" = some (some (.ref f_qsets)))
    (l_qsets : K.lookup f_qsets = some ⟨oc_qsets, od_qsets, .func (PySem.W.fnOf "_law_sets" "_law_sets" (defArgs s_qsets) (defBody s_qsets) (defScope s_qsets) .none kV_qsets dc_qsets pm_qsets an_qsets cd_qsets ct_qsets), sl_qsets⟩)
    (c_qsets : PySem.W.codeIn K cd_qsets "_law_sets" = true)
    (k_qsets : PySem.W.keepIn K (.ref f_qsets) = true)
    (a_qtold : PySem.W.nsIn K mainGlobals "_law_told" = some (some (.ref f_qtold)))
    (l_qtold : K.lookup f_qtold = some ⟨oc_qtold, od_qtold, .func (PySem.W.fnOf "_law_told" "_law_told" (defArgs s_qtold) (defBody s_qtold) (defScope s_qtold) .none kV_qtold dc_qtold pm_qtold an_qtold (.ref cc_qtold) ct_qtold), sl_qtold⟩)
    (c_qtold : PySem.W.codeIn K (.ref cc_qtold) "_law_told" = true)
    (k_qtold : PySem.W.keepIn K (.ref f_qtold) = true)
    (a_qright : PySem.W.nsIn K mainGlobals "_law_right" = some (some (.ref f_qright)))
    (l_qright : K.lookup f_qright = some ⟨oc_qright, od_qright, .func (PySem.W.fnOf "_law_right" "_law_right" (defArgs s_qright) (defBody s_qright) (defScope s_qright) .none kV_qright dc_qright pm_qright an_qright (.ref cc_qright) ct_qright), sl_qright⟩)
    (c_qright : PySem.W.codeIn K (.ref cc_qright) "_law_right" = true)
    (k_qright : PySem.W.keepIn K (.ref f_qright) = true)
    (a_law : PySem.W.nsIn K mainGlobals "law" = some (some (.ref f_law)))
    (l_law : K.lookup f_law = some ⟨oc_law, od_law, .func (PySem.W.fnOf "law" "law" (defArgs s_law) (defBody s_law) (defScope s_law) .none kV_law dc_law pm_law an_law (.ref cc_law) ct_law), sl_law⟩)
    (c_law : PySem.W.codeIn K (.ref cc_law) "law" = true)
    (k_law : PySem.W.keepIn K (.ref f_law) = true)
    (hc_free_set_in : K.lookup cc_free_set_in = some ⟨ccl_free_set_in, cdd_free_set_in, .fields vs_free_set_in, ccs_free_set_in⟩)
    (h5_free_set_in : vs_free_set_in[11]? = some (.ref tb_free_set_in))
    (nt_free_set_in : K.lookup tb_free_set_in = none)
    (ht_free_set_in : ((PyProof.Rows.recsOf q).find? fun e => e.name == ("free_set_in" : Str)).isSome = true)
    (nd : ((TT tb_free_set_in).map (·.1)).Nodup)
    (z_abs : PySem.W.nsIn K mainGlobals "abs" = some none)
    (z_all : PySem.W.nsIn K mainGlobals "all" = some none)
    (z_any : PySem.W.nsIn K mainGlobals "any" = some none)
    (z_bool : PySem.W.nsIn K mainGlobals "bool" = some none)
    (z_enumerate : PySem.W.nsIn K mainGlobals "enumerate" = some none)
    (z_int : PySem.W.nsIn K mainGlobals "int" = some none)
    (z_isinstance : PySem.W.nsIn K mainGlobals "isinstance" = some none)
    (z_len : PySem.W.nsIn K mainGlobals "len" = some none)
    (z_list : PySem.W.nsIn K mainGlobals "list" = some none)
    (z_max : PySem.W.nsIn K mainGlobals "max" = some none)
    (z_min : PySem.W.nsIn K mainGlobals "min" = some none)
    (z_next : PySem.W.nsIn K mainGlobals "next" = some none)
    (z_range : PySem.W.nsIn K mainGlobals "range" = some none)
    (z_set : PySem.W.nsIn K mainGlobals "set" = some none)
    (z_sorted : PySem.W.nsIn K mainGlobals "sorted" = some none)
    (z_sum : PySem.W.nsIn K mainGlobals "sum" = some none)
    (z_tuple : PySem.W.nsIn K mainGlobals "tuple" = some none)
    (z_zip : PySem.W.nsIn K mainGlobals "zip" = some none)
    (y_ALL : PySem.W.nsIn K mainGlobals "ALL" = some (some (.str "all" t_ALL)))
    (y_MAX_EXPONENT : PySem.W.nsIn K mainGlobals "MAX_EXPONENT" = some (some (.int 60 t_MAX_EXPONENT)))
    (y_MAX_LETTERS : PySem.W.nsIn K mainGlobals "MAX_LETTERS" = some (some (.int 8 t_MAX_LETTERS)))
    (y_MAX_MEMBERS : PySem.W.nsIn K mainGlobals "MAX_MEMBERS" = some (some (.int 24 t_MAX_MEMBERS)))
    (y_MAX_MEMBER_EXPONENT : PySem.W.nsIn K mainGlobals "MAX_MEMBER_EXPONENT" = some (some (.int 8 t_MAX_MEMBER_EXPONENT)))
    (y_MAX_PASSED : PySem.W.nsIn K mainGlobals "MAX_PASSED" = some (some (.int 200 t_MAX_PASSED)))
    : LawAtG l w K 8 63 "_law_script" mg fa h := by
  have e := hfa.symm.trans (PySem.W.mg_of X G a_law)
  have e2 : fa = f_law := by cases e; rfl
  rw [e2]
  have T : Txt l.prog K mg t_ALL t_MAX_EXPONENT t_MAX_LETTERS t_MAX_MEMBERS t_MAX_MEMBER_EXPONENT t_MAX_PASSED c_KeptMembers c_Lot c_Refused tb_free_set_in := ⟨PySem.W.mg_none_of X G z_abs, PySem.W.mg_none_of X G z_all, PySem.W.mg_none_of X G z_any, PySem.W.mg_none_of X G z_bool, PySem.W.mg_none_of X G z_enumerate, PySem.W.mg_none_of X G z_int, PySem.W.mg_none_of X G z_isinstance, PySem.W.mg_none_of X G z_len, PySem.W.mg_none_of X G z_list, PySem.W.mg_none_of X G z_max, PySem.W.mg_none_of X G z_min, PySem.W.mg_none_of X G z_next, PySem.W.mg_none_of X G z_range, PySem.W.mg_none_of X G z_set, PySem.W.mg_none_of X G z_sorted, PySem.W.mg_none_of X G z_sum, PySem.W.mg_none_of X G z_tuple, PySem.W.mg_none_of X G z_zip, PySem.W.mg_of X G y_ALL, PySem.W.mg_of X G y_MAX_EXPONENT, PySem.W.mg_of X G y_MAX_LETTERS, PySem.W.mg_of X G y_MAX_MEMBERS, PySem.W.mg_of X G y_MAX_MEMBER_EXPONENT, PySem.W.mg_of X G y_MAX_PASSED, PySem.W.mg_of X G cl_KeptMembers, ⟨⟨pg_KeptMembers, ic_KeptMembers, po_KeptMembers, sa_KeptMembers⟩, ⟨ca_KeptMembers, cn_KeptMembers, ct_KeptMembers, cm_KeptMembers⟩, noSub_all, noIsi_of ic_KeptMembers ty_KeptMembers, ms_KeptMembers, kp_KeptMembers⟩, PySem.W.mg_of X G cl_Lot, ⟨⟨pg_Lot, ic_Lot, po_Lot, sa_Lot⟩, ⟨ca_Lot, cn_Lot, ct_Lot, cm_Lot⟩, noSub_all, noIsi_of ic_Lot ty_Lot, ms_Lot, kp_Lot⟩, ⟨_, s1_KeptMembers_own_members, s2_KeptMembers_own_members, s3_KeptMembers_own_members, s4_KeptMembers_own_members, s5_KeptMembers_own_members, by decide⟩, ⟨_, s1_Lot_own_letters, s2_Lot_own_letters, s3_Lot_own_letters, s4_Lot_own_letters, s5_Lot_own_letters, by decide⟩, ⟨_, s1_Lot_own_members, s2_Lot_own_members, s3_Lot_own_members, s4_Lot_own_members, s5_Lot_own_members, by decide⟩, PySem.W.mg_of X G xl_Refused, ⟨xf_Refused, xa1_Refused, xa2_Refused, xa3_Refused, xa4_Refused, xa5_Refused, xa6_Refused, xa7_Refused, xa8_Refused, xa9_Refused, xk_Refused, xb_Refused, xt_Refused, xa0_Refused, xa10_Refused, PySem.W.mg_none_of X G xa11_Refused, xa12_Refused, ⟨_, _, _, _, _, _, _, _, _, _, _, _, _, _, _, _, _, _, _, _, xa13_Refused, xa14_Refused, xa15_Refused, xa16_Refused, xa17_Refused, xa18_Refused⟩, tx_Refused, ⟨rfl, rfl, rfl⟩, PySem.W.kxs_ArithmeticError, PySem.F.excBase_ArithmeticError, PySem.F.store_ArithmeticError⟩, exm_mk xb_Refused xi_Refused xt_Refused xs_Refused_Refused, ⟨xg1_Refused, xg2_Refused, xg3_Refused, xg4_Refused⟩, xn_Refused_reason⟩
  have F_is_whole := fun_mk (st := s_is_whole) l_is_whole c_is_whole k_is_whole
  have D_is_whole : Dfn K mg "is_whole" s_is_whole ["value"] f_is_whole _ := ⟨F_is_whole, PySem.W.mg_of X G a_is_whole, F_is_whole.binds fun _ _ _ _ _ _ us hl => match us, hl with | [_], _ => rfl⟩
  have F_is_within := fun_mk (st := s_is_within) l_is_within c_is_within k_is_within
  have D_is_within : Dfn K mg "is_within" s_is_within ["value", "least", "greatest"] f_is_within _ := ⟨F_is_within, PySem.W.mg_of X G a_is_within, F_is_within.binds fun _ _ _ _ _ _ us hl => match us, hl with | [_, _, _], _ => rfl⟩
  have F_require_within := fun_mk (st := s_require_within) l_require_within c_require_within k_require_within
  have D_require_within : Dfn K mg "require_within" s_require_within ["value", "least", "greatest"] f_require_within _ := ⟨F_require_within, PySem.W.mg_of X G a_require_within, F_require_within.binds fun _ _ _ _ _ _ us hl => match us, hl with | [_, _, _], _ => rfl⟩
  have F_is_product_in := fun_mk (st := s_is_product_in) l_is_product_in c_is_product_in k_is_product_in
  have D_is_product_in : Dfn K mg "is_product_in" s_is_product_in ["letters", "value"] f_is_product_in _ := ⟨F_is_product_in, PySem.W.mg_of X G a_is_product_in, F_is_product_in.binds fun _ _ _ _ _ _ us hl => match us, hl with | [_, _], _ => rfl⟩
  have F_divides := fun_mk (st := s_divides) l_divides c_divides k_divides
  have D_divides : Dfn K mg "divides" s_divides ["one", "other"] f_divides _ := ⟨F_divides, PySem.W.mg_of X G a_divides, F_divides.binds fun _ _ _ _ _ _ us hl => match us, hl with | [_, _], _ => rfl⟩
  have F_require_letters := fun_mk (st := s_require_letters) l_require_letters c_require_letters k_require_letters
  have D_require_letters : Dfn K mg "require_letters" s_require_letters ["letters"] f_require_letters _ := ⟨F_require_letters, PySem.W.mg_of X G a_require_letters, F_require_letters.binds fun _ _ _ _ _ _ us hl => match us, hl with | [_], _ => rfl⟩
  have F_least_of := fun_mk (st := s_least_of) l_least_of c_least_of k_least_of
  have D_least_of : Dfn K mg "least_of" s_least_of ["products"] f_least_of _ := ⟨F_least_of, PySem.W.mg_of X G a_least_of, F_least_of.binds fun _ _ _ _ _ _ us hl => match us, hl with | [_], _ => rfl⟩
  have F_are_long := fun_mk (st := s_are_long) l_are_long c_are_long k_are_long
  have D_are_long : Dfn K mg "are_long" s_are_long ["products"] f_are_long _ := ⟨F_are_long, PySem.W.mg_of X G a_are_long, F_are_long.binds fun _ _ _ _ _ _ us hl => match us, hl with | [_], _ => rfl⟩
  have F_few_least_of := fun_mk (st := s_few_least_of) l_few_least_of c_few_least_of k_few_least_of
  have D_few_least_of : Dfn K mg "few_least_of" s_few_least_of ["products"] f_few_least_of _ := ⟨F_few_least_of, PySem.W.mg_of X G a_few_least_of, F_few_least_of.binds fun _ _ _ _ _ _ us hl => match us, hl with | [_], _ => rfl⟩
  have F_KeptMembers___init__ := fun_mk (st := s_KeptMembers___init__) l_KeptMembers___init__ c_KeptMembers___init__ k_KeptMembers___init__
  have D_KeptMembers___init__ : Mtd K c_KeptMembers "__init__" "KeptMembers.__init__" s_KeptMembers___init__ ["self", "members"] f_KeptMembers___init__ _ := ⟨F_KeptMembers___init__, F_KeptMembers___init__.binds fun _ _ _ _ _ _ us hl => match us, hl with | [_, _], _ => rfl, a_KeptMembers___init__, i_KeptMembers___init__⟩
  have F_is_passed_member := fun_mk (st := s_is_passed_member) l_is_passed_member c_is_passed_member k_is_passed_member
  have D_is_passed_member : Dfn K mg "is_passed_member" s_is_passed_member ["letters", "value"] f_is_passed_member _ := ⟨F_is_passed_member, PySem.W.mg_of X G a_is_passed_member, F_is_passed_member.binds fun _ _ _ _ _ _ us hl => match us, hl with | [_, _], _ => rfl⟩
  have F_members_told := fun_mk (st := s_members_told) l_members_told c_members_told k_members_told
  have D_members_told : Dfn K mg "members_told" s_members_told ["letters", "members"] f_members_told _ := ⟨F_members_told, PySem.W.mg_of X G a_members_told, F_members_told.binds fun _ _ _ _ _ _ us hl => match us, hl with | [_, _], _ => rfl⟩
  have F_Lot___init__ := fun_mk (st := s_Lot___init__) l_Lot___init__ c_Lot___init__ k_Lot___init__
  have D_Lot___init__ : Mtd K c_Lot "__init__" "Lot.__init__" s_Lot___init__ ["self", "letters", "members"] f_Lot___init__ _ := ⟨F_Lot___init__, F_Lot___init__.binds fun _ _ _ _ _ _ us hl => match us, hl with | [_, _, _], _ => rfl, a_Lot___init__, i_Lot___init__⟩
  have F_is_all_in := fun_mk (st := s_is_all_in) l_is_all_in c_is_all_in k_is_all_in
  have D_is_all_in : Dfn K mg "is_all_in" s_is_all_in ["members"] f_is_all_in _ := ⟨F_is_all_in, PySem.W.mg_of X G a_is_all_in, F_is_all_in.binds fun _ _ _ _ _ _ us hl => match us, hl with | [_], _ => rfl⟩
  have F_require_lot := fun_mk (st := s_require_lot) l_require_lot c_require_lot k_require_lot
  have D_require_lot : Dfn K mg "require_lot" s_require_lot ["value"] f_require_lot _ := ⟨F_require_lot, PySem.W.mg_of X G a_require_lot, F_require_lot.binds fun _ _ _ _ _ _ us hl => match us, hl with | [_], _ => rfl⟩
  have F_is_free_in := fun_mk (st := s_is_free_in) l_is_free_in c_is_free_in k_is_free_in
  have D_is_free_in : Dfn K mg "is_free_in" s_is_free_in ["members", "letters_told"] f_is_free_in _ := ⟨F_is_free_in, PySem.W.mg_of X G a_is_free_in, F_is_free_in.binds fun _ _ _ _ _ _ us hl => match us, hl with | [_, _], _ => rfl⟩
  have F_sets_of := fun_mk (st := s_sets_of) l_sets_of c_sets_of k_sets_of
  have D_sets_of : Dfn K mg "sets_of" s_sets_of ["letters", "size"] f_sets_of _ := ⟨F_sets_of, PySem.W.mg_of X G a_sets_of, F_sets_of.binds fun _ _ _ _ _ _ us hl => match us, hl with | [_, _], _ => rfl⟩
  have F_free_set_in := fun_mk (st := s_free_set_in) l_free_set_in c_free_set_in k_free_set_in
  have D_free_set_in : DfnC K mg "free_set_in" s_free_set_in ["lot"] f_free_set_in _ cc_free_set_in := ⟨⟨⟨_, _, _, _, _, _, _, _, rfl, l_free_set_in, c_free_set_in⟩, k_free_set_in⟩, PySem.W.mg_of X G a_free_set_in, F_free_set_in.binds fun _ _ _ _ _ _ us hl => match us, hl with | [_], _ => rfl⟩
  have F_dimension_in := fun_mk (st := s_dimension_in) l_dimension_in c_dimension_in k_dimension_in
  have D_dimension_in : DfnC K mg "dimension_in" s_dimension_in ["lot"] f_dimension_in _ cc_dimension_in := ⟨⟨⟨_, _, _, _, _, _, _, _, rfl, l_dimension_in, c_dimension_in⟩, k_dimension_in⟩, PySem.W.mg_of X G a_dimension_in, F_dimension_in.binds fun _ _ _ _ _ _ us hl => match us, hl with | [_], _ => rfl⟩
  have F_dimension := fun_mk (st := s_dimension) l_dimension c_dimension k_dimension
  have D_dimension : DfnC K mg "dimension" s_dimension ["lot"] f_dimension _ cc_dimension := ⟨⟨⟨_, _, _, _, _, _, _, _, rfl, l_dimension, c_dimension⟩, k_dimension⟩, PySem.W.mg_of X G a_dimension, F_dimension.binds fun _ _ _ _ _ _ us hl => match us, hl with | [_], _ => rfl⟩
  have F_require_some_left := fun_mk (st := s_require_some_left) l_require_some_left c_require_some_left k_require_some_left
  have D_require_some_left : Dfn K mg "require_some_left" s_require_some_left ["lot"] f_require_some_left _ := ⟨F_require_some_left, PySem.W.mg_of X G a_require_some_left, F_require_some_left.binds fun _ _ _ _ _ _ us hl => match us, hl with | [_], _ => rfl⟩
  have F_free_set := fun_mk (st := s_free_set) l_free_set c_free_set k_free_set
  have D_free_set : DfnC K mg "free_set" s_free_set ["lot"] f_free_set _ cc_free_set := ⟨⟨⟨_, _, _, _, _, _, _, _, rfl, l_free_set, c_free_set⟩, k_free_set⟩, PySem.W.mg_of X G a_free_set, F_free_set.binds fun _ _ _ _ _ _ us hl => match us, hl with | [_], _ => rfl⟩
  have F_is_free_set := fun_mk (st := s_is_free_set) l_is_free_set c_is_free_set k_is_free_set
  have D_is_free_set : DfnC K mg "is_free_set" s_is_free_set ["lot", "value"] f_is_free_set _ cc_is_free_set := ⟨⟨⟨_, _, _, _, _, _, _, _, rfl, l_is_free_set, c_is_free_set⟩, k_is_free_set⟩, PySem.W.mg_of X G a_is_free_set, F_is_free_set.binds fun _ _ _ _ _ _ us hl => match us, hl with | [_, _], _ => rfl⟩
  have F_qjug := fun_mk (st := s_qjug) l_qjug c_qjug k_qjug
  have D_qjug : Dfn K mg "_law_jug" s_qjug ["_law_script", "_law_turn"] f_qjug _ := ⟨F_qjug, PySem.W.mg_of X G a_qjug, F_qjug.binds fun _ _ _ _ _ _ us hl => match us, hl with | [_, _], _ => rfl⟩
  have F_qpour := fun_mk (st := s_qpour) l_qpour c_qpour k_qpour
  have D_qpour : Dfn K mg "_law_pour" s_qpour ["_law_jug_here", "_law_total"] f_qpour _ := ⟨F_qpour, PySem.W.mg_of X G a_qpour, F_qpour.binds fun _ _ _ _ _ _ us hl => match us, hl with | [_, _], _ => rfl⟩
  have F_qtaken := fun_mk (st := s_qtaken) l_qtaken c_qtaken k_qtaken
  have D_qtaken : Dfn K mg "_law_taken" s_qtaken ["_law_jug_here", "_law_items"] f_qtaken _ := ⟨F_qtaken, PySem.W.mg_of X G a_qtaken, F_qtaken.binds fun _ _ _ _ _ _ us hl => match us, hl with | [_, _], _ => rfl⟩
  have F_qdivides := fun_mk (st := s_qdivides) l_qdivides c_qdivides k_qdivides
  have D_qdivides : Dfn K mg "_law_divides" s_qdivides ["_law_one", "_law_other"] f_qdivides _ := ⟨F_qdivides, PySem.W.mg_of X G a_qdivides, F_qdivides.binds fun _ _ _ _ _ _ us hl => match us, hl with | [_, _], _ => rfl⟩
  have F_qleast := fun_mk (st := s_qleast) l_qleast c_qleast k_qleast
  have D_qleast : Dfn K mg "_law_least" s_qleast ["_law_products"] f_qleast _ := ⟨F_qleast, PySem.W.mg_of X G a_qleast, F_qleast.binds fun _ _ _ _ _ _ us hl => match us, hl with | [_], _ => rfl⟩
  have F_qproduct := fun_mk (st := s_qproduct) l_qproduct c_qproduct k_qproduct
  have D_qproduct : Dfn K mg "_law_product" s_qproduct ["_law_jug_here", "_law_letters", "_law_most"] f_qproduct _ := ⟨F_qproduct, PySem.W.mg_of X G a_qproduct, F_qproduct.binds fun _ _ _ _ _ _ us hl => match us, hl with | [_, _, _], _ => rfl⟩
  have F_qmembers := fun_mk (st := s_qmembers) l_qmembers c_qmembers k_qmembers
  have D_qmembers : Dfn K mg "_law_members" s_qmembers ["_law_jug_here", "_law_letters", "_law_total", "_law_most"] f_qmembers _ := ⟨F_qmembers, PySem.W.mg_of X G a_qmembers, F_qmembers.binds fun _ _ _ _ _ _ us hl => match us, hl with | [_, _, _, _], _ => rfl⟩
  have F_qis_free := fun_mk (st := s_qis_free) l_qis_free c_qis_free k_qis_free
  have D_qis_free : Dfn K mg "_law_is_free" s_qis_free ["_law_members_here", "_law_chosen"] f_qis_free _ := ⟨F_qis_free, PySem.W.mg_of X G a_qis_free, F_qis_free.binds fun _ _ _ _ _ _ us hl => match us, hl with | [_, _], _ => rfl⟩
  have F_qsets := fun_mk (st := s_qsets) l_qsets c_qsets k_qsets
  have D_qsets : Dfn K mg "_law_sets" s_qsets ["_law_letters"] f_qsets _ := ⟨F_qsets, PySem.W.mg_of X G a_qsets, F_qsets.binds fun _ _ _ _ _ _ us hl => match us, hl with | [_], _ => rfl⟩
  have F_qtold := fun_mk (st := s_qtold) l_qtold c_qtold k_qtold
  have D_qtold : DfnC K mg "_law_told" s_qtold ["_law_lot"] f_qtold _ cc_qtold := ⟨⟨⟨_, _, _, _, _, _, _, _, rfl, l_qtold, c_qtold⟩, k_qtold⟩, PySem.W.mg_of X G a_qtold, F_qtold.binds fun _ _ _ _ _ _ us hl => match us, hl with | [_], _ => rfl⟩
  have F_qright := fun_mk (st := s_qright) l_qright c_qright k_qright
  have D_qright : DfnC K mg "_law_right" s_qright ["_law_jug_here"] f_qright _ cc_qright := ⟨⟨⟨_, _, _, _, _, _, _, _, rfl, l_qright, c_qright⟩, k_qright⟩, PySem.W.mg_of X G a_qright, F_qright.binds fun _ _ _ _ _ _ us hl => match us, hl with | [_], _ => rfl⟩
  have F_law := fun_mk (st := s_law) l_law c_law k_law
  have D_law : DfnC K mg "law" s_law ["_law_script"] f_law _ cc_law := ⟨⟨⟨_, _, _, _, _, _, _, _, rfl, l_law, c_law⟩, k_law⟩, PySem.W.mg_of X G a_law, F_law.binds fun _ _ _ _ _ _ us hl => match us, hl with | [_], _ => rfl⟩
  have Z_free_set_in := tab "free_set_in" cc_free_set_in tb_free_set_in ht_free_set_in (tabIn_mk a_free_set_in l_free_set_in rfl hc_free_set_in h5_free_set_in)
  refine law_endG (l := l) (sp := (sp_law c_KeptMembers c_Lot c_Refused tb_free_set_in)) [(cc_free_set_in, tb_free_set_in)] (TT tb_free_set_in) D_law (fun s v => .of_eq rfl) (List.forall_mem_cons.2 ⟨⟨Z_free_set_in.1, Z_free_set_in.2, nt_free_set_in⟩, List.forall_mem_nil _⟩) rfl nd (fun ns hT => ⟨_, rfl, hT, rfl⟩) fun base _ _ TBs => ?_
  have B_free_set_in := TBs (cc_free_set_in, tb_free_set_in) (by simp)
  have G_is_whole := ok_is_whole (P := l.prog) (w := w) (base := base) D_is_whole T
  have G_is_within := ok_is_within (P := l.prog) (w := w) (base := base) D_is_within T D_is_whole G_is_whole
  have G_require_within := ok_require_within (P := l.prog) (w := w) (base := base) D_require_within T D_is_within G_is_within
  have G_is_product_in := ok_is_product_in (P := l.prog) (w := w) (base := base) D_is_product_in T D_is_within G_is_within
  have G_divides := ok_divides (P := l.prog) (w := w) (base := base) D_divides T
  have G_require_letters := ok_require_letters (P := l.prog) (w := w) (base := base) D_require_letters T D_require_within G_require_within
  have G_least_of := ok_least_of (P := l.prog) (w := w) (base := base) D_least_of T D_divides G_divides
  have G_are_long := ok_are_long (P := l.prog) (w := w) (base := base) D_are_long T
  have G_few_least_of := ok_few_least_of (P := l.prog) (w := w) (base := base) D_few_least_of T D_divides G_divides D_are_long G_are_long D_least_of G_least_of
  have G_KeptMembers___init__ := ok_KeptMembers___init__ (P := l.prog) (w := w) (base := base) D_KeptMembers___init__ T
  have G_is_passed_member := ok_is_passed_member (P := l.prog) (w := w) (base := base) D_is_passed_member T D_is_within G_is_within
  have G_members_told := ok_members_told (P := l.prog) (w := w) (base := base) D_members_told T D_few_least_of G_few_least_of D_is_passed_member G_is_passed_member
  have G_Lot___init__ := ok_Lot___init__ (P := l.prog) (w := w) (base := base) D_Lot___init__ T D_members_told G_members_told D_require_letters G_require_letters
  have G_is_all_in := ok_is_all_in (P := l.prog) (w := w) (base := base) D_is_all_in T
  have G_require_lot := ok_require_lot (P := l.prog) (w := w) (base := base) D_require_lot T
  have G_is_free_in := ok_is_free_in (P := l.prog) (w := w) (base := base) D_is_free_in T
  have G_sets_of := ok_sets_of (P := l.prog) (w := w) (base := base) D_sets_of T
  have G_free_set_in := ok_free_set_in (P := l.prog) (w := w) (base := base) D_free_set_in T B_free_set_in D_sets_of G_sets_of D_is_free_in G_is_free_in
  have G_dimension_in := ok_dimension_in (P := l.prog) (w := w) (base := base) D_dimension_in T D_free_set_in G_free_set_in
  have G_dimension := ok_dimension (P := l.prog) (w := w) (base := base) D_dimension T D_dimension_in G_dimension_in D_require_lot G_require_lot
  have G_require_some_left := ok_require_some_left (P := l.prog) (w := w) (base := base) D_require_some_left T D_is_all_in G_is_all_in D_require_lot G_require_lot
  have GR_require_some_left := okR_require_some_left (P := l.prog) (w := w) (base := base) D_require_some_left T D_is_all_in G_is_all_in D_require_lot G_require_lot
  have G_free_set := ok_free_set (P := l.prog) (w := w) (base := base) D_free_set T D_free_set_in G_free_set_in D_require_some_left G_require_some_left
  have GR_free_set := okR_free_set (P := l.prog) (w := w) (base := base) D_free_set T D_require_some_left GR_require_some_left
  have G_is_free_set := ok_is_free_set (P := l.prog) (w := w) (base := base) D_is_free_set T D_is_free_in G_is_free_in D_dimension_in G_dimension_in D_is_within G_is_within D_require_some_left G_require_some_left
  have G_qjug := ok_qjug (P := l.prog) (w := w) (base := base) D_qjug T
  have G_qpour := ok_qpour (P := l.prog) (w := w) (base := base) D_qpour T
  have G_qtaken := ok_qtaken (P := l.prog) (w := w) (base := base) D_qtaken T D_qpour G_qpour
  have G_qdivides := ok_qdivides (P := l.prog) (w := w) (base := base) D_qdivides T
  have G_qleast := ok_qleast (P := l.prog) (w := w) (base := base) D_qleast T D_qdivides G_qdivides
  have G_qproduct := ok_qproduct (P := l.prog) (w := w) (base := base) D_qproduct T D_qpour G_qpour
  have G_qmembers := ok_qmembers (P := l.prog) (w := w) (base := base) D_qmembers T D_qleast G_qleast D_qpour G_qpour D_qproduct G_qproduct
  have G_qis_free := ok_qis_free (P := l.prog) (w := w) (base := base) D_qis_free T
  have G_qsets := ok_qsets (P := l.prog) (w := w) (base := base) D_qsets T
  have G_qtold := ok_qtold (P := l.prog) (w := w) (base := base) D_qtold T D_free_set G_free_set GR_free_set
  have G_qright := ok_qright (P := l.prog) (w := w) (base := base) D_qright T D_is_free_set G_is_free_set D_qsets G_qsets D_dimension G_dimension D_qtold G_qtold D_qis_free G_qis_free D_qmembers G_qmembers D_qtaken G_qtaken D_qpour G_qpour D_Lot___init__ G_Lot___init__
  have G_law := ok_law (P := l.prog) (w := w) (base := base) D_law T D_free_set G_free_set D_is_free_set G_is_free_set D_qright G_qright D_qjug G_qjug D_Lot___init__ G_Lot___init__
  exact G_law

end DL
open PySem PySem.W PyProof.Rows in
set_option maxRecDepth 100000 in
set_option maxHeartbeats 0 in
theorem PySem.Challenge.cw_pureladders_k14_whole_free_sets_holds : PySem.Challenge.rw_pureladders_k14_whole_free_sets.Holds := by
  w_on; o_law; k_head; (case hw => w_witness2)
  k_fill
  refine DL.walk_ofG (l := PySem.Challenge.rw_pureladders_k14_whole_free_sets) (n := 63) (k := 8) (x := "_law_script") rfl (by decide) rfl ⟨rfl, by decide, by decide⟩ (fun w h Y => by first | exact PySem.W.kIn_of Y | exact PySem.W.km_in_of Y) ?F
  case F =>
    intro w mg fa h KX G hmg tab
    refine' DL.all_mk KX G hmg tab ?cl_KeptMembers ?pg_KeptMembers ?ic_KeptMembers ?po_KeptMembers ?sa_KeptMembers ?ca_KeptMembers ?cn_KeptMembers ?ct_KeptMembers ?cm_KeptMembers ?ty_KeptMembers ?ms_KeptMembers ?kp_KeptMembers ?cl_Lot ?pg_Lot ?ic_Lot ?po_Lot ?sa_Lot ?ca_Lot ?cn_Lot ?ct_Lot ?cm_Lot ?ty_Lot ?ms_Lot ?kp_Lot ?xl_Refused ?xi_Refused ?xa0_Refused ?xa1_Refused ?xa2_Refused ?xa3_Refused ?xa4_Refused ?xa5_Refused ?xa6_Refused ?xa7_Refused ?xa8_Refused ?xa9_Refused ?xk_Refused ?xb_Refused ?xt_Refused ?xa10_Refused ?xa11_Refused ?xa12_Refused ?xa13_Refused ?xa14_Refused ?xa15_Refused ?xa16_Refused ?xa17_Refused ?xa18_Refused ?xs_Refused_Refused ?xg1_Refused ?xg2_Refused ?xg3_Refused ?xg4_Refused ?xn_Refused_reason ?s1_KeptMembers_own_members ?s2_KeptMembers_own_members ?s3_KeptMembers_own_members ?s4_KeptMembers_own_members ?s5_KeptMembers_own_members ?s1_Lot_own_letters ?s2_Lot_own_letters ?s3_Lot_own_letters ?s4_Lot_own_letters ?s5_Lot_own_letters ?s1_Lot_own_members ?s2_Lot_own_members ?s3_Lot_own_members ?s4_Lot_own_members ?s5_Lot_own_members ?a_is_whole ?l_is_whole ?c_is_whole ?k_is_whole ?a_is_within ?l_is_within ?c_is_within ?k_is_within ?a_require_within ?l_require_within ?c_require_within ?k_require_within ?a_is_product_in ?l_is_product_in ?c_is_product_in ?k_is_product_in ?a_divides ?l_divides ?c_divides ?k_divides ?a_require_letters ?l_require_letters ?c_require_letters ?k_require_letters ?a_least_of ?l_least_of ?c_least_of ?k_least_of ?a_are_long ?l_are_long ?c_are_long ?k_are_long ?a_few_least_of ?l_few_least_of ?c_few_least_of ?k_few_least_of ?a_KeptMembers___init__ ?i_KeptMembers___init__ ?l_KeptMembers___init__ ?c_KeptMembers___init__ ?k_KeptMembers___init__ ?a_is_passed_member ?l_is_passed_member ?c_is_passed_member ?k_is_passed_member ?a_members_told ?l_members_told ?c_members_told ?k_members_told ?a_Lot___init__ ?i_Lot___init__ ?l_Lot___init__ ?c_Lot___init__ ?k_Lot___init__ ?a_is_all_in ?l_is_all_in ?c_is_all_in ?k_is_all_in ?a_require_lot ?l_require_lot ?c_require_lot ?k_require_lot ?a_is_free_in ?l_is_free_in ?c_is_free_in ?k_is_free_in ?a_sets_of ?l_sets_of ?c_sets_of ?k_sets_of ?a_free_set_in ?l_free_set_in ?c_free_set_in ?k_free_set_in ?a_dimension_in ?l_dimension_in ?c_dimension_in ?k_dimension_in ?a_dimension ?l_dimension ?c_dimension ?k_dimension ?a_require_some_left ?l_require_some_left ?c_require_some_left ?k_require_some_left ?a_free_set ?l_free_set ?c_free_set ?k_free_set ?a_is_free_set ?l_is_free_set ?c_is_free_set ?k_is_free_set ?a_qjug ?l_qjug ?c_qjug ?k_qjug ?a_qpour ?l_qpour ?c_qpour ?k_qpour ?a_qtaken ?l_qtaken ?c_qtaken ?k_qtaken ?a_qdivides ?l_qdivides ?c_qdivides ?k_qdivides ?a_qleast ?l_qleast ?c_qleast ?k_qleast ?a_qproduct ?l_qproduct ?c_qproduct ?k_qproduct ?a_qmembers ?l_qmembers ?c_qmembers ?k_qmembers ?a_qis_free ?l_qis_free ?c_qis_free ?k_qis_free ?a_qsets ?l_qsets ?c_qsets ?k_qsets ?a_qtold ?l_qtold ?c_qtold ?k_qtold ?a_qright ?l_qright ?c_qright ?k_qright ?a_law ?l_law ?c_law ?k_law ?hc_free_set_in ?h5_free_set_in ?nt_free_set_in ?ht_free_set_in ?nd ?z_abs ?z_all ?z_any ?z_bool ?z_enumerate ?z_int ?z_isinstance ?z_len ?z_list ?z_max ?z_min ?z_next ?z_range ?z_set ?z_sorted ?z_sum ?z_tuple ?z_zip ?y_ALL ?y_MAX_EXPONENT ?y_MAX_LETTERS ?y_MAX_MEMBERS ?y_MAX_MEMBER_EXPONENT ?y_MAX_PASSED
    (case cl_KeptMembers => k_is)
    (case pg_KeptMembers => k_is)
    (case ic_KeptMembers => k_is)
    (case po_KeptMembers => k_is)
    (case sa_KeptMembers => k_is)
    (case ca_KeptMembers => k_is)
    (case cn_KeptMembers => k_is)
    (case ct_KeptMembers => k_is)
    (case cm_KeptMembers => k_is)
    (case ty_KeptMembers => k_is)
    (case ms_KeptMembers => k_is)
    (case kp_KeptMembers => k_is)
    (case cl_Lot => k_is)
    (case pg_Lot => k_is)
    (case ic_Lot => k_is)
    (case po_Lot => k_is)
    (case sa_Lot => k_is)
    (case ca_Lot => k_is)
    (case cn_Lot => k_is)
    (case ct_Lot => k_is)
    (case cm_Lot => k_is)
    (case ty_Lot => k_is)
    (case ms_Lot => k_is)
    (case kp_Lot => k_is)
    (case xl_Refused => k_is)
    (case xi_Refused => k_is)
    (case xa0_Refused => k_is)
    (case xa1_Refused => kx_is)
    (case xa2_Refused => kx_is)
    (case xa3_Refused => k_is)
    (case xa4_Refused => k_is)
    (case xa5_Refused => k_is)
    (case xa6_Refused => ks_is)
    (case xa7_Refused => k_is)
    (case xa8_Refused => k_is)
    (case xa9_Refused => k_is)
    (case xk_Refused => k_is)
    (case xb_Refused => k_is)
    (case xt_Refused => k_is)
    (case xa10_Refused => k_is)
    (case xa11_Refused => k_is)
    (case xa12_Refused => first | rfl | decide +kernel)
    (case xa13_Refused => k_is)
    (case xa14_Refused => k_is)
    (case xa15_Refused => k_is)
    (case xa16_Refused => first | rfl | decide +kernel)
    (case xa17_Refused => first | rfl | decide +kernel)
    (case xa18_Refused => k_is)
    (case xs_Refused_Refused => k_is)
    (case xg1_Refused => k_is)
    (case xg2_Refused => k_is)
    (case xg3_Refused => k_is)
    (case xg4_Refused => k_is)
    (case xn_Refused_reason => k_is)
    (case s1_KeptMembers_own_members => k_is)
    (case s2_KeptMembers_own_members => k_is)
    (case s3_KeptMembers_own_members => k_is)
    (case s4_KeptMembers_own_members => k_is)
    (case s5_KeptMembers_own_members => k_is)
    (case s1_Lot_own_letters => k_is)
    (case s2_Lot_own_letters => k_is)
    (case s3_Lot_own_letters => k_is)
    (case s4_Lot_own_letters => k_is)
    (case s5_Lot_own_letters => k_is)
    (case s1_Lot_own_members => k_is)
    (case s2_Lot_own_members => k_is)
    (case s3_Lot_own_members => k_is)
    (case s4_Lot_own_members => k_is)
    (case s5_Lot_own_members => k_is)
    (case a_is_whole => k_is)
    (case l_is_whole => k_is)
    (case c_is_whole => k_is)
    (case k_is_whole => k_is)
    (case a_is_within => k_is)
    (case l_is_within => k_is)
    (case c_is_within => k_is)
    (case k_is_within => k_is)
    (case a_require_within => k_is)
    (case l_require_within => k_is)
    (case c_require_within => k_is)
    (case k_require_within => k_is)
    (case a_is_product_in => k_is)
    (case l_is_product_in => k_is)
    (case c_is_product_in => k_is)
    (case k_is_product_in => k_is)
    (case a_divides => k_is)
    (case l_divides => k_is)
    (case c_divides => k_is)
    (case k_divides => k_is)
    (case a_require_letters => k_is)
    (case l_require_letters => k_is)
    (case c_require_letters => k_is)
    (case k_require_letters => k_is)
    (case a_least_of => k_is)
    (case l_least_of => k_is)
    (case c_least_of => k_is)
    (case k_least_of => k_is)
    (case a_are_long => k_is)
    (case l_are_long => k_is)
    (case c_are_long => k_is)
    (case k_are_long => k_is)
    (case a_few_least_of => k_is)
    (case l_few_least_of => k_is)
    (case c_few_least_of => k_is)
    (case k_few_least_of => k_is)
    (case a_KeptMembers___init__ => k_is)
    (case i_KeptMembers___init__ => k_is)
    (case l_KeptMembers___init__ => k_is)
    (case c_KeptMembers___init__ => k_is)
    (case k_KeptMembers___init__ => k_is)
    (case a_is_passed_member => k_is)
    (case l_is_passed_member => k_is)
    (case c_is_passed_member => k_is)
    (case k_is_passed_member => k_is)
    (case a_members_told => k_is)
    (case l_members_told => k_is)
    (case c_members_told => k_is)
    (case k_members_told => k_is)
    (case a_Lot___init__ => k_is)
    (case i_Lot___init__ => k_is)
    (case l_Lot___init__ => k_is)
    (case c_Lot___init__ => k_is)
    (case k_Lot___init__ => k_is)
    (case a_is_all_in => k_is)
    (case l_is_all_in => k_is)
    (case c_is_all_in => k_is)
    (case k_is_all_in => k_is)
    (case a_require_lot => k_is)
    (case l_require_lot => k_is)
    (case c_require_lot => k_is)
    (case k_require_lot => k_is)
    (case a_is_free_in => k_is)
    (case l_is_free_in => k_is)
    (case c_is_free_in => k_is)
    (case k_is_free_in => k_is)
    (case a_sets_of => k_is)
    (case l_sets_of => k_is)
    (case c_sets_of => k_is)
    (case k_sets_of => k_is)
    (case a_free_set_in => k_is)
    (case l_free_set_in => k_is)
    (case c_free_set_in => k_is)
    (case k_free_set_in => k_is)
    (case a_dimension_in => k_is)
    (case l_dimension_in => k_is)
    (case c_dimension_in => k_is)
    (case k_dimension_in => k_is)
    (case a_dimension => k_is)
    (case l_dimension => k_is)
    (case c_dimension => k_is)
    (case k_dimension => k_is)
    (case a_require_some_left => k_is)
    (case l_require_some_left => k_is)
    (case c_require_some_left => k_is)
    (case k_require_some_left => k_is)
    (case a_free_set => k_is)
    (case l_free_set => k_is)
    (case c_free_set => k_is)
    (case k_free_set => k_is)
    (case a_is_free_set => k_is)
    (case l_is_free_set => k_is)
    (case c_is_free_set => k_is)
    (case k_is_free_set => k_is)
    (case a_qjug => k_is)
    (case l_qjug => k_is)
    (case c_qjug => k_is)
    (case k_qjug => k_is)
    (case a_qpour => k_is)
    (case l_qpour => k_is)
    (case c_qpour => k_is)
    (case k_qpour => k_is)
    (case a_qtaken => k_is)
    (case l_qtaken => k_is)
    (case c_qtaken => k_is)
    (case k_qtaken => k_is)
    (case a_qdivides => k_is)
    (case l_qdivides => k_is)
    (case c_qdivides => k_is)
    (case k_qdivides => k_is)
    (case a_qleast => k_is)
    (case l_qleast => k_is)
    (case c_qleast => k_is)
    (case k_qleast => k_is)
    (case a_qproduct => k_is)
    (case l_qproduct => k_is)
    (case c_qproduct => k_is)
    (case k_qproduct => k_is)
    (case a_qmembers => k_is)
    (case l_qmembers => k_is)
    (case c_qmembers => k_is)
    (case k_qmembers => k_is)
    (case a_qis_free => k_is)
    (case l_qis_free => k_is)
    (case c_qis_free => k_is)
    (case k_qis_free => k_is)
    (case a_qsets => k_is)
    (case l_qsets => k_is)
    (case c_qsets => k_is)
    (case k_qsets => k_is)
    (case a_qtold => k_is)
    (case l_qtold => k_is)
    (case c_qtold => k_is)
    (case k_qtold => k_is)
    (case a_qright => k_is)
    (case l_qright => k_is)
    (case c_qright => k_is)
    (case k_qright => k_is)
    (case a_law => k_is)
    (case l_law => k_is)
    (case c_law => k_is)
    (case k_law => k_is)
    (case hc_free_set_in => k_is)
    (case h5_free_set_in => first | rfl | decide +kernel)
    (case nt_free_set_in => first | kernel_rfl | rfl | decide +kernel)
    (case ht_free_set_in => first | rfl | decide +kernel)
    (case nd => decide)
    (case z_abs => k_is)
    (case z_all => k_is)
    (case z_any => k_is)
    (case z_bool => k_is)
    (case z_enumerate => k_is)
    (case z_int => k_is)
    (case z_isinstance => k_is)
    (case z_len => k_is)
    (case z_list => k_is)
    (case z_max => k_is)
    (case z_min => k_is)
    (case z_next => k_is)
    (case z_range => k_is)
    (case z_set => k_is)
    (case z_sorted => k_is)
    (case z_sum => k_is)
    (case z_tuple => k_is)
    (case z_zip => k_is)
    (case y_ALL => k_is)
    (case y_MAX_EXPONENT => k_is)
    (case y_MAX_LETTERS => k_is)
    (case y_MAX_MEMBERS => k_is)
    (case y_MAX_MEMBER_EXPONENT => k_is)
    (case y_MAX_PASSED => k_is)
#print axioms PySem.Challenge.cw_pureladders_k14_whole_free_sets_holds
