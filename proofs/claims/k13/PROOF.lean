import PyProof.Rows.All
import Wide.All
import OpenK.AllK
import Wide.FinOn
import HandS.ForMost
import HandS.Walk
import HandS.Zip
import HandS.IsInst
import HandS.SlotsOwn
import HandS.Lambda
import HandS.TupAny
import HandS.Style
import HandS.Flow
import HandS.EndBits
import HandS.SortInts
import HandS.Deep
import HandS.Wide
import KE.SortData
import HandS.Star
import HandS.Strs
import HandS.More
import HandS.Conv
import HandS.SetFor
import HandS.Gcd
import KE.KMathGC
import KE.KCallOwn
import KE.KFmtOwn
import PyProof.DictCompW
import HandS.DictComp
import KE.SortKeyHeap
import KE.KTupSum
import KE.KDictSum
import HandS.SortKw
import HandS.TupSets
import HandS.IterVal
import KE.GoesMore
import HandS.FStr
import HandS.Small
import HandS.TupMul
import HandS.Text
import PyProof.ListNew
import KE.KTupTruth
import PyProof.ListTruth
import PyProof.WalksMore
import PyProof.CollectWalk
import HandS.TupLen
import KE.KEqNest
import KE.KEqDict
import KE.KDictCopyH
import KE.KDictPairs
import KE.KDictKeyed
import KE.KDictOf
import KE.KOpsOwn
import KE.DatumOrd
import HandS.Defaults
import HandS.HeadHook2
import KE.KDictDisplayH
import KE.KDictWalk
import KE.GoesZip
import KE.KTurns
import KE.KDictZip
import PyProof.Rows.ZipGen
import KE.KDictItemsList
import PyProof.StrLaws
import HandS.Exc
import HandS.TryMany
import HandS.ExcOwn
import HandS.WordsExc
import HandS.ExcField
import HandS.EndTab
import KE.KExcSuper
import HandS.ExcInit
import PyProof.DictMoreH
import HandS.DictTup
import KE.DataMinMax
import HandS.Sort
import HandS.DictEq
import HandS.ExcValue
import PyProof.ReprRoads
import HandS.GenList
import PyProof.GenArm
import KE.KDictIter
import HandS.EndOwn
import KE.KExcLine
import KE.RegKSuper
import PySem.Challenge.RW_pureladders_k13_whole_steady_rows
set_option Elab.async false
set_option linter.all false
set_option maxRecDepth 100000
set_option maxHeartbeats 8100000
/-! Deep layer A: values by content (tuples, lists that no one changes), the heap of what is changed, judgements "up". -/
namespace DL
open PySem PySem.Spec PyProof.Rows L2

abbrev Fg := PySem.W.Frag
inductive DV where
  | non | bl (b : Bool) | int (i : Int) | str (x : Str) | ref (a : Addr) | ty (n : String)
  | tup (ds : List DV) | lst (ds : List DV) | scr (ns : List Int) | dK (ks : List Key) (ds : List DV) | dT (ks : List (List Key)) (ds : List DV) | ins (C : Addr) (ds : List DV) | exc (a d : Addr) (f : Str) (u : DV) | lam (f c : Addr) (q : Str) (ds : List DV) (vs : List V) | tpl (ds : List DV)
deriving Inhabited
/-- a changing thing: a list, a dict -/
inductive DO where
  | lst (ds : List DV)
  | dK (ks : List Key) (ds : List DV) | dT (ks : List (List Key)) (ds : List DV) | ins (C : Addr) (ds : List (Option DV)) | tbl (q : Str)
abbrev DG := Addr → Option DO
abbrev DS := List (Option DV)
def gup (g : DG) (p : Addr) (o : DO) : DG := fun b => if b = p then some o else g b
def gdel (g : DG) (p : Addr) : DG := fun b => if b = p then none else g b
theorem gup_same {g : DG} {p : Addr} {o : DO} : gup g p o p = some o := by unfold gup; rw [if_pos rfl]
theorem gup_ne {g : DG} {p b : Addr} {o : DO} (h : b ≠ p) : gup g p o b = g b := by unfold gup; rw [if_neg h]
theorem gup_gup {g : DG} {p : Addr} {o o' : DO} : gup (gup g p o) p o' = gup g p o' := by
  funext b; unfold gup; split <;> rfl

def FzL (_ : Fg) (H : Hp) (a : Addr) (xs : List V) : Prop := ∃ o, H a = some (.frz o (.lst xs))
theorem FzL.sq {K : Fg} {H : Hp} {a : Addr} {xs : List V} (h : FzL K H a xs) : SqL K H a xs := by
  obtain ⟨o, h⟩ := h
  exact .inl (.inr ⟨o, h⟩)

/-- a list of ints that no one changes, be it locked or a part of the fixed heap -/
def ScL (K : Fg) (H : Hp) (a : Addr) (ns : List Int) : Prop := FzL K H a (ns.map V.int) ∨
  ∃ (o : Obj) (its : Array Value) (n : Nat), K.lookup a = some o ∧ o.cls = .type "list" ∧ o.dict = none ∧ o.data = .seq its n ∧ its.size ≤ sizeLine ∧ Vals (ns.map V.int) its.toList
theorem ScL.sq {K : Fg} {H : Hp} {a : Addr} {ns : List Int} (h : ScL K H a ns) : SqL K H a (ns.map V.int) := by
  rcases h with h | h
  · exact h.sq
  · exact .inr h

/-- a dict that no one changes: its keys, its values -/
def FzK (_ : Fg) (H : Hp) (a : Addr) (ks : List Key) (vs : List V) : Prop := ∃ o kvs, H a = some (.frz o (.dK kvs)) ∧ kvs.map (·.1) = ks ∧ kvs.map (·.2) = vs
def FzT (_ : Fg) (H : Hp) (a : Addr) (ks : List (List Key)) (vs : List V) : Prop := ∃ o kvs, H a = some (.frz o (.dT kvs)) ∧ kvs.map (·.1) = ks ∧ kvs.map (·.2) = vs
/-- a tuple whose whole object is known: it has no dict of its own -/
def TpH (_ : Fg) (H : Hp) (a : Addr) (xs : List V) : Prop := ∃ o, H a = some (.frz o (.tup xs)) ∧ o.dict = none
theorem TpH.sq {K : Fg} {H : Hp} {a : Addr} {xs : List V} (h : TpH K H a xs) : SqT K H a xs := by
  obtain ⟨o, h, _⟩ := h
  exact .inl (.inr ⟨o, h⟩)
/-- an instance with slots that no one changes any more -/
def FzI (_ : Fg) (H : Hp) (a C : Addr) (vs : List (Option V)) : Prop := ∃ od dx, H a = some (.frz od (SlX.SlO a C dx vs)) ∧ H dx = some (.xd [])
mutual
inductive RD (K : Fg) (H : Hp) : DV → V → Prop
  | non : RD K H .non .non
  | bl (b : Bool) : RD K H (.bl b) (.bl b)
  | int (i : Int) : RD K H (.int i) (.int i)
  | str (x : Str) : RD K H (.str x) (.str x)
  | ref (a : Addr) : RD K H (.ref a) (.ref a)
  | ty (n : String) : RD K H (.ty n) (.ty n)
  | tup {a : Addr} {xs : List V} {ds : List DV} : H a = some (.tup xs) → RDs K H ds xs → RD K H (.tup ds) (.ref a)
  | lst {a : Addr} {xs : List V} {ds : List DV} : FzL K H a xs → RDs K H ds xs → RD K H (.lst ds) (.ref a)
  | scr {a : Addr} {ns : List Int} : ScL K H a ns → RD K H (.scr ns) (.ref a)
  | dK {a : Addr} {ks : List Key} {vs : List V} {ds : List DV} : FzK K H a ks vs → RDs K H ds vs → RD K H (.dK ks ds) (.ref a)
  | dT {a : Addr} {ks : List (List Key)} {vs : List V} {ds : List DV} : FzT K H a ks vs → RDs K H ds vs → RD K H (.dT ks ds) (.ref a)
  | ins {a C : Addr} {vs : List V} {ds : List DV} : FzI K H a C (vs.map some) → RDs K H ds vs → RD K H (.ins C ds) (.ref a)
  | exc {a d : Addr} {f : Str} {u : DV} {v : V} : H d = some (.xd [(f, v)]) → RD K H u v → RD K H (.exc a d f u) (.ref a)
  | lam {f c : Addr} {q : Str} {ds : List DV} {vs : List V} : H c = some (LamX.CodeO c q) → RDs K H ds vs → RD K H (.lam f c q ds vs) (.ref f)
  | tpl {a : Addr} {xs : List V} {ds : List DV} : TpH K H a xs → RDs K H ds xs → RD K H (.tpl ds) (.ref a)
inductive RDs (K : Fg) (H : Hp) : List DV → List V → Prop
  | nil : RDs K H [] []
  | cons {d : DV} {v : V} {ds : List DV} {vs : List V} : RD K H d v → RDs K H ds vs → RDs K H (d :: ds) (v :: vs)
end
/-- tuples and locked things stay -/
structure Kp (H H' : Hp) : Prop where
  t : ∀ b xs, H b = some (.tup xs) → H' b = some (.tup xs)
  f : ∀ b o u, H b = some (.frz o u) → H' b = some (.frz o u)
  x : ∀ b fs, H b = some (.xd fs) → H' b = some (.xd fs)
  e : ∀ b q, H b = some (LamX.CodeO b q) → H' b = some (LamX.CodeO b q)
theorem Kp.sqT {K : Fg} {H H' : Hp} {a : Addr} {xs : List V} (k : Kp H H') (h : SqT K H a xs) : SqT K H' a xs := by
  rcases h with (h | ⟨o, h⟩) | h
  · exact .inl (.inl (k.t _ _ h))
  · exact .inl (.inr ⟨o, k.f _ _ _ h⟩)
  · exact .inr h
theorem Kp.fz {K : Fg} {H H' : Hp} {a : Addr} {xs : List V} (k : Kp H H') (h : FzL K H a xs) : FzL K H' a xs := by
  obtain ⟨o, h⟩ := h
  exact ⟨o, k.f _ _ _ h⟩
theorem Kp.sc {K : Fg} {H H' : Hp} {a : Addr} {ns : List Int} (k : Kp H H') (h : ScL K H a ns) : ScL K H' a ns := by
  rcases h with h | h
  · exact .inl (k.fz h)
  · exact .inr h
theorem Kp.fzK {K : Fg} {H H' : Hp} {a : Addr} {ks : List Key} {vs : List V} (k : Kp H H') (h : FzK K H a ks vs) : FzK K H' a ks vs := by
  obtain ⟨o, kvs, h, e⟩ := h
  exact ⟨o, kvs, k.f _ _ _ h, e⟩
theorem Kp.fzT {K : Fg} {H H' : Hp} {a : Addr} {ks : List (List Key)} {vs : List V} (k : Kp H H') (h : FzT K H a ks vs) : FzT K H' a ks vs := by
  obtain ⟨o, kvs, h, e⟩ := h
  exact ⟨o, kvs, k.f _ _ _ h, e⟩
theorem Kp.fzI {K : Fg} {H H' : Hp} {a C : Addr} {vs : List (Option V)} (k : Kp H H') (h : FzI K H a C vs) : FzI K H' a C vs := by
  obtain ⟨od, dx, h, e⟩ := h
  exact ⟨od, dx, k.f _ _ _ h, k.x _ _ e⟩
theorem Kp.tp {K : Fg} {H H' : Hp} {a : Addr} {xs : List V} (k : Kp H H') (h : TpH K H a xs) : TpH K H' a xs := by
  obtain ⟨o, h, e⟩ := h
  exact ⟨o, k.f _ _ _ h, e⟩
mutual
theorem RD.mono {K : Fg} {H H' : Hp} (k : Kp H H') : ∀ {d : DV} {v : V}, RD K H d v → RD K H' d v
  | _, _, .non => .non
  | _, _, .bl b => .bl b
  | _, _, .int i => .int i
  | _, _, .str x => .str x
  | _, _, .ref a => .ref a
  | _, _, .ty n => .ty n
  | _, _, .tup h r => .tup (k.t _ _ h) (RDs.mono k r)
  | _, _, .lst h r => .lst (k.fz h) (RDs.mono k r)
  | _, _, .scr h => .scr (k.sc h)
  | _, _, .dK h r => .dK (k.fzK h) (RDs.mono k r)
  | _, _, .dT h r => .dT (k.fzT h) (RDs.mono k r)
  | _, _, .ins h r => .ins (k.fzI h) (RDs.mono k r)
  | _, _, .exc h r => .exc (k.x _ _ h) (RD.mono k r)
  | _, _, .lam h r => .lam (k.e _ _ h) (RDs.mono k r)
  | _, _, .tpl h r => .tpl (k.tp h) (RDs.mono k r)
theorem RDs.mono {K : Fg} {H H' : Hp} (k : Kp H H') : ∀ {ds : List DV} {vs : List V}, RDs K H ds vs → RDs K H' ds vs
  | _, _, .nil => .nil
  | _, _, .cons r t => .cons (RD.mono k r) (RDs.mono k t)
end
section
variable {K : Fg} {H H' : Hp}
theorem RDs.length : ∀ {ds : List DV} {vs : List V}, RDs K H ds vs → ds.length = vs.length
  | _, _, .nil => rfl
  | _, _, .cons _ t => by rw [List.length_cons, List.length_cons, RDs.length t]
theorem RDs.get : ∀ {ds : List DV} {vs : List V} {i : Nat} {d : DV}, RDs K H ds vs → ds[i]? = some d → ∃ v, vs[i]? = some v ∧ RD K H d v
  | _, _, _, _, .nil, e => by simp at e
  | _, _, 0, _, .cons r _, e => by simp at e; subst e; exact ⟨_, rfl, r⟩
  | _, _, i + 1, d, .cons _ t, e => by
    obtain ⟨u, h1, h2⟩ := RDs.get (i := i) (d := d) t (by simpa using e)
    exact ⟨u, by simpa using h1, h2⟩
theorem RDs.append : ∀ {ds es : List DV} {vs us : List V}, RDs K H ds vs → RDs K H es us → RDs K H (ds ++ es) (vs ++ us)
  | _, _, _, _, .nil, s => s
  | _, _, _, _, .cons r t, s => .cons r (RDs.append t s)
theorem RDs.one {d : DV} {v : V} (r : RD K H d v) : RDs K H [d] [v] := .cons r .nil
theorem RDs.take : ∀ {ds : List DV} {vs : List V} (n : Nat), RDs K H ds vs → RDs K H (ds.take n) (vs.take n)
  | _, _, 0, _ => .nil
  | _, _, _ + 1, .nil => .nil
  | _, _, n + 1, .cons r t => .cons r (RDs.take n t)
theorem RDs.drop : ∀ {ds : List DV} {vs : List V} (n : Nat), RDs K H ds vs → RDs K H (ds.drop n) (vs.drop n)
  | _, _, 0, r => r
  | _, _, _ + 1, .nil => .nil
  | _, _, n + 1, .cons _ t => RDs.drop n t
theorem RDs.set {d : DV} {v : V} (r : RD K H d v) : ∀ {ds : List DV} {vs : List V} (i : Nat), RDs K H ds vs → RDs K H (ds.set i d) (vs.set i v)
  | _, _, _, .nil => .nil
  | _, _, 0, .cons _ t => .cons r t
  | _, _, i + 1, .cons q t => .cons q (RDs.set r i t)
theorem RDs.dropLast {ds : List DV} {vs : List V} (h : RDs K H ds vs) : RDs K H ds.dropLast vs.dropLast := by
  rw [List.dropLast_eq_take, List.dropLast_eq_take, h.length]; exact h.take _
theorem RDs.ints : ∀ {ns : List Int} {vs : List V}, RDs K H (ns.map DV.int) vs → vs = ns.map V.int
  | [], _, h => by cases h; rfl
  | n :: r, _, h => by
    cases h with
    | cons h1 h2 => cases h1; rw [RDs.ints h2]; rfl
theorem RDs.ofInts : ∀ ns : List Int, RDs K H (ns.map DV.int) (ns.map V.int)
  | [] => .nil
  | n :: r => .cons (.int n) (RDs.ofInts r)
theorem RDs.bls : ∀ {ns : List Bool} {vs : List V}, RDs K H (ns.map DV.bl) vs → vs = ns.map V.bl
  | [], _, h => by cases h; rfl
  | n :: r, _, h => by
    cases h with
    | cons h1 h2 => cases h1; rw [RDs.bls h2]; rfl
theorem RDs.inj1 {d : DV} {vs : List V} (h : RDs K H [d] vs) : ∃ v, vs = [v] ∧ RD K H d v := by
  cases h with
  | cons h1 h2 => cases h2; exact ⟨_, rfl, h1⟩
end

/-- the slots that are set -/
def SlD (K : Fg) (H : Hp) (ds : List (Option DV)) (vs : List (Option V)) : Prop := ds.length = vs.length ∧ ∀ (i : Nat) (d : DV), ds[i]? = some (some d) → ∃ v, vs[i]? = some (some v) ∧ RD K H d v
theorem SlD.mono {K : Fg} {H H' : Hp} {ds : List (Option DV)} {vs : List (Option V)} (k : Kp H H') (h : SlD K H ds vs) : SlD K H' ds vs := ⟨h.1, fun i d e => by
  obtain ⟨v, h1, h2⟩ := h.2 i d e
  exact ⟨v, h1, h2.mono k⟩⟩
def RO (K : Fg) (H : Hp) (a : Addr) : DO → Prop
  | .lst ds => ∃ vs, H a = some (.lst vs) ∧ RDs K H ds vs
  | .dK ks ds => ∃ kvs, H a = some (.dK kvs) ∧ kvs.map (·.1) = ks ∧ RDs K H ds (kvs.map (·.2))
  | .dT ks ds => ∃ kvs, H a = some (.dT kvs) ∧ kvs.map (·.1) = ks ∧ RDs K H ds (kvs.map (·.2))
  | .ins C ds => ∃ dx vs, dx ≠ a ∧ SlX.Slt H a C dx vs ∧ SlD K H ds vs
  | .tbl q => LamX.TabS H a q
/-- what g may tell of -/
def Trk (p : Addr) : Option HO → Prop
  | some (.lst _) => True
  | some (.dK _) => True
  | some (.dT _) => True
  | some (.set _ _) => True
  | some (.ins _ _ _) => True
  | some (.tbl _) => True
  | some (.ext f) => ∀ q, HO.ext f ≠ LamX.CodeO p q
  | _ => False
/-- what tells the class of the object at a is no code object -/
theorem code_ne {a : Addr} {q : Str} {φ : Heap → Prop} (hc : ∀ hp o, φ hp → hp.get? a = some o → o.cls ≠ .none) : HO.ext φ ≠ LamX.CodeO a q := fun z => by
  unfold LamX.CodeO at z
  injection z with z
  let ob : Obj := { cls := .none, data := .fields #[.none, .str q 0] }
  have hg : (⟨(List.replicate (a + 1) ob).toArray, {}⟩ : Heap).get? a = some ob := by
    unfold Heap.get?
    have e : ((List.replicate (a + 1) ob).toArray)[a]? = some ob := by simp
    rw [show (⟨(List.replicate (a + 1) ob).toArray, {}⟩ : Heap).objs = (List.replicate (a + 1) ob).toArray from rfl, e]
  have h2 := congrFun z ⟨(List.replicate (a + 1) ob).toArray, {}⟩
  have h3 : ∃ (oc : Obj) (vs : Array Value) (t : Tok), (⟨(List.replicate (a + 1) ob).toArray, {}⟩ : Heap).get? a = some oc ∧ oc.data = .fields vs ∧ vs[1]? = some (.str q t) := ⟨ob, _, 0, hg, rfl, rfl⟩
  rw [← h2] at h3
  exact hc _ _ h3 hg rfl
theorem slO_trk {a C dx : Addr} {vs : List (Option V)} : Trk a (some (SlX.SlO a C dx vs)) := fun q => code_ne fun hp o ⟨sl, e, _⟩ e2 z => by
  rw [e] at e2
  have e3 := congrArg Obj.cls (Option.some.inj e2)
  rw [z] at e3
  have e4 : Value.ref C = Value.none := e3
  cases e4
/-- the dict of an instance that has no slot yet -/
def OwnO : HO → Prop
  | .own _ => True
  | .tbl _ => True
  | _ => False
def RG (K : Fg) (H : Hp) (g : DG) : Prop := ∀ a o, g a = some o → RO K H a o
/-- behind a step: what was tracked and is no one's of g stands as it was, and is no one's of g' -/
def Ext (g : DG) (H : Hp) (g' : DG) (H' : Hp) : Prop := ∀ a o, H a = some o → g a = none → ¬ OwnO o → H' a = some o ∧ g' a = none
section
variable {K : Fg} {g g' g1 g2 : DG} {H H' H1 H2 : Hp} {p : Addr}
theorem RO.some {a : Addr} {o : DO} (r : RO K H a o) : ∃ u, H a = some u ∧ Trk a (Option.some u) := by
  cases o with
  | lst ds => obtain ⟨vs, e, _⟩ := r; exact ⟨_, e, trivial⟩
  | dK ks ds => obtain ⟨vs, e, _⟩ := r; exact ⟨_, e, trivial⟩
  | dT ks ds => obtain ⟨vs, e, _⟩ := r; exact ⟨_, e, trivial⟩
  | ins C ds =>
    obtain ⟨dx, vs, _, h | h, _⟩ := r
    · exact ⟨_, h.1, trivial⟩
    · exact ⟨_, h.1, slO_trk⟩
  | tbl q => obtain ⟨ps, e, _⟩ := r; exact ⟨_, e, trivial⟩
theorem RG.none (r : RG K H g) (h : H p = Option.none) : g p = Option.none := by
  cases e : g p with
  | none => rfl
  | some o => obtain ⟨vs, q, _⟩ := (r p o e).some; rw [h] at q; cases q
theorem Ext.refl : Ext g H g H := fun _ _ h n _ => ⟨h, n⟩
theorem Ext.trans (a : Ext g H g1 H1) (b : Ext g1 H1 g2 H2) : Ext g H g2 H2 := fun c o h n w => by
  obtain ⟨h1, n1⟩ := a c o h n w
  exact b c o h1 n1 w
theorem Ext.kp (e : Ext g H g' H') (r : RG K H g) : Kp H H' := by
  have nt : ∀ b o, H b = some o → ¬ Trk b (Option.some o) → g b = Option.none := fun b o q n => by
    cases z : g b with
    | none => rfl
    | some u => obtain ⟨vs, q', m⟩ := (r b u z).some; rw [q] at q'; cases q'; exact absurd m n
  exact ⟨fun b xs q => (e b _ q (nt b _ q fun z => z) fun z => z).1, fun b o u q => (e b _ q (nt b _ q fun z => z) fun z => z).1, fun b fs q => (e b _ q (nt b _ q fun z => z) fun z => z).1, fun b n q => (e b _ q (nt b _ q fun z => z n rfl) fun z => z).1⟩
theorem Kp.fresh {o : HO} (h : H p = Option.none) : Kp H (upd H p o) :=
  ⟨fun b xs q => by rw [upd_ne (ne_of_none q h)]; exact q, fun b x u q => by rw [upd_ne (ne_of_none q h)]; exact q, fun b fs q => by rw [upd_ne (ne_of_none q h)]; exact q, fun b n q => by rw [upd_ne (ne_of_none q h)]; exact q⟩
theorem Kp.refl : Kp H H := ⟨fun _ _ h => h, fun _ _ _ h => h, fun _ _ h => h, fun _ _ h => h⟩
theorem Kp.trans (a : Kp H H1) (b : Kp H1 H2) : Kp H H2 := ⟨fun c xs h => b.t _ _ (a.t c xs h), fun c o u h => b.f _ _ _ (a.f c o u h), fun c fs h => b.x _ _ (a.x c fs h), fun c n h => b.e _ _ (a.e c n h)⟩
theorem RO.keep {a : Addr} {o : DO} (k : Kp H H') (e : H' a = H a) (r : RO K H a o) : RO K H' a o := by
  cases o with
  | lst ds => obtain ⟨vs, q, r⟩ := r; exact ⟨vs, e.trans q, r.mono k⟩
  | dK ks ds => obtain ⟨vs, q, x, r⟩ := r; exact ⟨vs, e.trans q, x, r.mono k⟩
  | dT ks ds => obtain ⟨vs, q, x, r⟩ := r; exact ⟨vs, e.trans q, x, r.mono k⟩
  | ins C ds =>
    obtain ⟨dx, vs, ne, h | h, r⟩ := r
    · exact ⟨dx, vs, ne, .inl ⟨e.trans h.1, h.2⟩, r.mono k⟩
    · exact ⟨dx, vs, ne, .inr ⟨e.trans h.1, k.x _ _ h.2⟩, r.mono k⟩
  | tbl q =>
    obtain ⟨ps, e1, e2, e3⟩ := r
    refine ⟨ps, e.trans e1, e2, fun pos cv hc => ?_⟩
    obtain ⟨c, z1, z2⟩ := e3 pos cv hc
    exact ⟨c, z1, k.e _ _ z2⟩
theorem RG.fresh {o : HO} (r : RG K H g) (h : H p = Option.none) : RG K (upd H p o) g := fun a u e => by
  obtain ⟨vs, q, _⟩ := (r a u e).some
  exact (r a u e).keep (Kp.fresh h) (upd_ne (ne_of_none q h))
theorem Ext.fresh {o : HO} (r : RG K H g) (h : H p = Option.none) : Ext g H g (upd H p o) := fun a u e n _ => ⟨by rw [upd_ne (ne_of_none e h)]; exact e, n⟩
/-- a new thing that changes -/
theorem RG.new {ds : List DV} {vs : List V} (r : RG K H g) (h : H p = Option.none) (rd : RDs K H ds vs) : RG K (upd H p (.lst vs)) (gup g p (.lst ds)) := fun a u e => by
  by_cases ha : a = p
  · subst ha
    rw [gup_same] at e; cases e
    exact ⟨vs, upd_same, rd.mono (Kp.fresh h)⟩
  · rw [gup_ne ha] at e
    exact (r a u e).keep (Kp.fresh h) (upd_ne ha)
theorem Ext.new {u : DO} {o : HO} (h : H p = Option.none) : Ext g H (gup g p u) (upd H p o) := fun a x e n _ => by
  have ha := ne_of_none e h
  exact ⟨by rw [upd_ne ha]; exact e, by rw [gup_ne ha]; exact n⟩
/-- a thing changed -/
theorem Kp.mut {o : HO} (mu : Trk p (H p)) : Kp H (upd H p o) :=
  ⟨fun b xs q => by rw [upd_ne (fun z => by subst z; rw [q] at mu; exact mu)]; exact q, fun b x u q => by rw [upd_ne (fun z => by subst z; rw [q] at mu; exact mu)]; exact q, fun b fs q => by rw [upd_ne (fun z => by subst z; rw [q] at mu; exact mu)]; exact q, fun b n q => by rw [upd_ne (fun z => by subst z; rw [q] at mu; exact mu n rfl)]; exact q⟩
theorem RG.set {xs ds : List DV} {vs : List V} (r : RG K H g) (h : g p = Option.some (.lst xs)) (rd : RDs K H ds vs) : RG K (upd H p (.lst vs)) (gup g p (.lst ds)) := fun a u e => by
  obtain ⟨ws, q, m⟩ := (r p _ h).some
  have k : Kp H (upd H p (.lst vs)) := Kp.mut (by rw [q]; exact m)
  by_cases ha : a = p
  · subst ha
    rw [gup_same] at e; cases e
    exact ⟨vs, upd_same, rd.mono k⟩
  · rw [gup_ne ha] at e
    exact (r a u e).keep k (upd_ne ha)
theorem RG.setK {v : DO} {ks : List Key} {ds : List DV} {kvs : List (Key × V)} (r : RG K H g) (h : g p = Option.some v) (ek : kvs.map (·.1) = ks) (rd : RDs K H ds (kvs.map (·.2))) :
    RG K (upd H p (.dK kvs)) (gup g p (.dK ks ds)) := fun a u e => by
  obtain ⟨ws, q, m⟩ := (r p _ h).some
  have k : Kp H (upd H p (.dK kvs)) := Kp.mut (by rw [q]; exact m)
  by_cases ha : a = p
  · subst ha
    rw [gup_same] at e; cases e
    exact ⟨kvs, upd_same, ek, rd.mono k⟩
  · rw [gup_ne ha] at e
    exact (r a u e).keep k (upd_ne ha)
theorem RG.newK {ks : List Key} {ds : List DV} {kvs : List (Key × V)} (r : RG K H g) (h : H p = Option.none) (ek : kvs.map (·.1) = ks) (rd : RDs K H ds (kvs.map (·.2))) :
    RG K (upd H p (.dK kvs)) (gup g p (.dK ks ds)) := fun a u e => by
  by_cases ha : a = p
  · subst ha
    rw [gup_same] at e; cases e
    exact ⟨kvs, upd_same, ek, rd.mono (Kp.fresh h)⟩
  · rw [gup_ne ha] at e
    exact (r a u e).keep (Kp.fresh h) (upd_ne ha)
theorem Ext.set {u v : DO} {o : HO} (h : g p = Option.some v) : Ext g H (gup g p u) (upd H p o) := fun a x e n _ => by
  have ha : a ≠ p := fun z => by rw [z, h] at n; cases n
  exact ⟨by rw [upd_ne ha]; exact e, by rw [gup_ne ha]; exact n⟩
/-- a smaller heap -/
def Sub (g' g : DG) : Prop := ∀ a, g' a = g a ∨ g' a = Option.none
theorem Sub.refl : Sub g g := fun _ => .inl rfl
theorem Sub.gup {o : DO} (h : g p = Option.none) : Sub g (gup g p o) := fun a => by
  by_cases ha : a = p
  · subst ha; exact .inr h
  · exact .inl (gup_ne ha).symm
theorem Sub.trans (a : Sub g2 g1) (b : Sub g1 g) : Sub g2 g := fun c => by
  rcases a c with h | h
  · rcases b c with h' | h'
    · exact .inl (h.trans h')
    · exact .inr (h.trans h')
  · exact .inr h
theorem Sub.rg (s : Sub g' g) (r : RG K H g) : RG K H g' := fun a o e => by
  rcases s a with h | h
  · exact r a o (h.symm.trans e)
  · rw [h] at e; cases e
theorem Sub.ext (s : Sub g2 g1) (e : Ext g H g1 H1) : Ext g H g2 H1 := fun a o h n w => by
  obtain ⟨h1, n1⟩ := e a o h n w
  refine ⟨h1, ?_⟩
  rcases s a with q | q
  · rw [q]; exact n1
  · exact q
end
def RS (K : Fg) (H : Hp) (δ : DS) (σ : L2.St) : Prop := δ.length = σ.length ∧ ∀ (i : Nat) (d : DV), δ[i]? = some (some d) → ∃ v, σ[i]? = some (some v) ∧ RD K H d v
section
variable {K : Fg} {H H' : Hp} {δ : DS} {σ : L2.St}
theorem RS.mono (k : Kp H H') (r : RS K H δ σ) : RS K H' δ σ := ⟨r.1, fun i d e => by
  obtain ⟨v, h1, h2⟩ := r.2 i d e
  exact ⟨v, h1, h2.mono k⟩⟩
theorem RS.set {d : DV} {v : V} (r : RS K H δ σ) (i : Nat) (rd : RD K H d v) : RS K H (δ.set i (some d)) (σ.set i (some v)) := by
  refine ⟨by rw [List.length_set, List.length_set]; exact r.1, fun j e h => ?_⟩
  by_cases hj : i = j
  · subst hj
    by_cases hi : i < δ.length
    · rw [List.getElem?_set_self hi] at h; cases h
      exact ⟨v, by rw [List.getElem?_set_self (by rw [← r.1]; exact hi)], rd⟩
    · rw [List.getElem?_eq_none (by rw [List.length_set]; omega)] at h; cases h
  · rw [List.getElem?_set_ne hj] at h ⊢
    exact r.2 j e h
theorem RS.unset (r : RS K H δ σ) (i : Nat) : RS K H (δ.set i none) (σ.set i none) := by
  refine ⟨by rw [List.length_set, List.length_set]; exact r.1, fun j e h => ?_⟩
  by_cases hj : i = j
  · subst hj
    by_cases hi : i < δ.length
    · rw [List.getElem?_set_self hi] at h; cases h
    · rw [List.getElem?_eq_none (by rw [List.length_set]; omega)] at h; cases h
  · rw [List.getElem?_set_ne hj] at h ⊢
    exact r.2 j e h
end
/-- slots by number, to be reckoned -/
def nth : DS → Nat → Option DV
  | [], _ => none
  | x :: _, 0 => x
  | _ :: r, n + 1 => nth r n
theorem nth_get : ∀ {δ : DS} {i : Nat} {d : DV}, nth δ i = some d → δ[i]? = some (some d)
  | [], _, _, h => by simp [nth] at h
  | x :: _, 0, d, h => by simpa [nth] using h
  | _ :: r, n + 1, d, h => by simpa using nth_get (δ := r) (i := n) (by simpa [nth] using h)

/-! ### transformers over contents -/
abbrev TDE := DS → DG → (DV → DG → Prop) → Prop
abbrev TDT := DS → DG → (Bool → DG → Prop) → Prop
abbrev TDA := DS → DG → (List DV → DG → Prop) → Prop
structure DEnds where
  nx : DS → DG → Prop
  rt : DV → DG → Prop
  bk : DS → DG → Prop := fun _ _ => False
  ct : DS → DG → Prop := fun _ _ => False
abbrev TDS := DEnds → DS → DG → Prop
abbrev TDI := DS → DG → (List DV → DG → Prop) → Prop
abbrev SpD := List DV → DG → (DV → DG → Prop) → Prop

def upE (K : Fg) (t : TDE) : TE := fun σ H Q => ∃ δ g P, RS K H δ σ ∧ RG K H g ∧ t δ g P ∧ ∀ d g' v H', Ext g H g' H' → RG K H' g' → RD K H' d v → P d g' → Q v H'
def upT (K : Fg) (t : TDT) : TT := fun σ H Q => ∃ δ g P, RS K H δ σ ∧ RG K H g ∧ t δ g P ∧ ∀ b g' H', Ext g H g' H' → RG K H' g' → P b g' → Q b H'
def upA (K : Fg) (t : TDA) : TA := fun σ H Q => ∃ δ g P, RS K H δ σ ∧ RG K H g ∧ t δ g P ∧ ∀ ds g' vs H', Ext g H g' H' → RG K H' g' → RDs K H' ds vs → P ds g' → Q vs H'
def upS (K : Fg) (t : TDS) : TS := fun D σ H => ∃ δ g E, RS K H δ σ ∧ RG K H g ∧ t E δ g ∧
  (∀ δ' g' σ' H', Ext g H g' H' → RG K H' g' → RS K H' δ' σ' → E.nx δ' g' → D.nx σ' H') ∧
  (∀ d g' v H', Ext g H g' H' → RG K H' g' → RD K H' d v → E.rt d g' → D.rt v H') ∧
  (∀ δ' g' σ' H', Ext g H g' H' → RG K H' g' → RS K H' δ' σ' → E.bk δ' g' → D.bk σ' H') ∧
  (∀ δ' g' σ' H', Ext g H g' H' → RG K H' g' → RS K H' δ' σ' → E.ct δ' g' → D.ct σ' H')
def upSp (K : Fg) (sp : SpD) : Sp := fun vs H Q _ => ∃ ds g P, RDs K H ds vs ∧ RG K H g ∧ sp ds g P ∧ ∀ d g' v H', Ext g H g' H' → RG K H' g' → RD K H' d v → P d g' → Q v H'
/-- a step of a walk lays one new object, or two, or none -/
inductive Grw (H H' : Hp) : Prop where
  | inl (h : H' = H)
  | inr (h : ∃ p o, H p = Option.none ∧ H' = upd H p o)
  | two (h : ∃ p o p2 o2, H p = Option.none ∧ H p2 = Option.none ∧ p2 ≠ p ∧ H' = upd (upd H p o) p2 o2)
/-- what a walk gives, from the heap H0 on -/
structure DWalk (K : Fg) (J : It) (ds : List DV) (H0 : Hp) : Prop where
  goes : ∀ i H, i < ds.length → Kp H0 H → J.go i H
  stops : ∀ H, Kp H0 H → J.stop ds.length H
  yields : ∀ i H x H' d, ds[i]? = some d → Kp H0 H → J.yld i H x H' → Grw H H' ∧ RD K H' d x
def upI (K : Fg) (t : TDI) : TI := fun σ H R => ∃ δ g P, RS K H δ σ ∧ RG K H g ∧ t δ g P ∧ ∀ ds g' J H', Ext g H g' H' → RG K H' g' → DWalk K J ds H' → P ds g' → R J H'

theorem PE_weak {X : Cx} {e : Expr} {t t' : TE} (h : PE X e t) (w : ∀ σ H Q, t' σ H Q → t σ H Q) : PE X e t' := ⟨fun pins s σ H Q I q => h.run pins s σ H Q I (w σ H Q q)⟩
theorem PT_weak {X : Cx} {e : Expr} {t t' : TT} (h : PT X e t) (w : ∀ σ H Q, t' σ H Q → t σ H Q) : PT X e t' := ⟨fun pins s σ H Q I q => h.run pins s σ H Q I (w σ H Q q)⟩
theorem PW_weak {X : Cx} {e : Expr} {t t' : TT} (h : PW X e t) (w : ∀ σ H Q, t' σ H Q → t σ H Q) : PW X e t' := ⟨fun wh pins s σ H Q I q => h.run wh pins s σ H Q I (w σ H Q q)⟩
theorem PA_weak {X : Cx} {e : List Expr} {t t' : TA} (h : PA X e t) (w : ∀ σ H Q, t' σ H Q → t σ H Q) : PA X e t' := ⟨fun ps pins s σ H Q I q => h.run ps pins s σ H Q I (w σ H Q q)⟩
theorem PS_weak {X : Cx} {e : Stmt} {t t' : TS} (h : PS X e t) (w : ∀ D σ H, t' D σ H → t D σ H) : PS X e t' := ⟨fun pins s σ H D I q => h.run pins s σ H D I (w D σ H q)⟩
theorem PSs_weak {X : Cx} {e : List Stmt} {t t' : TS} (h : PSs X e t) (w : ∀ D σ H, t' D σ H → t D σ H) : PSs X e t' := ⟨fun pins s σ H D I q => h.run pins s σ H D I (w D σ H q)⟩
theorem PI_weak {X : Cx} {tg e : Expr} {t t' : TI} (h : PI X tg e t) (w : ∀ σ H Q, t' σ H Q → t σ H Q) : PI X tg e t' := ⟨fun pins s σ H Q I q => h.run pins s σ H Q I (w σ H Q q)⟩

/-! ### a new list may be locked at once -/
def fz (Q : VK) : VK := fun v H => Q v H ∨ ∃ p u, v = .ref p ∧ H p = some u ∧ Mut (some u) ∧ ∀ o, Q v (upd H p (.frz o u))
section
variable {X : Cx}
theorem EP_fz {pins : List (Addr × Obj)} {σ : L2.St} {Q : VK} {u : Value} {s : Shared} (h : EP X pins σ (fz Q) u s) : EP X pins σ Q u s := by
  obtain ⟨v, H, I, r, q⟩ := h
  rcases q with q | ⟨p, vs, rfl, hp, m, q⟩
  · exact ⟨v, H, I, r, q⟩
  · obtain ⟨o, I'⟩ := I.lock hp m
    exact ⟨_, _, I', r, q o⟩
theorem PE_fz {e : Expr} {t : TE} (h : PE X e t) : PE X e (fun σ H Q => t σ H (fz Q)) := ⟨fun pins s σ H Q I q => thn (h.run pins s σ H (fz Q) I q) fun _ _ z => EP_fz z⟩
theorem OpR_fz {f : Value → Value → Sem Value} {r : R2} (h : OpR X f r) : OpR X f (fun x y H Q => r x y H (fz Q)) := fun pins s σ H x y v u Q I rx ry q => thn (h pins s σ H x y v u (fz Q) I rx ry q) fun _ _ z => EP_fz z
theorem CallR_fz {f : Value} {r : List V → Hp → VK → Prop} (h : CallR X f r) : CallR X f (fun xs H Q => r xs H (fz Q)) := fun pins s σ H xs us Q I rx q => thn (h pins s σ H xs us (fz Q) I rx q) fun _ _ z => EP_fz z
theorem SlR_fz {r : V → Option Int → Option Int → Hp → VK → Prop} (h : SlR X r) : SlR X (fun x lo hi H Q => r x lo hi H (fz Q)) := by
  intro pins s σ H x v vl vu lo hi sl Q I rx hs pl pu q
  obtain ⟨T, id, h1, h2, h3⟩ := h pins s σ H x v vl vu lo hi sl (fz Q) I rx hs pl pu q
  exact ⟨T, id, h1, h2, thn h3 fun _ _ z => EP_fz z⟩
end
/-- a fresh list, locked: by content -/
theorem fz_new {K : Fg} {g : DG} {H : Hp} {p : Addr} {ds : List DV} {vs : List V} {Q : VK} {P : DV → DG → Prop} (rg : RG K H g) (hp : H p = none) (rd : RDs K H ds vs)
    (k : ∀ d g' v H', Ext g H g' H' → RG K H' g' → RD K H' d v → P d g' → Q v H') (h : P (.lst ds) g) : fz Q (.ref p) (upd H p (.lst vs)) := by
  refine .inr ⟨p, .lst vs, rfl, upd_same, trivial, fun o => ?_⟩
  rw [upd_upd]
  exact k _ g _ _ (Ext.fresh rg hp) (rg.fresh hp) (.lst ⟨o, upd_same⟩ (rd.mono (Kp.fresh hp))) h
theorem tup_new {K : Fg} {g : DG} {H : Hp} {p : Addr} {ds : List DV} {vs : List V} {Q : VK} {P : DV → DG → Prop} (rg : RG K H g) (hp : H p = none) (rd : RDs K H ds vs)
    (k : ∀ d g' v H', Ext g H g' H' → RG K H' g' → RD K H' d v → P d g' → Q v H') (h : P (.tup ds) g) : Q (.ref p) (upd H p (.tup vs)) :=
  k _ g _ _ (Ext.fresh rg hp) (rg.fresh hp) (.tup upd_same (rd.mono (Kp.fresh hp))) h
end DL

/-! Deep layer B: the rules for expressions over contents. -/
namespace DL
open PySem PySem.Spec PyProof.Rows L2
section
variable {X : Cx} {pos : Pos}

/-! ### names, constants -/
def dVar (i : Nat) : TDE := fun δ g Q => match nth δ i with | some d => Q d g | none => False
def dC (d : DV) : TDE := fun _ g Q => Q d g
theorem pdv (i : Nat) {x : Str} {p : Pos} (hN : X.N[i]? = some x := by rfl) (hv : Vis X.env.scope x := by first | exact Or.inl rfl | exact Or.inr (Or.inl rfl) | exact Or.inr (Or.inr rfl)) (hd : (x == ("__debug__" : Str)) = false := by decide)
    (hcd : (x == ("__classdict__" : Str)) = false := by decide) : PE X (.Name x p) (upE X.K (dVar i)) := by
  refine PE_weak (pv i hN hv hd hcd) fun σ H Q ⟨δ, g, P, rs, rg, h, k⟩ => ?_
  unfold dVar at h
  split at h
  · rename_i d e
    obtain ⟨v, hv, rd⟩ := rs.2 i d (nth_get e)
    exact ⟨v, hv, k d g v H Ext.refl rg rd h⟩
  · exact h.elim
theorem pd_c {e : Expr} {v : V} {d : DV} (h : PE X e (tC v)) (rd : ∀ H, RD X.K H d v) : PE X e (upE X.K (dC d)) :=
  PE_weak h fun _ H _ ⟨_, g, _, _, rg, h, k⟩ => k d g v H Ext.refl rg (rd H) h
theorem pd_int {i j} : PE X (.Constant (.int i) j pos) (upE X.K (dC (.int i))) := pd_c pe_int fun _ => .int i
theorem pd_bl {i j} : PE X (.Constant (.bool i) j pos) (upE X.K (dC (.bl i))) := pd_c pe_bl fun _ => .bl i
theorem pd_non {j} : PE X (.Constant .none j pos) (upE X.K (dC .non)) := pd_c pe_non fun _ => .non
/-- a module's name: an int, a text, a def, a class -/
theorem pd_glob {x : Str} {d : DV} {v : V} {u : Value} (hg : Gl X x) (hm : X.mg x = some u) (r : RelV v u) (rd : ∀ H, RD X.K H d v) (hd : (x == ("__debug__" : Str)) = false := by decide) : PE X (.Name x pos) (upE X.K (dC d)) := pd_c (pe_glob hg hm r hd) rd
theorem pd_globI {x : Str} {i : Int} {t : Tok} (hm : X.mg x = some (.int i t)) (hg : Gl X x := by rfl) (hd : (x == ("__debug__" : Str)) = false := by decide) : PE X (.Name x pos) (upE X.K (dC (.int i))) := pd_glob (v := .int i) hg hm ⟨t, rfl⟩ (fun _ => .int i) hd
theorem pd_globR {x : Str} {a : Addr} (hm : X.mg x = some (.ref a)) (hg : Gl X x := by rfl) (hd : (x == ("__debug__" : Str)) = false := by decide) : PE X (.Name x pos) (upE X.K (dC (.ref a))) := pd_glob (v := .ref a) hg hm rfl (fun _ => .ref a) hd
/-- a built-in class as a value -/
theorem pd_ty {x : Str} {n : String} (hm : X.mg x = none) (hv : bootBuiltins x = some (.type n)) (hg : Gl X x := by rfl) (hn : x ≠ "__name__" := by decide) (hd : (x == ("__debug__" : Str)) = false := by decide) : PE X (.Name x pos) (upE X.K (dC (.ty n))) :=
  pd_c (pe_bltn hg hm hv (v := .ty n) rfl hn hd) fun _ => .ty n

/-! ### operators -/
abbrev RR2 := DV → DV → DG → (DV → Prop) → Prop
abbrev RR1 := DV → DG → (DV → Prop) → Prop
abbrev RRs := List DV → DG → (DV → Prop) → Prop
def dOp (r : RR2) (a b : TDE) : TDE := fun δ g Q => a δ g fun x g1 => b δ g1 fun y g2 => r x y g2 fun z => Q z g2
def RefOp (K : Fg) (r : RR2) (R : R2) : Prop := ∀ (x y : DV) (P : DV → Prop) (v u : V) (H : Hp) (g : DG) (Q : VK), RG K H g → RD K H x v → RD K H y u →
  (∀ z w H', Ext g H g H' → RG K H' g → RD K H' z w → P z → Q w H') → r x y g P → R v u H (fz Q)
variable {a b c : Expr} {ta tb tc : TDE}
theorem op_up {r : RR2} {R : R2} {δ : DS} {g : DG} {σ : L2.St} {H : Hp} {Q : VK} {P : DV → DG → Prop} {K : Fg} (rf : RefOp K r R) (rs : RS K H δ σ) (rg : RG K H g) (h : dOp r ta tb δ g P)
    (k : ∀ d g' v H', Ext g H g' H' → RG K H' g' → RD K H' d v → P d g' → Q v H') : tOp (fun x y H Q => R x y H (fz Q)) (upE K ta) (upE K tb) σ H Q :=
  ⟨δ, g, _, rs, rg, h, fun d g1 v H1 e1 rg1 rd1 h1 => ⟨δ, g1, _, rs.mono (e1.kp rg), rg1, h1, fun d2 g2 u H2 e2 rg2 rd2 h2 =>
    rf d d2 _ v u H2 g2 Q rg2 (rd1.mono (e2.kp rg1)) rd2 (fun z w H' e rg' rd' pz => k z g2 w H' ((e1.trans e2).trans e) rg' rd' pz) h2⟩⟩
theorem pd_op {op : Operator} {r : RR2} {R : R2} (ho : OpR X (binaryOp op) R) (rf : RefOp X.K r R) (ha : PE X a (upE X.K ta)) (hb : PE X b (upE X.K tb)) : PE X (.BinOp a op b pos) (upE X.K (dOp r ta tb)) :=
  PE_weak (pe_op (OpR_fz ho) ha hb) fun _ _ _ ⟨_, _, _, rs, rg, h, k⟩ => op_up rf rs rg h k
theorem pd_cmp {op : CmpOp} {r : RR2} {R : R2} (ho : OpR X (compareOp op) R) (rf : RefOp X.K r R) (ha : PE X a (upE X.K ta)) (hb : PE X b (upE X.K tb)) (hm : behindInMarks op b = false) : PE X (.Compare a [op] [b] pos) (upE X.K (dOp r ta tb)) :=
  PE_weak (pe_cmpR (OpR_fz ho) ha hb hm) fun _ _ _ ⟨_, _, _, rs, rg, h, k⟩ => op_up rf rs rg h k
/-- a test out of a value that is a bool -/
def dB (t : TDE) : TDT := fun δ g Q => t δ g fun x g' => match x with | .bl c => Q c g' | _ => False
theorem tb_up {K : Fg} {t : TDE} {T : TE} {σ : L2.St} {H : Hp} {Q : Bool → Hp → Prop} (hT : ∀ σ H Q, upE K t σ H Q → T σ H Q) (h : upT K (dB t) σ H Q) : T σ H (fun x H' => ∃ k, x = .bl k ∧ Q k H') := by
  obtain ⟨δ, g, P, rs, rg, h, k⟩ := h
  refine hT _ _ _ ⟨δ, g, _, rs, rg, h, fun d g' v H' e rg' rd p => ?_⟩
  cases d <;> first
    | exact False.elim p
    | (cases rd; exact ⟨_, rfl, k _ _ _ e rg' p⟩)
theorem pt_cmpD {op : CmpOp} {r : RR2} {R : R2} (ho : OpR X (compareOp op) R) (rf : RefOp X.K r R) (ha : PE X a (upE X.K ta)) (hb : PE X b (upE X.K tb)) (hm : behindInMarks op b = false) : PT X (.Compare a [op] [b] pos) (upT X.K (dB (dOp r ta tb))) :=
  PT_weak (pt_cmpR (OpR_fz ho) ha hb hm) fun σ H Q h => tb_up (T := tOp (fun x y H Q => R x y H (fz Q)) (upE X.K ta) (upE X.K tb)) (fun _ _ _ ⟨_, _, _, rs, rg, h, k⟩ => op_up rf rs rg h k) h
/-- a < b < c -/
def dChain (r r' : RR2) (a b c : TDE) : TDE := fun δ g Q => a δ g fun x g1 => b δ g1 fun y g2 => r x y g2 fun z => match z with
  | .bl k => if k = true then c δ g2 fun u g3 => r' y u g3 fun w => Q w g3 else Q (.bl false) g2
  | _ => False
/-- the answers of a comparison keep the heap: by values -/
def RefCmp (K : Fg) (r : RR2) (R : R2) : Prop := ∀ (x y : DV) (P : DV → Prop) (v u : V) (H : Hp) (g : DG) (Q : VK), RG K H g → RD K H x v → RD K H y u → (∀ b, P (.bl b) → Q (.bl b) H) → r x y g P → R v u H Q
theorem RefCmp.op {K : Fg} {r : RR2} {R : R2} (h : RefCmp K r R) : RefOp K r R := fun x y P v u H g Q rg rx ry k q => h x y P v u H g (fz Q) rg rx ry (fun b p => .inl (k _ _ H Ext.refl rg (.bl b) p)) q
theorem chain_up {r r' : RR2} {R R' : R2} {δ : DS} {g : DG} {σ : L2.St} {H : Hp} {Q : VK} {P : DV → DG → Prop} {K : Fg} (rf : RefCmp K r R) (rf' : RefCmp K r' R') (rs : RS K H δ σ) (rg : RG K H g) (h : dChain r r' ta tb tc δ g P)
    (k : ∀ d g' v H', Ext g H g' H' → RG K H' g' → RD K H' d v → P d g' → Q v H') : tChain R R' (upE K ta) (upE K tb) (upE K tc) σ H Q := by
  refine ⟨δ, g, _, rs, rg, h, fun d g1 v H1 e1 rg1 rd1 h1 => ⟨δ, g1, _, rs.mono (e1.kp rg), rg1, h1, fun d2 g2 u H2 e2 rg2 rd2 h2 => ?_⟩⟩
  refine rf d d2 _ v u H2 g2 _ rg2 (rd1.mono (e2.kp rg1)) rd2 (fun b p => ?_) h2
  refine ⟨b, rfl, ?_⟩
  dsimp only at p
  cases b with
  | true =>
    rw [if_pos rfl] at p ⊢
    refine ⟨δ, g2, _, rs.mono ((e1.trans e2).kp rg), rg2, p, fun d3 g3 w H3 e3 rg3 rd3 h3 => ?_⟩
    exact rf' d2 d3 _ u w H3 g3 _ rg3 (rd2.mono (e3.kp rg2)) rd3 (fun b p' => k _ _ _ _ ((e1.trans e2).trans e3) rg3 (.bl b) p') h3
  | false =>
    rw [if_neg Bool.false_ne_true] at p ⊢
    exact k _ _ _ _ (e1.trans e2) rg2 (.bl false) p
theorem pd_chain {op op' : CmpOp} {r r' : RR2} {R R' : R2} (ho : OpR X (compareOp op) R) (rf : RefCmp X.K r R) (ho' : OpR X (compareOp op') R') (rf' : RefCmp X.K r' R') (ha : PE X a (upE X.K ta)) (hb : PE X b (upE X.K tb)) (hc : PE X c (upE X.K tc))
    (hm : lastMarks [op, op'] [b, c] = false := by with_unfolding_all rfl) : PE X (.Compare a [op, op'] [b, c] pos) (upE X.K (dChain r r' ta tb tc)) :=
  PE_weak (pe_chain ho ho' ha hb hc hm) fun _ _ _ ⟨_, _, _, rs, rg, h, k⟩ => chain_up rf rf' rs rg h k
/-! ### truth, and, or, not, if -/
/-- the items of a list or tuple -/
def lstD (g : DG) : DV → Option (List DV)
  | .lst ds => some ds
  | .ref p => match g p with | some (.lst ds) => some ds | _ => none
  | _ => none
def seqD (g : DG) : DV → Option (List DV)
  | .tup ds => some ds
  | .lst ds => some ds
  | .ref p => match g p with | some (.lst ds) => some ds | _ => none
  | .scr ns => some (ns.map .int)
  | _ => none
/-- of a plain tuple, too -/
def seqP (g : DG) : DV → Option (List DV)
  | .tpl ds => some ds
  | x => seqD g x
theorem seqP_of {g : DG} {x : DV} {ds : List DV} (h : seqD g x = some ds) : seqP g x = some ds := by
  cases x with
  | tpl _ => cases h
  | _ => exact h
theorem lstD_of {K : Fg} {H : Hp} {g : DG} {d : DV} {v : V} {ds : List DV} (rg : RG K H g) (r : RD K H d v) (h : lstD g d = some ds) : ∃ a vs, v = .ref a ∧ SqL K H a vs ∧ RDs K H ds vs ∧ Rd H a (.lst vs) := by
  cases r with
  | lst hs hr =>
    cases h
    obtain ⟨o, e⟩ := hs
    exact ⟨_, _, rfl, .inl (.inr ⟨o, e⟩), hr, .inr ⟨o, e⟩⟩
  | ref a =>
    unfold lstD at h
    split at h <;> first | cases h | skip
    all_goals (try (rename_i q; cases q))
    all_goals (split at h <;> first | (cases h; rename_i e; obtain ⟨vs, q, rd⟩ := rg _ _ e; exact ⟨_, vs, rfl, SqL.of q, rd, .inl q⟩) | cases h)
  | _ => cases h
theorem seqD_of {K : Fg} {H : Hp} {g : DG} {d : DV} {v : V} {ds : List DV} (rg : RG K H g) (r : RD K H d v) (h : seqD g d = some ds) : ∃ a vs, v = .ref a ∧ (SqL K H a vs ∨ SqT K H a vs) ∧ RDs K H ds vs := by
  cases r with
  | tup hs hr => cases h; exact ⟨_, _, rfl, .inr (SqT.of hs), hr⟩
  | lst hs hr => cases h; exact ⟨_, _, rfl, .inl hs.sq, hr⟩
  | scr hs => cases h; exact ⟨_, _, rfl, .inl hs.sq, RDs.ofInts _⟩
  | ref a =>
    obtain ⟨a, vs, e, q, r, _⟩ := lstD_of (d := .ref a) rg (.ref a) (show lstD g (.ref a) = some ds from h)
    exact ⟨a, vs, e, .inl q, r⟩
  | _ => cases h
theorem seqP_rd {K : Fg} {H : Hp} {g : DG} {d : DV} {v : V} {ds : List DV} (rg : RG K H g) (r : RD K H d v) (h : seqP g d = some ds) : ∃ a vs, v = .ref a ∧ (SqL K H a vs ∨ SqT K H a vs) ∧ RDs K H ds vs := by
  cases r with
  | tpl hs hr => cases h; exact ⟨_, _, rfl, .inr hs.sq, hr⟩
  | tup hs hr => exact seqD_of rg (.tup hs hr) h
  | lst hs hr => exact seqD_of rg (.lst hs hr) h
  | scr hs => exact seqD_of rg (.scr hs) h
  | ref a => exact seqD_of rg (.ref a) h
  | _ => cases h
theorem seqD_ofX {K : Fg} {H : Hp} {g : DG} {d : DV} {v : V} {ds : List DV} (rg : RG K H g) (r : RD K H d v) (h : seqD g d = some ds) : ∃ a vs, v = .ref a ∧ (SqL K H a vs ∨ H a = some (.tup vs)) ∧ RDs K H ds vs := by
  cases r with
  | tup hs hr => cases h; exact ⟨_, _, rfl, .inr hs, hr⟩
  | lst hs hr => cases h; exact ⟨_, _, rfl, .inl hs.sq, hr⟩
  | scr hs => cases h; exact ⟨_, _, rfl, .inl hs.sq, RDs.ofInts _⟩
  | ref a =>
    obtain ⟨a, vs, e, q, r, _⟩ := lstD_of (d := .ref a) rg (.ref a) (show lstD g (.ref a) = some ds from h)
    exact ⟨a, vs, e, .inl q, r⟩
  | _ => cases h
/-- the truth of a value (texts: told where it is asked) -/
def truD (g : DG) : DV → Option Bool
  | .non => some false
  | .bl b => some b
  | .int i => some (i != 0)
  | .tup ds => some (!ds.isEmpty)
  | .lst ds => some (!ds.isEmpty)
  | .ref p => match g p with | some (.lst ds) => some (!ds.isEmpty) | _ => none
  | .scr ns => some (!ns.isEmpty)
  | .str x => if x.length ≤ 16777216 then some ((x.length : Int) != 0) else none
  | _ => none
theorem truV_of {K : Fg} {H : Hp} {g : DG} {d : DV} {v : V} {k : Bool} (rg : RG K H g) (r : RD K H d v) (h : truD g d = some k) : TruV K v H k := by
  cases r with
  | non => cases h; rfl
  | bl b => cases h; rfl
  | int i => cases h; rfl
  | str x =>
    have h' : (if x.length ≤ 16777216 then some ((x.length : Int) != 0) else none) = some k := h
    split at h'
    · rename_i hl
      cases h'
      exact ⟨by rw [sizeLine_eq]; exact hl, rfl⟩
    · cases h'
  | dK hs hr => cases h
  | dT hs hr => cases h
  | ins hs hr => cases h
  | exc hs hr => cases h
  | lam hs hr => cases h
  | tpl hs hr => cases h
  | @scr _ ns hs => cases h; refine .inl ⟨_, hs.sq, ?_⟩; cases ns <;> rfl
  | ref a =>
    have h' : (match g a with | some (.lst ds) => some (!ds.isEmpty) | _ => none) = some k := h
    split at h'
    · cases h'
      rename_i e
      obtain ⟨vs, q, rd⟩ := rg _ _ e
      refine .inl ⟨_, SqL.of q, ?_⟩
      cases rd <;> rfl
    · cases h'
  | ty n => cases h
  | tup hs hr =>
    cases h
    refine .inr (.inl ⟨_, SqT.of hs, ?_⟩)
    cases hr <;> rfl
  | lst hs hr =>
    cases h
    refine .inl ⟨_, hs.sq, ?_⟩
    cases hr <;> rfl
def dTru (t : TDE) : TDT := fun δ g Q => t δ g fun x g' => match truD g' x with | some b => Q b g' | none => False
theorem pt_truD {e : Expr} {t : TDE} (h : PE X e (upE X.K t)) (he : ∀ whole, isTrue e X.env whole = (do let v ← whole; standAt e.pos; holding [v] (truthy v)) := by intro _; rfl) : PT X e (upT X.K (dTru t)) := by
  refine PT_weak (pt_truth h he) fun σ H Q ⟨δ, g, P, rs, rg, h, k⟩ => ⟨δ, g, _, rs, rg, h, fun d g' v H' e rg' rd p => ?_⟩
  split at p
  · rename_i b eb
    exact ⟨b, truV_of rg' rd eb, k _ _ _ e rg' p⟩
  · exact p.elim
def dAnd (t u : TDT) : TDT := fun δ g Q => t δ g fun c g1 => if c = true then u δ g1 Q else Q false g1
def dOr (t u : TDT) : TDT := fun δ g Q => t δ g fun c g1 => if c = true then Q true g1 else u δ g1 Q
def dNot (t : TDT) : TDT := fun δ g Q => t δ g fun c g1 => Q (!c) g1
variable {tA tB' : TDT} {rest : List Expr}
theorem pwd_and1 (ha : PT X a (upT X.K tA)) : PW X (.BoolOp .And [a] pos) (upT X.K tA) := pw_and1 ha
theorem pwd_or1 (ha : PT X a (upT X.K tA)) : PW X (.BoolOp .Or [a] pos) (upT X.K tA) := pw_or1 ha
theorem pwd_and (ha : PT X a (upT X.K tA)) (hb : PW X (.BoolOp .And (b :: rest) pos) (upT X.K tB')) : PW X (.BoolOp .And (a :: b :: rest) pos) (upT X.K (dAnd tA tB')) := by
  refine PW_weak (pw_and ha hb) fun σ H Q ⟨δ, g, P, rs, rg, h, k⟩ => ⟨δ, g, _, rs, rg, h, fun c g1 H1 e rg1 p => ?_⟩
  cases c with
  | true =>
    rw [if_pos rfl] at p ⊢
    exact ⟨δ, g1, _, rs.mono (e.kp rg), rg1, p, fun b g2 H2 e2 rg2 p2 => k _ _ _ (e.trans e2) rg2 p2⟩
  | false =>
    rw [if_neg Bool.false_ne_true] at p ⊢
    exact k _ _ _ e rg1 p
theorem pwd_or (ha : PT X a (upT X.K tA)) (hb : PW X (.BoolOp .Or (b :: rest) pos) (upT X.K tB')) : PW X (.BoolOp .Or (a :: b :: rest) pos) (upT X.K (dOr tA tB')) := by
  refine PW_weak (pw_or ha hb) fun σ H Q ⟨δ, g, P, rs, rg, h, k⟩ => ⟨δ, g, _, rs, rg, h, fun c g1 H1 e rg1 p => ?_⟩
  cases c with
  | false =>
    rw [if_neg Bool.false_ne_true] at p ⊢
    exact ⟨δ, g1, _, rs.mono (e.kp rg), rg1, p, fun b g2 H2 e2 rg2 p2 => k _ _ _ (e.trans e2) rg2 p2⟩
  | true =>
    rw [if_pos rfl] at p ⊢
    exact k _ _ _ e rg1 p
theorem pwd_pt {e : Expr} {t : TDT} (h : PW X e (upT X.K t)) : PT X e (upT X.K t) := h.pt
theorem pt_notD (ha : PT X a (upT X.K tA)) : PT X (.UnaryOp .Not a pos) (upT X.K (dNot tA)) :=
  PT_weak (pt_not ha) fun σ H Q ⟨δ, g, P, rs, rg, h, k⟩ => ⟨δ, g, _, rs, rg, h, fun c g1 H1 e rg1 p => k _ _ _ e rg1 p⟩
/-- and, or as values: by truth -/
def dAndV (t u : TDE) : TDE := fun δ g Q => t δ g fun x g1 => match truD g1 x with | some k => if k = true then u δ g1 Q else Q x g1 | none => False
def dNotV (t : TDE) : TDE := fun δ g Q => t δ g fun x g1 => match truD g1 x with | some b => Q (.bl (!b)) g1 | none => False
theorem pd_one {op} {t : TDE} (h : PE X a (upE X.K t)) : PE X (.BoolOp op [a] pos) (upE X.K t) := pe_one h
theorem pd_and (ha : PE X a (upE X.K ta)) (hb : PE X (.BoolOp .And (b :: rest) pos) (upE X.K tb)) : PE X (.BoolOp .And (a :: b :: rest) pos) (upE X.K (dAndV ta tb)) := by
  refine PE_weak (pe_andT ha hb) fun σ H Q ⟨δ, g, P, rs, rg, h, k⟩ => ⟨δ, g, _, rs, rg, h, fun c g1 v H1 e rg1 rd p => ?_⟩
  split at p
  · rename_i q eb
    refine ⟨q, truV_of rg1 rd eb, ?_⟩
    cases q with
    | true => rw [if_pos rfl] at p ⊢; exact ⟨δ, g1, _, rs.mono (e.kp rg), rg1, p, fun b g2 v2 H2 e2 rg2 rd2 p2 => k _ _ _ _ (e.trans e2) rg2 rd2 p2⟩
    | false => rw [if_neg Bool.false_ne_true] at p ⊢; exact k _ _ _ _ e rg1 rd p
  · exact p.elim
theorem pd_not (ha : PE X a (upE X.K ta)) : PE X (.UnaryOp .Not a pos) (upE X.K (dNotV ta)) := by
  refine PE_weak (pe_notT ha) fun σ H Q ⟨δ, g, P, rs, rg, h, k⟩ => ⟨δ, g, _, rs, rg, h, fun c g1 v H1 e rg1 rd p => ?_⟩
  split at p
  · rename_i b eb
    exact ⟨b, truV_of rg1 rd eb, k _ _ _ _ e rg1 (.bl _) p⟩
  · exact p.elim
def dIfE (c : TDT) (t u : TDE) : TDE := fun δ g Q => c δ g fun b g1 => if b = true then t δ g1 Q else u δ g1 Q
theorem pd_ifExp {c : Expr} (hc : PT X c (upT X.K tA)) (ha : PE X a (upE X.K ta)) (hb : PE X b (upE X.K tb)) : PE X (.IfExp c a b pos) (upE X.K (dIfE tA ta tb)) := by
  refine PE_weak (pe_ifExp hc ha hb) fun σ H Q ⟨δ, g, P, rs, rg, h, k⟩ => ⟨δ, g, _, rs, rg, h, fun c g1 H1 e rg1 p => ?_⟩
  cases c with
  | true =>
    rw [if_pos rfl] at p ⊢
    exact ⟨δ, g1, _, rs.mono (e.kp rg), rg1, p, fun b g2 v2 H2 e2 rg2 rd2 p2 => k _ _ _ _ (e.trans e2) rg2 rd2 p2⟩
  | false =>
    rw [if_neg Bool.false_ne_true] at p ⊢
    exact ⟨δ, g1, _, rs.mono (e.kp rg), rg1, p, fun b g2 v2 H2 e2 rg2 rd2 p2 => k _ _ _ _ (e.trans e2) rg2 rd2 p2⟩
def dUn (r : RR1) (a : TDE) : TDE := fun δ g Q => a δ g fun x g1 => r x g1 fun z => Q z g1
def rrNeg : RR1 := fun x _ P => match x with | .int i => P (.int (-i)) | _ => False
theorem pd_neg (ha : PE X a (upE X.K ta)) : PE X (.UnaryOp .USub a pos) (upE X.K (dUn rrNeg ta)) := by
  refine PE_weak (pe_un un_neg ha) fun σ H Q ⟨δ, g, P, rs, rg, h, k⟩ => ⟨δ, g, _, rs, rg, h, fun c g1 v H1 e rg1 rd p => ?_⟩
  cases c <;> first
    | exact False.elim p
    | (cases rd; exact ⟨_, rfl, k _ _ _ _ e rg1 (.int _) p⟩)

/-! ### arguments, displays -/
def dNil : TDA := fun _ g Q => Q [] g
def dCons (t : TDE) (r : TDA) : TDA := fun δ g Q => t δ g fun x g1 => r δ g1 fun xs g2 => Q (x :: xs) g2
variable {es : List Expr} {te : TDE} {t : TDA} {e : Expr}
theorem pda_nil : PA X [] (upA X.K dNil) := PA_weak pa_nil fun σ H Q ⟨δ, g, P, rs, rg, h, k⟩ => k _ _ _ _ Ext.refl rg .nil h
theorem pda_cons (ha : PE X e (upE X.K te)) (hr : PA X es (upA X.K t)) (hs : starEach (e :: es) X.env = (false, eval e X.env) :: starEach es X.env := by rfl) : PA X (e :: es) (upA X.K (dCons te t)) :=
  PA_weak (pa_cons ha hr hs) fun σ H Q ⟨δ, g, P, rs, rg, h, k⟩ => ⟨δ, g, _, rs, rg, h, fun d g1 v H1 e1 rg1 rd1 h1 => ⟨δ, g1, _, rs.mono (e1.kp rg), rg1, h1, fun ds g2 vs H2 e2 rg2 rd2 h2 =>
    k _ _ _ _ (e1.trans e2) rg2 (.cons (rd1.mono (e2.kp rg1)) rd2) h2⟩⟩
def dTup (t : TDA) : TDE := fun δ g Q => t δ g fun ds g1 => ds.length ≤ sizeLine ∧ Q (.tup ds) g1
/-- a list that no one will change -/
def dLst (t : TDA) : TDE := fun δ g Q => t δ g fun ds g1 => ds.length ≤ sizeLine ∧ Q (.lst ds) g1
/-- a list that will be changed -/
def dLstM (t : TDA) : TDE := fun δ g Q => t δ g fun ds g1 => ds.length ≤ sizeLine ∧ ∀ p, g1 p = none → Q (.ref p) (gup g1 p (.lst ds))
theorem pd_tup {x1} (h : PA X es (upA X.K t)) : PE X (.Tuple es x1 pos) (upE X.K (dTup t)) :=
  PE_weak (pe_tup h) fun σ H Q ⟨δ, g, P, rs, rg, h, k⟩ => ⟨δ, g, _, rs, rg, h, fun ds g1 vs H1 e1 rg1 rd1 h1 => ⟨by rw [← rd1.length]; exact h1.1, fun p hp =>
    tup_new (P := P) rg1 hp rd1 (fun d g' v H' e rg' rd' p' => k d g' v H' (e1.trans e) rg' rd' p') h1.2⟩⟩
theorem pd_lst (h : PA X es (upA X.K t)) : PE X (.List es pos) (upE X.K (dLst t)) :=
  PE_weak (PE_fz (pe_lst h)) fun σ H Q ⟨δ, g, P, rs, rg, h, k⟩ => ⟨δ, g, _, rs, rg, h, fun ds g1 vs H1 e1 rg1 rd1 h1 => ⟨by rw [← rd1.length]; exact h1.1, fun p hp =>
    fz_new (P := P) rg1 hp rd1 (fun d g' v H' e rg' rd' p' => k d g' v H' (e1.trans e) rg' rd' p') h1.2⟩⟩
theorem pd_lstM (h : PA X es (upA X.K t)) : PE X (.List es pos) (upE X.K (dLstM t)) :=
  PE_weak (pe_lst h) fun σ H Q ⟨δ, g, P, rs, rg, h, k⟩ => ⟨δ, g, _, rs, rg, h, fun ds g1 vs H1 e1 rg1 rd1 h1 => ⟨by rw [← rd1.length]; exact h1.1, fun p hp =>
    k _ _ _ _ (e1.trans (Ext.new hp)) (rg1.new hp rd1) (.ref p) (h1.2 p (rg1.none hp))⟩⟩

/-! ### calls -/
/-- a built-in, by values -/
def RefCall (K : Fg) (r : RRs) (R : List V → Hp → VK → Prop) : Prop := ∀ (xs : List DV) (P : DV → Prop) (vs : List V) (H : Hp) (g : DG) (Q : VK), RG K H g → RDs K H xs vs →
  (∀ z w H', Ext g H g H' → RG K H' g → RD K H' z w → P z → Q w H') → r xs g P → R vs H (fz Q)
def dCB (r : RRs) (t : TDA) : TDE := fun δ g Q => t δ g fun xs g1 => r xs g1 fun z => Q z g1
variable {x : Str} {p : Pos}
theorem cb_up {r : RRs} {R : List V → Hp → VK → Prop} {σ : L2.St} {H : Hp} {Q : VK} {K : Fg} (rf : RefCall K r R) (h : upE K (dCB r t) σ H Q) : tCB (fun xs H Q => R xs H (fz Q)) (upA K t) σ H Q := by
  obtain ⟨δ, g, P, rs, rg, h, k⟩ := h
  exact ⟨δ, g, _, rs, rg, h, fun ds g1 vs H1 e1 rg1 rd1 h1 => rf ds _ vs H1 g1 Q rg1 rd1 (fun z w H' e rg' rd' pz => k z g1 w H' (e1.trans e) rg' rd' pz) h1⟩
theorem pd_callB {id : String} {r : RRs} {R : List V → Hp → VK → Prop} (hc : CallR X (.builtin id) R) (rf : RefCall X.K r R) (hm : X.mg x = none) (hv : bootBuiltins x = some (.builtin id)) (ha : PA X (e :: es) (upA X.K t)) (hg : Gl X x := by rfl) (hn : x ≠ "__name__" := by decide) (hdb : (x == ("__debug__" : Str)) = false := by decide)
    (he : starEach (e :: es) X.env = (false, eval e X.env) :: starEach es X.env := by rfl) (hpl : (backTo pos (starEach es X.env)).any (·.1) = false := by rfl) : PE X (.Call (.Name x p) (e :: es) [] pos) (upE X.K (dCB r t)) :=
  PE_weak (pe_callB (CallR_fz hc) hg hm hv ha hn hdb he hpl) fun _ _ _ h => cb_up rf h
theorem pd_callTy {T : String} {r : RRs} {R : List V → Hp → VK → Prop} (hc : CallR X (.type T) R) (rf : RefCall X.K r R) (hm : X.mg x = none) (hv : bootBuiltins x = some (.type T)) (ha : PA X (e :: es) (upA X.K t)) (hg : Gl X x := by rfl) (hn : x ≠ "__name__" := by decide) (hdb : (x == ("__debug__" : Str)) = false := by decide)
    (he : starEach (e :: es) X.env = (false, eval e X.env) :: starEach es X.env := by rfl) (hpl : (backTo pos (starEach es X.env)).any (·.1) = false := by rfl) : PE X (.Call (.Name x p) (e :: es) [] pos) (upE X.K (dCB r t)) :=
  PE_weak (pe_callTy (CallR_fz hc) hg hm hv ha hn hdb he hpl) fun _ _ _ h => cb_up rf h
/-- a def of the text -/
def dCall (sp : SpD) (t : TDA) : TDE := fun δ g Q => t δ g fun xs g1 => sp xs g1 Q
theorem pd_call {CX : CXT} {k : Nat} {f : Addr} {fd : FuncData} {ps : List Str} {sp : SpD} {E : XK} (F : FnOk X.prog X.w X.K X.mg X.base CX k f fd ps (upSp X.K sp)) (hr : Room k X.A) (hm : X.mg x = some (.ref f)) (hk : PySem.W.keepIn X.K (.ref f) = true) (hb : Binds X.K fd ps []) (hx : Passes CX X E)
    (ha : PA X (e :: es) (upA X.K t)) (hg : Gl X x := by rfl) (hdb : (x == ("__debug__" : Str)) = false := by decide) (he : starEach (e :: es) X.env = (false, eval e X.env) :: starEach es X.env := by rfl) (hpl : (backTo pos (starEach es X.env)).any (·.1) = false := by rfl) :
    PE X (.Call (.Name x p) (e :: es) [] pos) (upE X.K (dCall sp t)) := by
  refine PE_weak (pe_call F hr hg hm hk hb .nil hx ha hdb he hpl) fun σ H Q ⟨δ, g, P, rs, rg, h, k⟩ => ⟨δ, g, _, rs, rg, h, fun ds g1 vs H1 e1 rg1 rd1 h1 => ?_⟩
  show upSp X.K sp (vs ++ []) H1 Q E
  rw [List.append_nil]
  exact ⟨ds, g1, P, rd1, rg1, h1, fun d g' v H' e rg' rd' p' => k d g' v H' (e1.trans e) rg' rd' p'⟩
/-! ### subscripts, slices -/
def optD (o : Option DV) (P : DV → Prop) : Prop := match o with | some d => P d | none => False
def ixD : RR2 := fun x y g P => match y with
  | .int i => match seqD g x with | some ds => optD (atI ds i) P | none => False
  | _ => False
theorem atI_rd {K : Fg} {H : Hp} {ds : List DV} {vs : List V} {i : Int} {d : DV} (r : RDs K H ds vs) (h : atI ds i = some d) : ∃ v, atI vs i = some v ∧ RD K H d v := by
  unfold atI at h ⊢
  rw [← r.length]
  cases e : ixN ds.length i with
  | none => rw [e] at h; cases h
  | some j =>
    rw [e] at h
    obtain ⟨v, h1, h2⟩ := r.get (show ds[j]? = some d from h)
    exact ⟨v, h1, h2⟩
theorem pd_ix (ha : PE X a (upE X.K ta)) (hb : PE X b (upE X.K tb)) (hs : PlainIx b := by intro _ _; rfl) : PE X (.Subscript a b pos) (upE X.K (dOp ixD ta tb)) := by
  refine PE_weak (pe_ix ix_seq ha hb hs) fun σ H Q ⟨δ, g, P, rs, rg, h, k⟩ => ⟨δ, g, _, rs, rg, h, fun d g1 v H1 e1 rg1 rd1 h1 => ⟨δ, g1, _, rs.mono (e1.kp rg), rg1, h1, fun d2 g2 u H2 e2 rg2 rd2 h2 => ?_⟩⟩
  have rd1' := rd1.mono (e2.kp rg1)
  unfold ixD at h2
  split at h2 <;> first | exact h2.elim | skip
  cases rd2
  split at h2 <;> first | exact h2.elim | skip
  rename_i ds es
  obtain ⟨p, vs, rfl, hq, hr⟩ := seqD_of rg2 rd1' es
  unfold optD at h2
  split at h2 <;> first | exact h2.elim | skip
  rename_i z ez
  obtain ⟨w, hw, rw'⟩ := atI_rd hr ez
  rcases hq with hq | hq
  · exact .inl ⟨p, vs, _, w, rfl, rfl, hq, hw, k _ _ _ _ (e1.trans e2) rg2 rw' h2⟩
  · exact .inr (.inl ⟨p, vs, _, w, rfl, rfl, hq, hw, k _ _ _ _ (e1.trans e2) rg2 rw' h2⟩)
end
end DL

/-! Deep layer C: statements, targets, loops, comprehensions, defs. -/
namespace DL
open PySem PySem.Spec PyProof.Rows L2
section
variable {X : Cx} {pos : Pos} {st : Stmt} {rest : List Stmt} {t u : TDS} {e : Expr} {te : TDE}
/-! ### statements -/
def dNext : TDS := fun E δ g => E.nx δ g
def dSeq (t u : TDS) : TDS := fun E δ g => t { E with nx := u E } δ g
theorem up_nx {K : Fg} {D : Ends} {σ : L2.St} {H : Hp} (h : upS K dNext D σ H) : D.nx σ H := by
  obtain ⟨δ, g, E, rs, rg, h, k1, _⟩ := h
  exact k1 _ _ _ _ Ext.refl rg rs h
theorem pds_nil : PSs X [] (upS X.K dNext) := PSs_weak pss_nil fun _ _ _ h => up_nx h
/-- the ends behind a further step -/
theorem up_go {K : Fg} {D : Ends} {E : DEnds} {t : TDS} {δ1 : DS} {g g1 : DG} {σ1 : L2.St} {H H1 : Hp} (e : Ext g H g1 H1) (rs : RS K H1 δ1 σ1) (rg : RG K H1 g1) (h : t E δ1 g1)
    (k : (∀ δ' g' σ' H', Ext g H g' H' → RG K H' g' → RS K H' δ' σ' → E.nx δ' g' → D.nx σ' H') ∧ (∀ d g' v H', Ext g H g' H' → RG K H' g' → RD K H' d v → E.rt d g' → D.rt v H') ∧
      (∀ δ' g' σ' H', Ext g H g' H' → RG K H' g' → RS K H' δ' σ' → E.bk δ' g' → D.bk σ' H') ∧ (∀ δ' g' σ' H', Ext g H g' H' → RG K H' g' → RS K H' δ' σ' → E.ct δ' g' → D.ct σ' H')) : upS K t D σ1 H1 :=
  ⟨δ1, g1, E, rs, rg, h, fun _ _ _ _ e' => k.1 _ _ _ _ (e.trans e'), fun _ _ _ _ e' => k.2.1 _ _ _ _ (e.trans e'), fun _ _ _ _ e' => k.2.2.1 _ _ _ _ (e.trans e'), fun _ _ _ _ e' => k.2.2.2 _ _ _ _ (e.trans e')⟩
theorem pds_cons (h1 : PS X st (upS X.K t)) (h2 : PSs X rest (upS X.K u)) : PSs X (st :: rest) (upS X.K (dSeq t u)) :=
  PSs_weak (pss_cons h1 h2) fun D σ H ⟨δ, g, E, rs, rg, h, k1, k2, k3, k4⟩ =>
    ⟨δ, g, { E with nx := u E }, rs, rg, h, fun δ' g' σ' H' e rg' rs' q => up_go e rs' rg' q ⟨k1, k2, k3, k4⟩, k2, k3, k4⟩
theorem pds_one (h1 : PS X st (upS X.K t)) : PSs X [st] (upS X.K t) := pss_one h1
def dNever : TDS := fun _ _ _ => False
theorem pds_never : PS X st (upS X.K dNever) := PS_weak ps_never fun _ _ _ ⟨_, _, _, _, _, h, _⟩ => h
def dDrop (te : TDE) : TDS := fun E δ g => te δ g fun _ g1 => E.nx δ g1
theorem pds_expr (he : PE X e (upE X.K te)) (hs : swapsWith e none pos.line X.env = pure false := by rfl) : PS X (.Expr e pos) (upS X.K (dDrop te)) :=
  PS_weak (ps_expr he hs) fun D σ H ⟨δ, g, E, rs, rg, h, k⟩ => ⟨δ, g, _, rs, rg, h, fun d g' v H' e rg' rd p => k.1 _ _ _ _ e rg' (rs.mono (e.kp rg)) p⟩
def dRet (te : TDE) : TDS := fun E δ g => te δ g E.rt
theorem pds_ret (he : PE X e (upE X.K te)) : PS X (.Return (some e) pos) (upS X.K (dRet te)) :=
  PS_weak (ps_ret he) fun D σ H ⟨δ, g, E, rs, rg, h, k⟩ => ⟨δ, g, _, rs, rg, h, fun d g' v H' e rg' rd p => k.2.1 _ _ _ _ e rg' rd p⟩
def dIf (c : TDT) (t u : TDS) : TDS := fun E δ g => c δ g fun b g1 => if b = true then t E δ g1 else u E δ g1
theorem pds_if {c : Expr} {a b : List Stmt} {tc : TDT} (hc : PT X c (upT X.K tc)) (ha : PSs X a (upS X.K t)) (hb : PSs X b (upS X.K u)) : PS X (.If c a b pos) (upS X.K (dIf tc t u)) :=
  PS_weak (ps_if hc ha hb) fun D σ H ⟨δ, g, E, rs, rg, h, k⟩ => ⟨δ, g, _, rs, rg, h, fun b g' H' e rg' p => by
    cases b with
    | true => rw [if_pos rfl] at p ⊢; exact up_go e (rs.mono (e.kp rg)) rg' p k
    | false => rw [if_neg Bool.false_ne_true] at p ⊢; exact up_go e (rs.mono (e.kp rg)) rg' p k⟩

/-! ### targets -/
/-- a name's slot, or a tuple of names -/
inductive Tg where
  | nm (i : Nat)
  | tp (is : List Nat)
  /-- x, (y, ..) -/
  | nq (i : Nat) (js : List Nat)
  /-- (x, ..), y -/
  | qn (is : List Nat) (j : Nat)
def setAll : List Nat → List DV → DS → Option DS
  | [], [], δ => some δ
  | i :: is, d :: ds, δ => setAll is ds (δ.set i (some d))
  | _, _, _ => none
def bindT : Tg → DV → DS → Option DS
  | .nm i, d, δ => some (δ.set i (some d))
  | .tp is, .tup ds, δ => setAll is ds δ
  | .tp _, _, _ => none
  | .nq i js, .tup [a, .tup ds], δ => setAll js ds (δ.set i (some a))
  | .nq _ _, _, _ => none
  | .qn is j, .tup [.tup ds, b], δ => (setAll is ds δ).map fun δ => δ.set j (some b)
  | .qn _ _, _, _ => none
def gAll : List Nat → TGs
  | [] => gNil
  | i :: is => gCons (gName i) (gAll is)
def tgG (K : Fg) : Tg → TG
  | .nm i => gName i
  | .tp is => gTup K is.length (gAll is)
  | .nq i js => gTup K 2 (gCons (gName i) (gCons (gTup K js.length (gAll js)) gNil))
  | .qn is j => gTup K 2 (gCons (gTup K is.length (gAll is)) (gCons (gName j) gNil))
def Tg.ix : Tg → List Nat
  | .nm i => [i]
  | .tp is => is
  | .nq i js => i :: js
  | .qn is j => is ++ [j]
theorem wipe_set {σ : L2.St} {i : Nat} {v : Option V} : ∀ {vs : List Nat}, i ∈ vs → wipe (σ.set i v) vs = wipe σ vs
  | [], h => by cases h
  | w :: vs, h => by
    unfold wipe
    by_cases hw : i = w
    · subst hw
      by_cases hv : i ∈ vs
      · rw [wipe_set hv]
      · rw [wipe_comm hv, List.set_set]
    · have hv : i ∈ vs := by
        rcases List.mem_cons.mp h with h | h
        · exact absurd h hw
        · exact h
      rw [wipe_set hv]
where wipe_comm {σ : L2.St} {i : Nat} {v : Option V} : ∀ {vs : List Nat}, i ∉ vs → wipe (σ.set i v) vs = (wipe σ vs).set i v
  | [], _ => rfl
  | w :: vs, h => by
    unfold wipe
    rw [wipe_comm (fun z => h (List.mem_cons_of_mem _ z)), List.set_comm _ _ (fun z => h (by rw [z]; exact List.mem_cons_self))]
theorem gAll_run {K : Fg} {H : Hp} {Q : L2.St → Hp → Prop} : ∀ {is : List Nat} {ds : List DV} {vs : List V} {δ δ' : DS} {σ : L2.St}, RDs K H ds vs → RS K H δ σ → setAll is ds δ = some δ' →
    (∀ σ', RS K H δ' σ' → (∀ ws, (∀ i ∈ is, i ∈ ws) → wipe σ' ws = wipe σ ws) → Q σ' H) → gAll is vs σ H Q
  | [], _, _, δ, δ', σ, .nil, rs, e, k => by
    cases e
    exact ⟨rfl, k σ rs fun _ _ => rfl⟩
  | i :: is, _, _, δ, δ', σ, .cons r t, rs, e, k => by
    refine ⟨_, _, rfl, ?_⟩
    show gAll is _ (σ.set i _) H Q
    refine gAll_run t (rs.set i r) e fun σ' rs' hw => k σ' rs' fun ws hws => ?_
    rw [hw ws fun j hj => hws j (List.mem_cons_of_mem _ hj)]
    exact wipe_set (hws i List.mem_cons_self)
  | [], _, _, _, _, _, .cons _ _, _, e, _ => by cases e
  | _ :: _, _, _, _, _, _, .nil, _, e, _ => by cases e
theorem setAll_len : ∀ {is : List Nat} {ds : List DV} {δ δ' : DS}, setAll is ds δ = some δ' → ds.length = is.length
  | [], [], _, _, _ => rfl
  | _ :: is, _ :: ds, _, _, e => by rw [List.length_cons, List.length_cons, setAll_len (is := is) (ds := ds) e]
  | [], _ :: _, _, _, e => by cases e
  | _ :: _, [], _, _, e => by cases e
theorem tg_run {K : Fg} {H : Hp} {Q : L2.St → Hp → Prop} {tg : Tg} {d : DV} {v : V} {δ δ' : DS} {σ : L2.St} (r : RD K H d v) (rs : RS K H δ σ) (e : bindT tg d δ = some δ')
    (k : ∀ σ', RS K H δ' σ' → (∀ ws, (∀ i ∈ tg.ix, i ∈ ws) → wipe σ' ws = wipe σ ws) → Q σ' H) : tgG K tg v σ H Q := by
  cases tg with
  | nm i =>
    cases e
    exact k _ (rs.set i r) fun ws hw => wipe_set (hw i (by simp [Tg.ix]))
  | tp is =>
    cases r with
    | tup hs hr =>
      refine ⟨_, _, rfl, SqT.of hs, ?_, gAll_run hr rs e k⟩
      rw [← hr.length]
      exact setAll_len e
    | _ => cases e
  | nq i js =>
    cases r with
    | tup hs hr =>
      cases hr with
      | nil => cases e
      | cons r1 hr =>
        cases hr with
        | nil => cases e
        | cons r2 hr =>
          cases hr with
          | cons r3 hr => cases r2 <;> cases e
          | nil =>
            cases r2 with
            | tup hs2 hr2 =>
              refine ⟨_, _, rfl, SqT.of hs, rfl, _, _, rfl, _, _, rfl, _, _, rfl, SqT.of hs2, ?_, gAll_run hr2 (rs.set i r1) e fun σ' rs' hw => ⟨rfl, k σ' rs' fun ws hws => ?_⟩⟩
              · rw [← hr2.length]
                exact setAll_len e
              · rw [hw ws fun j hj => hws j (List.mem_cons_of_mem _ hj)]
                exact wipe_set (hws i List.mem_cons_self)
            | _ => cases e
    | _ => cases e
  | qn is j =>
    cases r with
    | tup hs hr =>
      cases hr with
      | nil => cases e
      | cons r1 hr =>
        cases hr with
        | nil => cases r1 <;> cases e
        | cons r2 hr =>
          cases hr with
          | cons r3 hr => cases r1 <;> cases e
          | nil =>
            cases r1 with
            | tup hs2 hr2 =>
              simp only [bindT] at e
              obtain ⟨δ1, e1, e2⟩ := Option.map_eq_some_iff.mp e
              subst e2
              refine ⟨_, _, rfl, SqT.of hs, rfl, _, _, rfl, _, _, rfl, SqT.of hs2, ?_, gAll_run hr2 rs e1 fun σ' rs' hw => ⟨_, _, rfl, rfl, k _ (rs'.set j r2) fun ws hws => ?_⟩⟩
              · rw [← hr2.length]
                exact setAll_len e1
              · rw [wipe_set (hws j (List.mem_append_right _ List.mem_cons_self)), hw ws fun i hi => hws i (List.mem_append_left _ hi)]
            | _ => cases e
    | _ => cases e
/-- target = value -/
def dAsg (tg : Tg) (te : TDE) : TDS := fun E δ g => te δ g fun d g1 => match bindT tg d δ with | some δ' => E.nx δ' g1 | none => False
theorem asg_up {K : Fg} {tg : Tg} {D : Ends} {σ : L2.St} {H : Hp} (h : upS K (dAsg tg te) D σ H) : tAsg (upE K te) (tgG K tg) D σ H := by
  obtain ⟨δ, g, E, rs, rg, h, k1, k⟩ := h
  refine ⟨δ, g, _, rs, rg, h, fun d g1 v H1 e rg1 rd p => ?_⟩
  split at p
  · rename_i δ' eb
    exact tg_run rd (rs.mono (e.kp rg)) eb fun σ' rs' _ => k1 _ _ _ _ e rg1 rs' p
  · exact p.elim
theorem pds_set {i : Nat} {x : Str} {pos' : Pos} (hN : X.N.Nodup) (he : PE X e (upE X.K te)) (hi : X.N[i]? = some x := by rfl) (hx : Loc X.env.scope x := by first | exact Or.inl rfl | exact Or.inr rfl) (hs : swapsWith e (some (.Name x pos')) pos.line X.env = pure false := by rfl)
    (hf : X.fn x = true ∨ X.env.scope.names.lookup x = some .local := by first | exact .inl rfl | exact .inr rfl | assumption) : PS X (.Assign [.Name x pos'] e pos) (upS X.K (dAsg (.nm i) te)) :=
  PS_weak (ps_set hN hi hx he hs hf) fun D σ H h => asg_up h
/-- a, b = e -/
theorem pds_setT {tgx : Expr} {tg : Tg} (hg : PG X tgx (tgG X.K tg)) (he : PE X e (upE X.K te)) (hs : swapsWithSole [tgx] e pos.line X.env = pure false := by rfl) (hw : swappedStores [tgx] e X.env = pure none := by rfl)
    (h1 : (assignEach [tgx] X.env).map (·.2) = [assign tgx X.env] := by rfl) : PS X (.Assign [tgx] e pos) (upS X.K (dAsg tg te)) :=
  PS_weak (ps_asg he hg hs hw h1) fun D σ H h => asg_up h
/-- a, b = x, y -/
def dPar (is : List Nat) (ta : TDA) : TDS := fun E δ g => ta δ g fun ds g1 => match setAll is ds δ with | some δ' => E.nx δ' g1 | none => False
theorem setAll_rs {K : Fg} {H : Hp} : ∀ {is : List Nat} {ds : List DV} {vs : List V} {δ δ' : DS} {σ : L2.St}, RDs K H ds vs → RS K H δ σ → setAll is ds δ = some δ' → ∃ σ', σ' = (is.zip vs).foldl (fun s p => s.set p.1 (some p.2)) σ ∧ RS K H δ' σ'
  | [], _, _, _, _, _, .nil, rs, e => by cases e; exact ⟨_, rfl, rs⟩
  | i :: is, d :: ds, v :: vs, δ, δ', σ, .cons r t, rs, e => by
    obtain ⟨s, e1, e2⟩ := setAll_rs (is := is) (δ := δ.set i (some d)) (σ := σ.set i (some v)) t (rs.set i r) e
    exact ⟨s, e1, e2⟩
  | [], _, _, _, _, _, .cons _ _, _, e => by cases e
  | _ :: _, _, _, _, _, _, .nil, _, e => by cases e
theorem pds_par {i j : Nat} {x y : Str} {a b : Expr} {ta : TDA} {px py pt : Pos} {kt k2 pt2} (hc : X.calm = true) (hN : X.N.Nodup) (ha : PA X [a, b] (upA X.K ta)) (hi : X.N[i]? = some x := by rfl) (hj : X.N[j]? = some y := by rfl) (hij : i ≠ j := by decide)
    (hx : X.env.scope.names.lookup x = some .local := by rfl) (hy : X.env.scope.names.lookup y = some .local := by rfl)
    (hw : swappedStores [.Tuple [.Name x px, .Name y py] kt pt] (.Tuple [a, b] k2 pt2) X.env = pure (some [x, y]) := by rfl)
    (hs : swapsWithSole [.Tuple [.Name x px, .Name y py] kt pt] (.Tuple [a, b] k2 pt2) pos.line X.env = pure false := by rfl) :
    PS X (.Assign [.Tuple [.Name x px, .Name y py] kt pt] (.Tuple [a, b] k2 pt2) pos) (upS X.K (dPar [i, j] ta)) := by
  refine PS_weak (ps_par hc hN hi hj hij hx hy ha hw hs) fun D σ H ⟨δ, g, E, rs, rg, h, k1, k⟩ => ⟨δ, g, _, rs, rg, h, fun ds g1 vs H1 e rg1 rd p => ?_⟩
  split at p
  · rename_i δ' es
    have hl := setAll_len es
    have hv : vs.length = 2 := by rw [← rd.length]; exact hl
    match vs, hv with
    | [v, w], _ =>
      obtain ⟨σ', e', rs'⟩ := setAll_rs rd (rs.mono (e.kp rg)) es
      subst e'
      exact ⟨v, w, rfl, k1 _ _ _ _ e rg1 rs' p⟩
  · exact p.elim
/-! ### loops -/
def dLoop (tg : Tg) (tb : TDS) (E : DEnds) : List DV → DS → DG → Prop
  | [], δ, g => E.nx δ g
  | d :: ds, δ, g => match bindT tg d δ with
    | some δ1 => tb { E with nx := dLoop tg tb E ds, ct := dLoop tg tb E ds, bk := E.nx } δ1 g
    | none => False
def dFor (wi : TDI) (tg : Tg) (tb : TDS) : TDS := fun E δ g => wi δ g fun ds g1 => dLoop tg tb E ds δ g1
/-- what a step of a walk leaves -/
theorem step_kp {H H' : Hp} (h : Grw H H') : Kp H H' := by
  rcases h with h | ⟨p, o, h, e⟩ | ⟨p, o, p2, o2, h, h2, n, e⟩
  · subst h; exact Kp.refl
  · subst e; exact Kp.fresh h
  · subst e; exact (Kp.fresh h).trans (Kp.fresh (by rw [upd_ne n]; exact h2))
theorem step_rg {K : Fg} {g : DG} {H H' : Hp} (h : Grw H H') (rg : RG K H g) : RG K H' g := by
  rcases h with h | ⟨p, o, h, e⟩ | ⟨p, o, p2, o2, h, h2, n, e⟩
  · subst h; exact rg
  · subst e; exact rg.fresh h
  · subst e; exact (rg.fresh h).fresh (by rw [upd_ne n]; exact h2)
theorem step_ext {K : Fg} {g : DG} {H H' : Hp} (h : Grw H H') (rg : RG K H g) : Ext g H g H' := by
  rcases h with h | ⟨p, o, h, e⟩ | ⟨p, o, p2, o2, h, h2, n, e⟩
  · subst h; exact Ext.refl
  · subst e; exact Ext.fresh rg h
  · subst e; exact (Ext.fresh rg h).trans (Ext.fresh (rg.fresh h) (by rw [upd_ne n]; exact h2))
theorem pds_for {iter tgx : Expr} {body : List Stmt} {wi : TDI} {tg : Tg} {tb : TDS} (hp : PassesOwn (model X.prog X.w) X.A X.env X.xe) (hc : X.calm = true) (hi : PI X tgx iter (upI X.K wi)) (hg : PG X tgx (tgG X.K tg)) (hb : PSs X body (upS X.K tb))
    (hs : ∀ x, foldedSetIterable iter X.env x = pure x := by intro _; rfl) : PS X (.For tgx iter body [] pos) (upS X.K (dFor wi tg tb)) := by
  refine PS_weak (ps_for hp hc hi hg hb hs) fun D σ H ⟨δ, g, E, rs, rg, h, k1, k2, k3, k4⟩ => ⟨δ, g, _, rs, rg, h, fun ds g1 J H1 e1 rg1 dw p => ?_⟩
  refine ⟨fun i m σ' H' => m = ds.length - i ∧ i ≤ ds.length ∧ ∃ δ' g', Ext g H g' H' ∧ Kp H1 H' ∧ RS X.K H' δ' σ' ∧ RG X.K H' g' ∧ dLoop tg tb E (ds.drop i) δ' g', ⟨ds.length, rfl, Nat.zero_le _, δ, g1, e1, Kp.refl, rs.mono (e1.kp rg), rg1, p⟩, ?_⟩
  rintro i m σ2 H2 ⟨rfl, hi, δ2, g2, e2, kp2, rs2, rg2, q⟩
  by_cases hlt : i < ds.length
  · have hd : ds.drop i = ds[i] :: ds.drop (i + 1) := List.drop_eq_getElem_cons hlt
    rw [hd] at q
    have q' : (match bindT tg ds[i] δ2 with
      | some δ1 => tb { E with nx := dLoop tg tb E (ds.drop (i + 1)), ct := dLoop tg tb E (ds.drop (i + 1)), bk := E.nx } δ1 g2
      | none => False) := q
    refine .inr ⟨dw.goes i H2 hlt kp2, fun σ' H' => ∃ δ' g', Ext g H g' H' ∧ Kp H1 H' ∧ RS X.K H' δ' σ' ∧ RG X.K H' g' ∧ dLoop tg tb E (ds.drop (i + 1)) δ' g', fun σ' H' z => ⟨ds.length - (i + 1), by omega, rfl, hlt, z⟩, fun x H3 y => ?_⟩
    obtain ⟨st, rd⟩ := dw.yields i H2 x H3 ds[i] (by simp [hlt]) kp2 y
    split at q'
    · rename_i δ3 eb
      refine tg_run rd (rs2.mono (step_kp st)) eb fun σ3 rs3 _ => ?_
      have rg3 := step_rg st rg2
      have e3 := step_ext st rg2
      refine ⟨δ3, g2, _, rs3, rg3, q', fun δ' g' σ' H' e rg' rs' z => ?_, fun d g' v H' e rg' rd' z => k2 _ _ _ _ ((e2.trans e3).trans e) rg' rd' z, fun δ' g' σ' H' e rg' rs' z => k1 _ _ _ _ ((e2.trans e3).trans e) rg' rs' z, fun δ' g' σ' H' e rg' rs' z => ?_⟩
      · exact ⟨δ', g', (e2.trans e3).trans e, (kp2.trans (step_kp st)).trans (e.kp rg3), rs', rg', z⟩
      · exact ⟨δ', g', (e2.trans e3).trans e, (kp2.trans (step_kp st)).trans (e.kp rg3), rs', rg', z⟩
    · exact q'.elim
  · have ei : i = ds.length := by omega
    subst ei
    rw [List.drop_length] at q
    exact .inl ⟨dw.stops H2 kp2, k1 _ _ _ _ e2 rg2 rs2 q⟩
def dWh (c : TDT) (tb : TDS) (E : DEnds) : Nat → DS → DG → Prop
  | 0, _, _ => False
  | n + 1, δ, g => c δ g fun b g1 => if b = true then tb { E with nx := dWh c tb E n, ct := dWh c tb E n, bk := E.nx } δ g1 else E.nx δ g1
def dWhile (c : TDT) (tb : TDS) : TDS := fun E δ g => ∃ n, dWh c tb E n δ g
theorem pds_while {c : Expr} {body : List Stmt} {tc : TDT} {tb : TDS} (hp : PassesOwn (model X.prog X.w) X.A X.env X.xe) (hc : PT X c (upT X.K tc)) (hb : PSs X body (upS X.K tb)) : PS X (.While c body [] pos) (upS X.K (dWhile tc tb)) := by
  refine PS_weak (ps_while hp hc hb) fun D σ H ⟨δ, g, E, rs, rg, ⟨n, h⟩, k1, k2, k3, k4⟩ => ?_
  refine ⟨fun m σ' H' => ∃ δ' g', Ext g H g' H' ∧ RS X.K H' δ' σ' ∧ RG X.K H' g' ∧ dWh tc tb E m δ' g', ⟨n, δ, g, Ext.refl, rs, rg, h⟩, ?_⟩
  rintro m σ2 H2 ⟨δ2, g2, e2, rs2, rg2, q⟩
  cases m with
  | zero => exact False.elim q
  | succ m =>
    refine ⟨δ2, g2, _, rs2, rg2, q, fun b g3 H3 e3 rg3 p => ?_⟩
    cases b with
    | false => rw [if_neg Bool.false_ne_true] at p ⊢; exact k1 _ _ _ _ (e2.trans e3) rg3 (rs2.mono (e3.kp rg2)) p
    | true =>
      rw [if_pos rfl] at p ⊢
      refine ⟨fun σ' H' => ∃ δ' g', Ext g H g' H' ∧ RS X.K H' δ' σ' ∧ RG X.K H' g' ∧ dWh tc tb E m δ' g', fun σ' H' z => ⟨m, Nat.lt_succ_self m, z⟩, δ2, g3, _, rs2.mono (e3.kp rg2), rg3, p, ?_, ?_, ?_, ?_⟩
      · exact fun δ' g' σ' H' e rg' rs' z => ⟨δ', g', (e2.trans e3).trans e, rs', rg', z⟩
      · exact fun d g' v H' e rg' rd' z => k2 _ _ _ _ ((e2.trans e3).trans e) rg' rd' z
      · exact fun δ' g' σ' H' e rg' rs' z => k1 _ _ _ _ ((e2.trans e3).trans e) rg' rs' z
      · exact fun δ' g' σ' H' e rg' rs' z => ⟨δ', g', (e2.trans e3).trans e, rs', rg', z⟩
end
end DL

/-! Deep layer D: walks, comprehensions, defs. -/
namespace DL
open PySem PySem.Spec PyProof.Rows L2
section
variable {X : Cx} {pos : Pos} {tgx e e2 : Expr} {te : TDE} {t : TDA}
/-! ### what is walked -/
def wSeq (te : TDE) : TDI := fun δ g R => te δ g fun x g1 => match x with | .tup ds => R ds g1 | .lst ds => R ds g1 | .scr ns => R (ns.map .int) g1 | .tpl ds => R ds g1 | _ => False
theorem dwalk_st {K : Fg} {a : Addr} {H : Hp} {ds : List DV} {vs : List V} (h : ∀ H', Kp H H' → SqL K H' a vs) (r : RDs K H ds vs) : DWalk K (Itl K a) ds H :=
  ⟨fun i H' hi k => ⟨vs, vs[i]'(by rw [← r.length]; exact hi), h _ k, by simp [show i < vs.length by rw [← r.length]; exact hi]⟩,
   fun H' k => ⟨vs, h _ k, by rw [r.length]; exact Nat.le_refl _⟩, fun i H1 x H' d hd k y => by
    obtain ⟨e, y⟩ := y
    subst e
    obtain ⟨v, hv, rv⟩ := r.get hd
    have := y vs (h _ k)
    rw [hv] at this; cases this
    exact ⟨.inl rfl, rv.mono k⟩⟩
theorem dwalk_list {K : Fg} {a : Addr} {H : Hp} {ds : List DV} {vs : List V} (h : FzL K H a vs) (r : RDs K H ds vs) : DWalk K (Itl K a) ds H := dwalk_st (fun _ k => (k.fz h).sq) r
theorem dwalk_tup {K : Fg} {a : Addr} {H : Hp} {ds : List DV} {vs : List V} (h : SqT K H a vs) (r : RDs K H ds vs) : DWalk K (Itt K a) ds H :=
  ⟨fun i H' hi k => ⟨vs, vs[i]'(by rw [← r.length]; exact hi), k.sqT h, by simp [show i < vs.length by rw [← r.length]; exact hi]⟩,
   fun H' k => ⟨vs, k.sqT h, by rw [r.length]; exact Nat.le_refl _⟩, fun i H1 x H' d hd k y => by
    obtain ⟨e, y⟩ := y
    subst e
    obtain ⟨v, hv, rv⟩ := r.get hd
    have := y vs (k.sqT h)
    rw [hv] at this; cases this
    exact ⟨.inl rfl, rv.mono k⟩⟩
def iSeq (K : Fg) (tl : TE) : TI := fun σ H R => tl σ H fun x H1 => ∃ a, x = .ref a ∧ (((∃ xs, SqL K H1 a xs) ∧ R (Itl K a) H1) ∨ ((∃ xs, SqT K H1 a xs) ∧ R (Itt K a) H1))
theorem pi_seq {l : Expr} {tl : TE} (hl : PE X l tl) : PI X tgx l (iSeq X.K tl) := by
  refine ⟨fun pins s σ H R I h => ?_⟩
  refine thn (hl.run pins s σ H _ I h) fun v s1 ⟨x, H1, I1, r1, q1⟩ => ?_
  obtain ⟨a, e, q1⟩ := q1
  subst e
  rcases q1 with ⟨⟨xs, hq⟩, q⟩ | ⟨⟨xs, hq⟩, q⟩
  · have h1 : PI { X with xe := X.xe } tgx l (iList X.K (fun σ H Q => Q (.ref a) H)) → True := fun _ => trivial
    cases r1
    obtain ⟨its, rv, p, hz⟩ := I1.list hq
    refine wpAny_pyIter_list p.isList ?_
    refine ⟨s1.heap.objs.size, [s1.heap.objs.size], _, _, H1, rfl, I1.kept (t' := s1.toks) fun b o e => Heap.get?_push_of_some _ e, turn_list a _, ⟨_, Heap.get?_push_size _ rfl, rfl, rfl⟩, fun b hb => ?_, q⟩
    have e : b = s1.heap.objs.size := by simpa using hb
    subst e
    exact I1.fpOk (Nat.le_refl _) (I1.hok.fresh (Nat.le_refl _))
  · cases r1
    obtain ⟨its, rv, p, hz⟩ := I1.tuple hq
    refine wpAny_pyIter_tuple (show s1.heap.IsTuple a its.toArray from p) ?_
    refine ⟨s1.heap.objs.size, [s1.heap.objs.size], _, _, H1, rfl, I1.kept (t' := s1.toks) fun b o e => Heap.get?_push_of_some _ e, turn_tuple a _, ⟨_, Heap.get?_push_size _ rfl, rfl, rfl⟩, fun b hb => ?_, q⟩
    have e : b = s1.heap.objs.size := by simpa using hb
    subst e
    exact I1.fpOk (Nat.le_refl _) (I1.hok.fresh (Nat.le_refl _))
theorem pid_seq (he : PE X e (upE X.K te)) : PI X tgx e (upI X.K (wSeq te)) := by
  refine PI_weak (pi_seq he) fun σ H R ⟨δ, g, P, rs, rg, h, k⟩ => ⟨δ, g, _, rs, rg, h, fun d g1 v H1 e1 rg1 rd p => ?_⟩
  cases rd with
  | tup hs hr => exact ⟨_, rfl, .inr ⟨⟨_, SqT.of hs⟩, k _ _ _ _ e1 rg1 (dwalk_tup (SqT.of hs) hr) p⟩⟩
  | lst hs hr => exact ⟨_, rfl, .inl ⟨⟨_, hs.sq⟩, k _ _ _ _ e1 rg1 (dwalk_list hs hr) p⟩⟩
  | scr hs => exact ⟨_, rfl, .inl ⟨⟨_, hs.sq⟩, k _ _ _ _ e1 rg1 (dwalk_st (fun _ k => (k.sc hs).sq) (RDs.ofInts _)) p⟩⟩
  | tpl hs hr => exact ⟨_, rfl, .inr ⟨⟨_, hs.sq⟩, k _ _ _ _ e1 rg1 (dwalk_tup hs.sq hr) p⟩⟩
  | _ => exact False.elim p
/-- lo, lo + 1, .. -/
def rangeD (lo : Int) (n : Nat) : List DV := (List.range n).map fun (i : Nat) => DV.int (lo + i)
theorem dwalk_range {K : Fg} {H : Hp} {lo : Int} {n : Nat} : DWalk K (Itr lo n) (rangeD lo n) H := by
  have hl : (rangeD lo n).length = n := by simp [rangeD]
  refine ⟨fun i H' hi _ => by rw [hl] at hi; exact hi, fun H' _ => by rw [hl]; exact Nat.le_refl _, fun i H1 x H' d hd _ y => ?_⟩
  obtain ⟨e, y⟩ := y
  subst e y
  have hi : i < n := by rw [← hl]; exact (List.getElem?_eq_some_iff.mp hd).1
  have : d = .int (lo + i) := by simp [rangeD, hi] at hd; exact hd.symm
  subst this
  exact ⟨.inl rfl, .int _⟩
def rngOk (i j : Int) : Prop := -(2 ^ 62) ≤ i ∧ i < 2 ^ 62 ∧ -(2 ^ 62) ≤ j ∧ j < 2 ^ 62
def one1 (F : DV → DG → Prop) : List DV → DG → Prop := fun xs g => match xs with | [x] => F x g | _ => False
def one2 (F : DV → DV → DG → Prop) : List DV → DG → Prop := fun xs g => match xs with | [x, y] => F x y g | _ => False
def one3 (F : DV → DV → DV → DG → Prop) : List DV → DG → Prop := fun xs g => match xs with | [x, y, z] => F x y z g | _ => False
theorem one1_of {K : Fg} {H : Hp} {F : DV → DG → Prop} {xs : List DV} {vs : List V} {g : DG} (r : RDs K H xs vs) (h : one1 F xs g) : ∃ x v, xs = [x] ∧ vs = [v] ∧ RD K H x v ∧ F x g := by
  match xs, vs, r with
  | [x], [v], .cons r .nil => exact ⟨x, v, rfl, rfl, r, h⟩
  | [], _, _ => exact False.elim h
  | _ :: _ :: _, _, _ => exact False.elim h
theorem one2_of {K : Fg} {H : Hp} {F : DV → DV → DG → Prop} {xs : List DV} {vs : List V} {g : DG} (r : RDs K H xs vs) (h : one2 F xs g) : ∃ x y v u, xs = [x, y] ∧ vs = [v, u] ∧ RD K H x v ∧ RD K H y u ∧ F x y g := by
  match xs, vs, r with
  | [x, y], [v, u], .cons r (.cons r' .nil) => exact ⟨x, y, v, u, rfl, rfl, r, r', h⟩
  | [], _, _ => exact False.elim h
  | [_], _, _ => exact False.elim h
  | _ :: _ :: _ :: _, _, _ => exact False.elim h
theorem one3_of {K : Fg} {H : Hp} {F : DV → DV → DV → DG → Prop} {xs : List DV} {vs : List V} {g : DG} (r : RDs K H xs vs) (h : one3 F xs g) : ∃ x y z v u w, xs = [x, y, z] ∧ vs = [v, u, w] ∧ RD K H x v ∧ RD K H y u ∧ RD K H z w ∧ F x y z g := by
  match xs, vs, r with
  | [x, y, z], [v, u, w], .cons r (.cons r' (.cons r'' .nil)) => exact ⟨x, y, z, v, u, w, rfl, rfl, r, r', r'', h⟩
  | [], _, _ => exact False.elim h
  | [_], _, _ => exact False.elim h
  | [_, _], _, _ => exact False.elim h
  | _ :: _ :: _ :: _ :: _, _, _ => exact False.elim h
def wRng1 (t : TDA) : TDI := fun δ g R => t δ g (one1 fun x g1 => match x with | .int j => rngOk 0 j ∧ R (rangeD 0 j.toNat) g1 | _ => False)
def wRng2 (t : TDA) : TDI := fun δ g R => t δ g (one2 fun x y g1 => match x, y with | .int i, .int j => rngOk i j ∧ R (rangeD i (j - i).toNat) g1 | _, _ => False)
theorem pid_range1 {a : Expr} {p : Pos} (hm : X.mg "range" = none) (ha : PA X [a] (upA X.K t)) (hg : Gl X "range" := by rfl) (hs : starEach [a] X.env = [(false, eval a X.env)] := by rfl) : PI X tgx (.Call (.Name "range" p) [a] [] pos) (upI X.K (wRng1 t)) := by
  refine PI_weak (pi_range1 hg hm ha hs) fun σ H R ⟨δ, g, P, rs, rg, h, k⟩ => ⟨δ, g, _, rs, rg, h, fun xs g1 vs H1 e1 rg1 rd p => ?_⟩
  obtain ⟨x, v, rfl, rfl, r, p⟩ := one1_of rd p
  split at p
  · cases r
    exact ⟨_, rfl, p.1.2.2.1, p.1.2.2.2, k _ _ _ _ e1 rg1 dwalk_range p.2⟩
  · exact p.elim
theorem pid_range2 {a b : Expr} {p : Pos} (hm : X.mg "range" = none) (ha : PA X [a, b] (upA X.K t)) (hg : Gl X "range" := by rfl) (hs : starEach [a, b] X.env = [(false, eval a X.env), (false, eval b X.env)] := by rfl) (hs2 : starEach [b] X.env = [(false, eval b X.env)] := by rfl) : PI X tgx (.Call (.Name "range" p) [a, b] [] pos) (upI X.K (wRng2 t)) := by
  refine PI_weak (pi_range2 hg hm ha hs hs2) fun σ H R ⟨δ, g, P, rs, rg, h, k⟩ => ⟨δ, g, _, rs, rg, h, fun xs g1 vs H1 e1 rg1 rd p => ?_⟩
  obtain ⟨x, y, v, u, rfl, rfl, r, r', p⟩ := one2_of rd p
  split at p
  · cases r; cases r'
    exact ⟨_, _, rfl, p.1, k _ _ _ _ e1 rg1 dwalk_range p.2⟩
  · exact p.elim
/-- i, i - 1, .., j + 1 -/
def downD (i : Int) (n : Nat) : List DV := (List.range n).map fun (m : Nat) => DV.int (i + (m : Int) * (-1))
def wRngD (t : TDA) : TDI := fun δ g R => t δ g (one3 fun x y z g1 => match x, y, z with | .int i, .int j, .int c => (rngOk i j ∧ c = -1) ∧ R (downD i (i - j).toNat) g1 | _, _, _ => False)
theorem dwalk_down {K : Fg} {H : Hp} {i : Int} {n : Nat} : DWalk K (Itc i (-1) n) (downD i n) H := by
  have hl : (downD i n).length = n := by simp [downD]
  refine ⟨fun i H' hi _ => by rw [hl] at hi; exact hi, fun H' _ => by rw [hl]; exact Nat.le_refl _, fun m H1 x H' d hd _ y => ?_⟩
  obtain ⟨e, y⟩ := y
  subst e y
  have hi : m < n := by rw [← hl]; exact (List.getElem?_eq_some_iff.mp hd).1
  have : d = .int (i + (m : Int) * (-1)) := by simp [downD, hi] at hd; rw [← hd]; congr 1; omega
  subst this
  exact ⟨.inl rfl, .int _⟩
theorem pid_rangeD {a b c : Expr} {p : Pos} (hm : X.mg "range" = none) (ha : PA X [a, b, c] (upA X.K t)) (hg : Gl X "range" := by rfl)
    (hs : starEach [a, b, c] X.env = (false, eval a X.env) :: starEach [b, c] X.env := by rfl) (hpl : (backTo pos (starEach [b, c] X.env)).any (·.1) = false := by rfl) : PI X tgx (.Call (.Name "range" p) [a, b, c] [] pos) (upI X.K (wRngD t)) := by
  refine PI_weak (pi_range3 hg hm ha hs hpl) fun σ H R ⟨δ, g, P, rs, rg, h, k⟩ => ⟨δ, g, _, rs, rg, h, fun xs g1 vs H1 e1 rg1 rd p => ?_⟩
  obtain ⟨x, y, z, v, u, w, rfl, rfl, r, r', r'', p⟩ := one3_of rd p
  split at p
  · cases r; cases r'; cases r''
    obtain ⟨⟨⟨o1, o2, o3, o4⟩, ec⟩, pp⟩ := p
    subst ec
    exact ⟨_, _, _, _, rfl, RgC.neg o1 o2 o3 o4, k _ _ _ _ e1 rg1 dwalk_down pp⟩
  · exact p.elim
/-- zip of two tuples or two lists -/
def zipD : List DV → List DV → List DV
  | x :: xs, y :: ys => .tup [x, y] :: zipD xs ys
  | _, _ => []
theorem zipD_len : ∀ xs ys : List DV, (zipD xs ys).length = min xs.length ys.length
  | [], _ => by simp [zipD]
  | _ :: _, [] => by simp [zipD]
  | x :: xs, y :: ys => by simp only [zipD, List.length_cons, zipD_len xs ys]; omega
theorem zipD_get : ∀ {xs ys : List DV} {i : Nat} {d : DV}, (zipD xs ys)[i]? = some d → ∃ x y, xs[i]? = some x ∧ ys[i]? = some y ∧ d = .tup [x, y]
  | [], _, _, _, h => by simp [zipD] at h
  | _ :: _, [], _, _, h => by simp [zipD] at h
  | x :: xs, y :: ys, 0, d, h => by simp [zipD] at h; exact ⟨x, y, rfl, rfl, h.symm⟩
  | x :: xs, y :: ys, i + 1, d, h => by
    obtain ⟨x', y', h1, h2, h3⟩ := zipD_get (xs := xs) (ys := ys) (i := i) (by simpa [zipD] using h)
    exact ⟨x', y', by simpa using h1, by simpa using h2, h3⟩
def wZip (t : TDA) : TDI := fun δ g R => t δ g (one2 fun x y g1 => match x, y with
  | .tup xs, .tup ys => R (zipD xs ys) g1
  | .lst xs, .lst ys => R (zipD xs ys) g1
  | .tpl xs, .tup ys => R (zipD xs ys) g1
  | .tpl xs, .tpl ys => R (zipD xs ys) g1
  | _, _ => False)
theorem dwalk_zipL {K : Fg} {H : Hp} {a b : Addr} {xs ys : List DV} {vs us : List V} (ha : FzL K H a vs) (hb : FzL K H b us) (ra : RDs K H xs vs) (rb : RDs K H ys us) : DWalk K (Itz K a b) (zipD xs ys) H := by
  have l1 := ra.length
  have l2 := rb.length
  have hl := zipD_len xs ys
  refine ⟨fun i H' hi k => ?_, fun H' k => ⟨vs, us, (k.fz ha).sq, (k.fz hb).sq, by omega⟩, fun i H1 x H' d hd k y => ?_⟩
  · have h1 : i < vs.length := by omega
    have h2 : i < us.length := by omega
    exact ⟨vs, us, vs[i], us[i], (k.fz ha).sq, (k.fz hb).sq, by simp [h1], by simp [h2]⟩
  · obtain ⟨T, v, u, h1, h2, h3, h4, h5⟩ := y
    obtain ⟨x, y, e1, e2, rfl⟩ := zipD_get hd
    have q1 := h4 vs (k.fz ha).sq
    have q2 := h5 us (k.fz hb).sq
    obtain ⟨v', e1', r1⟩ := ra.get e1
    obtain ⟨u', e2', r2⟩ := rb.get e2
    rw [q1] at e1'; cases e1'
    rw [q2] at e2'; cases e2'
    have kk : Kp H1 H' := by rw [h3]; exact Kp.fresh h2
    refine ⟨.inr ⟨T, _, h2, h3⟩, ?_⟩
    rw [h1]
    refine .tup (by rw [h3]; exact upd_same) (.cons ((r1.mono k).mono kk) (.cons ((r2.mono k).mono kk) .nil))
theorem dwalk_zipT {K : Fg} {H : Hp} {a b : Addr} {xs ys : List DV} {vs us : List V} (ha : SqT K H a vs) (hb : SqT K H b us) (ra : RDs K H xs vs) (rb : RDs K H ys us) : DWalk K (RZ.ItzT K a b) (zipD xs ys) H := by
  have l1 := ra.length
  have l2 := rb.length
  have hl := zipD_len xs ys
  refine ⟨fun i H' hi k => ?_, fun H' k => ⟨vs, us, k.sqT ha, k.sqT hb, by omega⟩, fun i H1 x H' d hd k y => ?_⟩
  · have h1 : i < vs.length := by omega
    have h2 : i < us.length := by omega
    exact ⟨vs, us, vs[i], us[i], k.sqT ha, k.sqT hb, by simp [h1], by simp [h2]⟩
  · obtain ⟨T, v, u, h1, h2, h3, h4, h5⟩ := y
    obtain ⟨x, y, e1, e2, rfl⟩ := zipD_get hd
    have q1 := h4 vs (k.sqT ha)
    have q2 := h5 us (k.sqT hb)
    obtain ⟨v', e1', r1⟩ := ra.get e1
    obtain ⟨u', e2', r2⟩ := rb.get e2
    rw [q1] at e1'; cases e1'
    rw [q2] at e2'; cases e2'
    have kk : Kp H1 H' := by rw [h3]; exact Kp.fresh h2
    refine ⟨.inr ⟨T, _, h2, h3⟩, ?_⟩
    rw [h1]
    refine .tup (by rw [h3]; exact upd_same) (.cons ((r1.mono k).mono kk) (.cons ((r2.mono k).mono kk) .nil))
theorem pid_zip {elts : List Expr} {kk : Nat} {p tpos : Pos} (hm : X.mg "zip" = none) (ha : PA X [e, e2] (upA X.K t)) (hg : Gl X "zip" := by rfl) (hs : starEach [e, e2] X.env = (false, eval e X.env) :: starEach [e2] X.env := by rfl) (hpl : (backTo pos (starEach [e2] X.env)).any (·.1) = false := by rfl) :
    PI X (.Tuple elts kk tpos) (.Call (.Name "zip" p) [e, e2] [] pos) (upI X.K (wZip t)) := by
  refine PI_weak (RZ.pi_zipA hg hm ha hs hpl) fun σ H R ⟨δ, g, P, rs, rg, h, k⟩ => ⟨δ, g, _, rs, rg, h, fun xs g1 vs H1 e1 rg1 rd p => ?_⟩
  obtain ⟨x, y, v, u, rfl, rfl, r, r', p⟩ := one2_of rd p
  split at p
  · cases r with
    | tup hs hr => cases r' with
      | tup hs' hr' => exact ⟨_, _, _, _, rfl, .inr ⟨SqT.of hs, SqT.of hs', k _ _ _ _ e1 rg1 (dwalk_zipT (SqT.of hs) (SqT.of hs') hr hr') p⟩⟩
  · cases r with
    | lst hs hr => cases r' with
      | lst hs' hr' => exact ⟨_, _, _, _, rfl, .inl ⟨hs.sq, hs'.sq, k _ _ _ _ e1 rg1 (dwalk_zipL hs hs' hr hr') p⟩⟩
  · cases r with
    | tpl hs hr => cases r' with
      | tup hs' hr' => exact ⟨_, _, _, _, rfl, .inr ⟨hs.sq, SqT.of hs', k _ _ _ _ e1 rg1 (dwalk_zipT hs.sq (SqT.of hs') hr hr') p⟩⟩
  · cases r with
    | tpl hs hr => cases r' with
      | tpl hs' hr' => exact ⟨_, _, _, _, rfl, .inr ⟨hs.sq, hs'.sq, k _ _ _ _ e1 rg1 (dwalk_zipT hs.sq hs'.sq hr hr') p⟩⟩
  · exact p.elim

/-! ### comprehensions -/
def wipeD (δ : DS) : List Nat → DS
  | [] => δ
  | v :: vs => (wipeD δ vs).set v none
theorem RS.wipe {K : Fg} {H : Hp} {δ : DS} {σ : L2.St} (r : RS K H δ σ) : ∀ vs : List Nat, RS K H (wipeD δ vs) (wipe σ vs)
  | [] => r
  | v :: vs => (RS.wipe r vs).unset v
def dComp (tg : Tg) (own : List Nat) (tt : TDT) (te : TDE) (δ : DS) : List DV → DG → (List DV → DG → Prop) → Prop
  | [], g, Q => Q [] g
  | d :: ds, g, Q => match bindT tg d (wipeD δ own) with
    | some δ2 => tt δ2 g fun b g3 => if b = true then te δ2 g3 fun y g4 => dComp tg own tt te δ ds g4 fun ys g5 => Q (y :: ys) g5 else dComp tg own tt te δ ds g3 Q
    | none => False
/-- the list that comes is changed by no one -/
def dLc (wi : TDI) (tg : Tg) (own : List Nat) (tt : TDT) (te : TDE) : TDE := fun δ g Q => wi δ g fun ds g1 => ds.length ≤ sizeLine ∧ dComp tg own tt te δ ds g1 fun ys g2 => Q (.lst ys) g2
theorem wipe_wipe (σ : L2.St) : ∀ vs : List Nat, wipe (wipe σ vs) vs = wipe σ vs
  | [] => rfl
  | v :: vs => by
    show (wipe ((wipe σ vs).set v none) vs).set v none = (wipe σ vs).set v none
    by_cases h : v ∈ vs
    · rw [wipe_set h, wipe_wipe σ vs]
    · rw [wipe_set.wipe_comm h, wipe_wipe σ vs, List.set_set]
theorem lc_up {K : Fg} {wi : TDI} {tg : Tg} {own : List Nat} {tt : TDT} {tel : TDE} {δ : DS} {g : DG} {σ : L2.St} {H : Hp} {P : List DV → DG → Prop} {Q : VK} (hix : ∀ i ∈ tg.ix, i ∈ own) (rs : RS K H δ σ) (rg : RG K H g)
    (h : wi δ g fun ds g1 => ds.length ≤ sizeLine ∧ dComp tg own tt tel δ ds g1 P)
    (k : ∀ D ys vs g' H', Ext g H g' H' → RG K H' g' → g' D = none → (∀ o, H D = some o → g D = none → ¬ OwnO o → False) → H' D = some (.lst vs) → RDs K H' ys vs → P ys g' → Q (.ref D) H') :
    tLc (upI K wi) (tgG K tg) (upT K tt) (upE K tel) own σ H Q := by
  refine ⟨δ, g, _, rs, rg, h, fun ds g1 J H1 e1 rg1 dw p D hD => ?_⟩
  obtain ⟨hlen, p⟩ := p
  have hD0 : ∀ o, H D = some o → g D = none → ¬ OwnO o → False := fun o q n w => by
    have := (e1 D o q n w).1
    rw [hD] at this; cases this
  have k1 : Kp H1 (upd H1 D (.lst [])) := Kp.fresh hD
  refine ⟨fun i m H' => m = ds.length - i ∧ i ≤ ds.length ∧ Kp H1 H' ∧ ∃ (acc : List DV) (accV : List V) (g' : DG), Ext g H g' H' ∧ RG K H' g' ∧ g' D = none ∧ H' D = some (.lst accV) ∧ RDs K H' acc accV ∧ acc.length ≤ i ∧
    dComp tg own tt tel δ (ds.drop i) g' fun ys g2 => P (acc ++ ys) g2, ⟨ds.length, rfl, Nat.zero_le _, k1, [], [], g1, e1.trans (Ext.fresh rg1 hD), rg1.fresh hD, rg1.none hD, upd_same, .nil, Nat.le_refl _, p⟩, ?_⟩
  rintro i m H2 ⟨rfl, hi, kp2, acc, accV, g2, e2, rg2, gD, hD2, ra, hacc, q⟩
  by_cases hlt : i < ds.length
  · have hd : ds.drop i = ds[i] :: ds.drop (i + 1) := List.drop_eq_getElem_cons hlt
    rw [hd] at q
    have q' : (match bindT tg ds[i] (wipeD δ own) with
      | some δ2 => tt δ2 g2 fun b g3 => if b = true then tel δ2 g3 fun y g4 => dComp tg own tt tel δ (ds.drop (i + 1)) g4 fun ys g5 => P (acc ++ (y :: ys)) g5 else dComp tg own tt tel δ (ds.drop (i + 1)) g3 fun ys g2 => P (acc ++ ys) g2
      | none => False) := q
    refine .inr ⟨dw.goes i H2 hlt kp2, fun H' => Kp H1 H' ∧ ∃ (acc : List DV) (accV : List V) (g' : DG), Ext g H g' H' ∧ RG K H' g' ∧ g' D = none ∧ H' D = some (.lst accV) ∧ RDs K H' acc accV ∧ acc.length ≤ i + 1 ∧
      dComp tg own tt tel δ (ds.drop (i + 1)) g' fun ys g2 => P (acc ++ ys) g2, fun H' z => ⟨ds.length - (i + 1), by omega, rfl, hlt, z⟩, fun x H3 y => ?_⟩
    obtain ⟨st, rd⟩ := dw.yields i H2 x H3 ds[i] (by simp [hlt]) kp2 y
    split at q'
    · rename_i δ3 eb
      have rg3 := step_rg st rg2
      have e3 := step_ext st rg2
      have rs3 : RS K H3 (wipeD δ own) (wipe σ own) := ((rs.mono (e2.kp rg)).mono (step_kp st)).wipe own
      refine tg_run rd rs3 eb fun σ3 rsT hw => ⟨?_, ?_⟩
      · rw [hw own hix]
        exact wipe_wipe σ own
      · have hD3 : H3 D = some (.lst accV) := (e3 D _ hD2 gD fun z => z).1
        refine ⟨δ3, g2, _, rsT, rg3, q', fun b g4 H4 e4 rg4 z => ?_⟩
        have hD4 := e4 D _ hD3 gD fun z => z
        cases b with
        | false =>
          dsimp only
          rw [if_neg Bool.false_ne_true] at z ⊢
          exact ⟨(kp2.trans (step_kp st)).trans (e4.kp rg3), acc, accV, g4, (e2.trans e3).trans e4, rg4, hD4.2, hD4.1, (ra.mono (step_kp st)).mono (e4.kp rg3), by omega, z⟩
        | true =>
          dsimp only
          rw [if_pos rfl] at z ⊢
          refine ⟨δ3, g4, _, rsT.mono (e4.kp rg3), rg4, z, fun y g5 v H5 e5 rg5 rd5 w => ?_⟩
          have hD5 := e5 D _ hD4.1 hD4.2 fun z => z
          have la := ra.length
          refine ⟨accV, hD5.1, by omega, ?_⟩
          have km : Kp H5 (upd H5 D (.lst (accV ++ [v]))) := Kp.mut (by rw [hD5.1]; exact True.intro)
          refine ⟨(((kp2.trans (step_kp st)).trans (e4.kp rg3)).trans (e5.kp rg4)).trans km, acc ++ [y], accV ++ [v], g5, fun a o ha hn hw => ?_, fun a o ha => ?_, hD5.2, upd_same, ?_, by rw [List.length_append, List.length_singleton]; omega, ?_⟩
          · obtain ⟨z1, z2⟩ := ((e2.trans e3).trans (e4.trans e5)) a o ha hn hw
            refine ⟨?_, z2⟩
            rw [upd_ne (fun q => by subst q; exact hD0 o ha hn hw)]
            exact z1
          · have na : a ≠ D := fun q => by subst q; rw [hD5.2] at ha; cases ha
            exact (rg5 a o ha).keep km (upd_ne na)
          · exact ((((ra.mono (step_kp st)).mono (e4.kp rg3)).mono (e5.kp rg4)).mono km).append (.one (rd5.mono km))
          · have hw2 : (fun ys g2 => P (acc ++ [y] ++ ys) g2) = (fun ys g5 => P (acc ++ (y :: ys)) g5) := by
              funext ys g5
              rw [List.append_assoc]
              rfl
            rw [hw2]
            exact w
    · exact q'.elim
  · have ei : i = ds.length := by omega
    subst ei
    rw [List.drop_length] at q
    have q' : P (acc ++ []) g2 := q
    rw [List.append_nil] at q'
    exact .inl ⟨dw.stops H2 kp2, k D acc accV g2 H2 e2 rg2 gD hD0 hD2 ra q'⟩

theorem lock_ext {g g' : DG} {H H' : Hp} {D : Addr} {o : HO} (e : Ext g H g' H') (hD : ∀ o, H D = some o → g D = none → ¬ OwnO o → False) : Ext g H g' (upd H' D o) := fun a u ha hn hw => by
  obtain ⟨z1, z2⟩ := e a u ha hn hw
  exact ⟨by rw [upd_ne (fun q => by subst q; exact hD u ha hn hw)]; exact z1, z2⟩
theorem lock_rg {K : Fg} {g' : DG} {H' : Hp} {D : Addr} {o : HO} {vs : List V} (rg : RG K H' g') (gD : g' D = none) (hD : H' D = some (.lst vs)) : RG K (upd H' D o) g' := fun a u ha => by
  have na : a ≠ D := fun q => by subst q; rw [gD] at ha; cases ha
  exact (rg a u ha).keep (Kp.mut (by rw [hD]; exact True.intro)) (upd_ne na)
variable {elt iter : Expr} {ifs : List Expr} {scope : Scope} {own : List (Str × Nat)} {wi : TDI} {tg : Tg} {tt : TDT} {tel : TDE}
theorem pd_lc (hc : X.calm = true) (hN : X.N.Nodup) (hi : PI X tgx iter (upI X.K wi)) (ok : BlkOk X.N X.env.scope scope own)
    (hg : ∀ (s : Shared) (H : Hp) (C : Addr) (cl : List (Str × Addr)) (fp : List Addr), PG (X.blk s H scope (compEnvC scope cl C X.env) fp) tgx (tgG X.K tg)) (ht : ∀ (s : Shared) (H : Hp) (C : Addr) (cl : List (Str × Addr)) (fp : List Addr), PTs (X.blk s H scope (compEnvC scope cl C X.env) fp) ifs (upT X.K tt))
    (he : ∀ (s : Shared) (H : Hp) (C : Addr) (cl : List (Str × Addr)) (fp : List Addr), PE (X.blk s H scope (compEnvC scope cl C X.env) fp) elt (upE X.K tel)) (hix : ∀ i ∈ tg.ix, i ∈ own.map (·.2) := by decide) (hs : ∀ x, foldedSetIterable iter X.env x = pure x := by intro _; rfl) :
    PE X (.ListComp elt [⟨tgx, iter, ifs, 0⟩] scope pos) (upE X.K (dLc wi tg (own.map (·.2)) tt tel)) :=
  PE_weak (PE_fz (pe_lc hc hN hi ok hg ht he hs)) fun σ H Q ⟨δ, g, P, rs, rg, h, k⟩ => lc_up (P := fun ys g2 => P (.lst ys) g2) hix rs rg h fun D ys vs g' H' e rg' gD hD0 hD rd p =>
    .inr ⟨D, .lst vs, rfl, hD, trivial, fun o => k _ g' _ _ (lock_ext e hD0) (lock_rg rg' gD hD) (.lst ⟨o, upd_same⟩ (rd.mono (Kp.mut (by rw [hD]; exact True.intro)))) p⟩
theorem PS_fz {st : Stmt} {t : TS} (h : PS X st t) : PS X st (fun D σ H => t { D with nx := fun σ' H' => D.nx σ' H' ∨ ∃ p u, H' p = some u ∧ Mut (some u) ∧ ∀ o, D.nx σ' (upd H' p (.frz o u)) } σ H) := by
  refine ⟨fun pins s σ H D I q => thn (h.run pins s σ H _ I q) fun f s' z => ?_⟩
  cases f with
  | next =>
    obtain ⟨σ', H', I', z⟩ := z
    rcases z with z | ⟨p, vs, hp, mu, z⟩
    · exact ⟨σ', H', I', z⟩
    · obtain ⟨o, I2⟩ := I'.lock hp mu
      exact ⟨σ', _, I2, z o⟩
  | ret v => exact z
  | brk => exact z
  | cont => exact z
/-- name = [..], on one line, the name a local -/
theorem pds_setLc {i : Nat} {y : Str} {py spos : Pos} (hc : X.calm = true) (hN : X.N.Nodup) (hsw : swapsWith (.ListComp elt [⟨tgx, iter, ifs, 0⟩] scope pos) (some (.Name y py)) spos.line X.env = pure true) (hi : PI X tgx iter (upI X.K wi)) (ok : BlkOk X.N X.env.scope scope own)
    (hg : ∀ (s : Shared) (H : Hp) (C : Addr) (cl : List (Str × Addr)) (fp : List Addr), PG (X.blk s H scope (compEnvC scope cl C X.env) fp) tgx (tgG X.K tg)) (ht : ∀ (s : Shared) (H : Hp) (C : Addr) (cl : List (Str × Addr)) (fp : List Addr), PTs (X.blk s H scope (compEnvC scope cl C X.env) fp) ifs (upT X.K tt))
    (he : ∀ (s : Shared) (H : Hp) (C : Addr) (cl : List (Str × Addr)) (fp : List Addr), PE (X.blk s H scope (compEnvC scope cl C X.env) fp) elt (upE X.K tel)) (hy : X.N[i]? = some y := by rfl) (hyl : X.env.scope.names.lookup y = some .local := by rfl)
    (hix : ∀ i ∈ tg.ix, i ∈ own.map (·.2) := by decide) (hs : ∀ x, foldedSetIterable iter X.env x = pure x := by intro _; rfl) :
    PS X (.Assign [.Name y py] (.ListComp elt [⟨tgx, iter, ifs, 0⟩] scope pos) spos) (upS X.K (dAsg (.nm i) (dLc wi tg (own.map (·.2)) tt tel))) :=
  PS_weak (PS_fz (ps_setLc hc hN hy hyl hsw hi ok hg ht he hs)) fun D σ H ⟨δ, g, E, rs, rg, h, k1, _⟩ => lc_up (P := fun ys g2 => E.nx (δ.set i (some (.lst ys))) g2) hix rs rg h fun L ys vs g' H' e rg' gD hD0 hD rd p =>
    .inr ⟨L, .lst vs, hD, trivial, fun o => k1 _ g' _ _ (lock_ext e hD0) (lock_rg rg' gD hD) ((rs.mono ((lock_ext e hD0).kp rg)).set i (.lst ⟨o, upd_same⟩ (rd.mono (Kp.mut (by rw [hD]; exact True.intro))))) p⟩
/-! ### ghost step: a list that no one will change any more is by content from now on -/
def dvOf : DO → DV
  | .lst ds => .lst ds
  | .dK ks ds => .dK ks ds
  | .dT ks ds => .dT ks ds
  | .ins C ds => .ins C (ds.filterMap id)
  | .tbl _ => .non
/-- what may be locked: of an instance all slots are set -/
def frzC : DO → Prop
  | .ins _ ds => ds ≠ [] ∧ ds.all (·.isSome) = true
  | .tbl _ => False
  | _ => True
theorem slots_all {K : Fg} {H : Hp} : ∀ {ds : List (Option DV)} {vs : List (Option V)}, SlD K H ds vs → ds.all (·.isSome) = true → ∃ us : List V, vs = us.map some ∧ RDs K H (ds.filterMap id) us
  | [], [], _, _ => ⟨[], rfl, .nil⟩
  | [], _ :: _, h, _ => by have := h.1; simp at this
  | _ :: _, [], h, _ => by have := h.1; simp at this
  | d :: ds, v :: vs, h, ha => by
    rw [List.all_cons, Bool.and_eq_true] at ha
    obtain ⟨x, rfl⟩ := Option.isSome_iff_exists.mp ha.1
    obtain ⟨u, hu, ru⟩ := h.2 0 x rfl
    have hv : v = some u := Option.some.inj hu
    subst hv
    obtain ⟨us, e, r⟩ := slots_all (ds := ds) (vs := vs) ⟨by have := h.1; simpa using this, fun i d e => by simpa using h.2 (i + 1) d (by simpa using e)⟩ ha.2
    subst e
    exact ⟨u :: us, rfl, .cons ru r⟩
theorem ro_lock {K : Fg} {H : Hp} {p : Addr} {o : DO} (r : RO K H p o) (c : frzC o) : ∃ u, H p = some u ∧ (Mut (some u) ∧ Trk p (some u)) ∧ ∀ od, RD K (upd H p (.frz od u)) (dvOf o) (.ref p) := by
  cases o with
  | lst ds => obtain ⟨vs, e, r⟩ := r; exact ⟨_, e, ⟨trivial, trivial⟩, fun od => .lst ⟨od, upd_same⟩ (r.mono (Kp.mut (by rw [e]; exact True.intro)))⟩
  | dK ks ds => obtain ⟨vs, e, x, r⟩ := r; exact ⟨_, e, ⟨trivial, trivial⟩, fun od => .dK ⟨od, vs, upd_same, x, rfl⟩ (r.mono (Kp.mut (by rw [e]; exact True.intro)))⟩
  | dT ks ds => obtain ⟨vs, e, x, r⟩ := r; exact ⟨_, e, ⟨trivial, trivial⟩, fun od => .dT ⟨od, vs, upd_same, x, rfl⟩ (r.mono (Kp.mut (by rw [e]; exact True.intro)))⟩
  | ins C ds =>
    obtain ⟨dx, vs, ne, h | h, r⟩ := r
    · have := r.1
      rw [h.2, List.length_nil] at this
      exact absurd (List.length_eq_zero_iff.mp this) c.1
    · obtain ⟨us, e, rs⟩ := slots_all r c.2
      subst e
      exact ⟨_, h.1, ⟨trivial, slO_trk⟩, fun od => .ins ⟨od, dx, upd_same, by rw [upd_ne ne]; exact h.2⟩ (rs.mono (Kp.mut (by rw [h.1]; exact slO_trk)))⟩
  | tbl q => exact c.elim
def dFz (i : Nat) (t : TDS) : TDS := fun E δ g => match nth δ i with
  | some (.ref p) => match g p with
    | some o => frzC o ∧ t E (δ.set i (some (dvOf o))) (gdel g p)
    | none => False
  | _ => False
theorem pds_fz (i : Nat) {st : List Stmt} {t : TDS} (h : PSs X st (upS X.K t)) : PSs X st (upS X.K (dFz i t)) := by
  refine ⟨fun pins s σ H D I ⟨δ, g, E, rs, rg, q, k1, k2, k3, k4⟩ => ?_⟩
  unfold dFz at q
  split at q <;> first | exact q.elim | skip
  rename_i p ep
  split at q <;> first | exact q.elim | skip
  rename_i ds eg
  obtain ⟨fc, q⟩ := q
  obtain ⟨vs, hp, mu, rd⟩ := ro_lock (rg p _ eg) fc
  obtain ⟨o, I2⟩ := I.lock hp mu.1
  have km : Kp H (upd H p (.frz o vs)) := Kp.mut (by rw [hp]; exact mu.2)
  have ex : Ext g H (gdel g p) (upd H p (.frz o vs)) := fun a u ha hn _ => by
    have na : a ≠ p := fun z => by rw [z, eg] at hn; cases hn
    exact ⟨by rw [upd_ne na]; exact ha, by unfold gdel; rw [if_neg na]; exact hn⟩
  have rg2 : RG X.K (upd H p (.frz o vs)) (gdel g p) := fun a u ha => by
    unfold gdel at ha
    by_cases na : a = p
    · rw [if_pos na] at ha; cases ha
    · rw [if_neg na] at ha; exact (rg a u ha).keep km (upd_ne na)
  obtain ⟨v, hv, rv⟩ := rs.2 i _ (nth_get ep)
  cases rv
  have rs2 : RS X.K (upd H p (.frz o vs)) (δ.set i (some (dvOf ds))) σ := by
    have z := (rs.mono km).set i (d := dvOf ds) (v := .ref p) (rd o)
    have e : σ.set i (some (.ref p)) = σ := by
      obtain ⟨h1, h2⟩ := List.getElem?_eq_some_iff.mp hv
      rw [← h2]
      exact List.set_getElem_self h1
    rw [e] at z
    exact z
  exact h.run pins s σ _ D I2 ⟨_, _, E, rs2, rg2, q, fun δ' g' σ' H' e => k1 _ _ _ _ (ex.trans e), fun d g' v H' e => k2 _ _ _ _ (ex.trans e), fun δ' g' σ' H' e => k3 _ _ _ _ (ex.trans e), fun δ' g' σ' H' e => k4 _ _ _ _ (ex.trans e)⟩
end

/-! ### defs -/
def startD (N : List Str) (ds : List DV) : DS := ds.map some ++ List.replicate (N.length - ds.length) none
theorem start_rs {K : Fg} {H : Hp} {N : List Str} {ds : List DV} {vs : List V} (r : RDs K H ds vs) : RS K H (startD N ds) (L2.start N vs) := by
  have hl := r.length
  refine ⟨by simp [startD, L2.start, hl], fun i d h => ?_⟩
  unfold startD at h
  unfold L2.start
  by_cases hi : i < ds.length
  · rw [List.getElem?_append_left (by simpa using hi)] at h
    rw [List.getElem?_append_left (by simpa [← hl] using hi)]
    rw [List.getElem?_map] at h
    cases e : ds[i]? with
    | none => rw [e] at h; cases h
    | some x =>
      rw [e] at h
      cases h
      obtain ⟨v, h1, h2⟩ := r.get e
      exact ⟨v, by rw [List.getElem?_map, h1]; rfl, h2⟩
  · rw [List.getElem?_append_right (by simpa using Nat.le_of_not_lt hi)] at h
    have := List.mem_of_getElem? h
    rw [List.mem_replicate] at this
    cases this.2
/-- what a def leaves: garbage is dropped -/
def DRet (P : DV → DG → Prop) : DV → DG → Prop := fun d g => ∃ g', Sub g' g ∧ P d g'
theorem dret {P : DV → DG → Prop} {d : DV} {g : DG} (h : P d g) : DRet P d g := ⟨g, Sub.refl, h⟩
def dEnds (P : DV → DG → Prop) : DEnds := { nx := fun _ g' => DRet P .non g', rt := DRet P }
theorem fun_okD {P : Program} {w : World} {K : Fg} {mg : Str → Option Value} {base : Heap} {x qual : Str} {st : Stmt} {f : Addr} {fd : FuncData} {N ps : List Str} {k : Nat} {sp : SpD} (F : Fun K x qual st f fd) (S : FnScope N ps (defScope st))
    (len : ∀ ds g Q, sp ds g Q → ds.length = ps.length)
    (hbody : ∀ (cdv : Value) (A : Around) (outer : List Env) (s : Shared) (H : Hp) (E : XK), Room k (A.deeper (envOfC qual (defScope st) s.heap.objs.size f cdv)) →
      ∃ t : TDS, PSs (cxOf CX0 P w K mg base N qual (defScope st) f cdv A outer s H E).nox (defBody st) (upS K t) ∧ ∀ ds g Q, sp ds g Q → t (dEnds Q) (startD N ds) g) :
    FnOk P w K mg base CX0 (k + 1) f fd ps (upSp K sp) := by
  refine F.ok S (fun vs H Q E ⟨ds, g, R, rd, rg, h, _⟩ => by rw [← rd.length]; exact len _ _ _ h) fun cdv A outer s H vs Q E hr ⟨ds, g, R, rd, rg, h, k⟩ => ?_
  obtain ⟨t, ht, hq⟩ := hbody cdv A outer s H E hr
  refine ⟨_, ht, startD N ds, g, dEnds R, start_rs rd, rg, hq ds g R h, fun δ' g' σ' H' e rg' _ z => ?_, fun d g' v H' e rg' rv z => ?_, fun _ _ _ _ _ _ _ z => z, fun _ _ _ _ _ _ _ z => z⟩
  · obtain ⟨g2, su, z⟩ := z
    exact k _ g2 _ _ (su.ext e) (su.rg rg') .non z
  · obtain ⟨g2, su, z⟩ := z
    exact k _ g2 _ _ (su.ext e) (su.rg rg') rv z
end DL

/-! Deep layer E: operators and built-ins over contents. -/
namespace DL
open PySem PySem.Spec PyProof.Rows L2

/-! ### content as data -/
mutual
def DV.py : DV → PyData
  | .non => .none
  | .bl b => .bool b
  | .int i => .int i
  | .str x => .str x
  | .tup ds => .tuple (pyAll ds)
  | .lst ds => .list (pyAll ds)
  | .ref _ => .none
  | .ty _ => .none
  | .scr _ => .none
  | .dK _ _ => .none
  | .dT _ _ => .none
  | .ins _ _ => .none
  | .exc _ _ _ _ => .none
  | .lam _ _ _ _ _ => .none
  | .tpl ds => .tuple (pyAll ds)
def pyAll : List DV → List PyData
  | [] => []
  | d :: ds => d.py :: pyAll ds
end
mutual
/-- no address, no class within -/
def DV.pl : DV → Bool
  | .tup ds => plAll ds
  | .lst ds => plAll ds
  | .ref _ => false
  | .ty _ => false
  | .scr _ => false
  | .dK _ _ => false
  | .dT _ _ => false
  | .ins _ _ => false
  | .exc _ _ _ _ => false
  | .lam _ _ _ _ _ => false
  | .tpl ds => plAll ds
  | _ => true
def plAll : List DV → Bool
  | [] => true
  | d :: ds => d.pl && plAll ds
end
mutual
theorem RD.dp {K : Fg} {H : Hp} : ∀ {d : DV} {v : V}, RD K H d v → d.pl = true → Dp K H v d.py
  | _, _, .non, _ => .non
  | _, _, .bl b, _ => .bl b
  | _, _, .int i, _ => .int i
  | _, _, .str x, _ => .str x
  | _, _, .ref a, h => by cases h
  | _, _, .ty n, h => by cases h
  | _, _, .scr _, h => by cases h
  | _, _, .dK _ _, h => by cases h
  | _, _, .dT _ _, h => by cases h
  | _, _, .ins _ _, h => by cases h
  | _, _, .tup hs r, h => .tup (SqT.of hs) (RDs.dp r h)
  | _, _, .lst hs r, h => .lst hs.sq (RDs.dp r h)
  | _, _, .exc _ _, h => by cases h
  | _, _, .lam _ _, h => by cases h
  | _, _, .tpl hs r, h => .tup hs.sq (RDs.dp r h)
theorem RDs.dp {K : Fg} {H : Hp} : ∀ {ds : List DV} {vs : List V}, RDs K H ds vs → plAll ds = true → DpAll K H vs (pyAll ds)
  | _, _, .nil, _ => .nil
  | _, _, .cons r t, h => by
    rw [plAll, Bool.and_eq_true] at h
    exact .cons (RD.dp r h.1) (RDs.dp t h.2)
end
/-- == of content -/
def eqD (x y : DV) : Bool := PyData.eqv x.py y.py
def okD (x : DV) : Bool := x.pl && SeqAt.shaped x.py

section
variable {X : Cx}
/-! ### arithmetic -/
def rrAdd : RR2 := fun x y g P => match x, y with
  | .int i, .int j => P (.int (i + j))
  | .str i, .str j => i.length + j.length ≤ sizeLine ∧ P (.str (i ++ j))
  | .tup xs, .tup ys => xs.length + ys.length ≤ sizeLine ∧ P (.tup (xs ++ ys))
  | .lst xs, .lst ys => xs.length + ys.length ≤ sizeLine ∧ P (.lst (xs ++ ys))
  | _, _ => False
theorem Inv.lstR {pins : List (Addr × Obj)} {σ : L2.St} {H : Hp} {s : Shared} {l : Addr} {xs : List V} (I : Inv X pins σ H s) (h : Rd H l (.lst xs)) : xs.length ≤ sizeLine ∧ ∃ (its : List Value) (n : Nat), Vals xs its ∧ xs.length = its.length ∧ s.heap.get? l = some { cls := .type "list", data := .seq its.toArray n } := by
  obtain ⟨z, its, n, r, e⟩ := h.ok I.hok
  exact ⟨z, its, n, r, r.length, e⟩
def rCatF : R2 := fun x y H Q => ∃ l b xs zs, x = .ref l ∧ y = .ref b ∧ Rd H l (.lst xs) ∧ Rd H b (.lst zs) ∧ xs.length + zs.length ≤ sizeLine ∧ ∀ p, H p = none → Q (.ref p) (upd H p (.lst (xs ++ zs)))
theorem op_catF : OpR X (binaryOp .Add) rCatF := by
  intro pins s σ H x y v u Q I rx ry h
  obtain ⟨l, b, xs, zs, rfl, rfl, hH, hB, hz, q⟩ := h
  cases rx
  cases ry
  obtain ⟨z, its, n, r, hl, e⟩ := Inv.lstR I hH
  obtain ⟨z2, its2, n2, r2, hl2, e2⟩ := Inv.lstR I hB
  refine PySem.P.add_list e e2 ?_ (by rw [List.size_toArray, List.size_toArray]; omega)
  have ea : its.toArray ++ its2.toArray = (its ++ its2).toArray := by simp
  rw [ea]
  exact ⟨.ref _, _, I.lnew (t' := s.toks) (r.append r2) (by rw [List.length_append]; omega), rfl, q _ I.fresh⟩
theorem fz_lift {g : DG} {H : Hp} {Q : VK} {P : DV → Prop} {K : Fg} (rg : RG K H g) (k : ∀ z w H', Ext g H g H' → RG K H' g → RD K H' z w → P z → Q w H') {ds : List DV} {vs : List V} (rd : RDs K H ds vs) (h : P (.lst ds)) (p : Addr) (hp : H p = none) :
    fz Q (.ref p) (upd H p (.lst vs)) := .inr ⟨p, .lst vs, rfl, upd_same, trivial, fun o => by
  rw [upd_upd]
  exact k _ _ _ (Ext.fresh rg hp) (rg.fresh hp) (.lst ⟨o, upd_same⟩ (rd.mono (Kp.fresh hp))) h⟩
theorem tup_lift {g : DG} {H : Hp} {Q : VK} {P : DV → Prop} {K : Fg} (rg : RG K H g) (k : ∀ z w H', Ext g H g H' → RG K H' g → RD K H' z w → P z → Q w H') {ds : List DV} {vs : List V} (rd : RDs K H ds vs) (h : P (.tup ds)) (p : Addr) (hp : H p = none) :
    fz Q (.ref p) (upd H p (.tup vs)) := .inl (k _ _ _ (Ext.fresh rg hp) (rg.fresh hp) (.tup upd_same (rd.mono (Kp.fresh hp))) h)
def RAdd (K : Fg) : R2 := fun x y H Q => (rI0 (fun i j => .int (i + j)) x y H Q ∨ (∃ i j, x = .str i ∧ y = .str j ∧ i.length + j.length ≤ sizeLine ∧ Q (.str (i ++ j)) H)) ∨ (rCatA K x y H Q ∨ rCatF x y H Q)
theorem op_addD : OpR X (binaryOp .Add) (RAdd X.K) := (op_add.or op_add_str).or (op_catA.or op_catF)
theorem ref_add {K : Fg} : RefOp K rrAdd (RAdd K) := by
  intro x y P v u H g Q rg rx ry k h
  unfold rrAdd at h
  split at h
  · cases rx; cases ry
    exact .inl (.inl ⟨_, _, rfl, rfl, .inl (k _ _ H Ext.refl rg (.int _) h)⟩)
  · cases rx; cases ry
    exact .inl (.inr ⟨_, _, rfl, rfl, h.1, .inl (k _ _ H Ext.refl rg (.str _) h.2)⟩)
  · cases rx with
    | tup hs hr =>
    cases ry with
    | tup hs' hr' =>
    rename_i ds es a vs b us
    refine .inr (.inl ⟨_, _, vs, us, rfl, rfl, SqT.of hs, SqT.of hs', by rw [← hr.length, ← hr'.length]; exact h.1, fun e => ?_, fun ne e => ?_, fun _ _ p hp => tup_lift rg k (hr.append hr') h.2 p hp⟩)
    · subst e
      cases hr
      exact .inl (k _ _ H Ext.refl rg (.tup hs' hr') h.2)
    · subst e
      cases hr'
      refine .inl (k _ _ H Ext.refl rg (.tup hs hr) ?_)
      have := h.2
      rw [List.append_nil] at this
      exact this
  · cases rx with
    | lst hs hr =>
    cases ry with
    | lst hs' hr' =>
    obtain ⟨o, e⟩ := hs
    obtain ⟨o', e'⟩ := hs'
    exact .inr (.inr ⟨_, _, _, _, rfl, rfl, .inr ⟨o, e⟩, .inr ⟨o', e'⟩, by rw [← hr.length, ← hr'.length]; exact h.1, fun p hp => fz_lift rg k (hr.append hr') h.2 p hp⟩)
  · exact h.elim
/-- two ints under a condition -/
def rrI (C : Int → Int → Prop) (f : Int → Int → DV) : RR2 := fun x y _ P => match x, y with
  | .int i, .int j => C i j ∧ P (f i j)
  | _, _ => False
theorem ref_rI {K : Fg} {C : Int → Int → Prop} {f : Int → Int → Int} : RefOp K (rrI C fun i j => .int (f i j)) (rI C fun i j => .int (f i j)) := by
  intro x y P v u H g Q rg rx ry k h
  unfold rrI at h
  split at h
  · cases rx; cases ry
    exact ⟨_, _, rfl, rfl, h.1, .inl (k _ _ H Ext.refl rg (.int _) h.2)⟩
  · exact h.elim
def TT2 (_ _ : Int) : Prop := True
theorem op_subC : OpR X (binaryOp .Sub) (rI TT2 fun i j => .int (i - j)) := fun pins s σ H x y v u Q I rx ry ⟨i, j, h1, h2, _, q⟩ => op_sub pins s σ H x y v u Q I rx ry ⟨i, j, h1, h2, q⟩
abbrev rrSub : RR2 := rrI TT2 fun i j => .int (i - j)
abbrev rrMul : RR2 := rrI CMulW fun i j => .int (i * j)
abbrev rrFdiv : RR2 := rrI CDivW fun i j => .int (i / j)
abbrev rrMod : RR2 := rrI (fun _ j => 0 < j) fun i j => .int (i % j)
def CPowW (i j : Int) : Prop := 0 ≤ j ∧ (Builtin.Int.intBits i : Int) * j ≤ 2 ^ 27
theorem op_powW : OpR X (binaryOp .Pow) (rI CPowW fun i j => .int (i ^ j.toNat)) := opI fun _ _ _ _ _ _ _ hc q => PyProof.Rows.pow_int hc.1 hc.2 q
abbrev rrPow : RR2 := rrI CPowW fun i j => .int (i ^ j.toNat)
variable {pos : Pos} {a b : Expr} {ta tb : TDE}
theorem pd_add (ha : PE X a (upE X.K ta)) (hb : PE X b (upE X.K tb)) : PE X (.BinOp a .Add b pos) (upE X.K (dOp rrAdd ta tb)) := pd_op op_addD ref_add ha hb
theorem pd_sub (ha : PE X a (upE X.K ta)) (hb : PE X b (upE X.K tb)) : PE X (.BinOp a .Sub b pos) (upE X.K (dOp rrSub ta tb)) := pd_op op_subC ref_rI ha hb
theorem pd_fdiv (ha : PE X a (upE X.K ta)) (hb : PE X b (upE X.K tb)) : PE X (.BinOp a .FloorDiv b pos) (upE X.K (dOp rrFdiv ta tb)) := pd_op op_fdivW ref_rI ha hb
theorem pd_mod (ha : PE X a (upE X.K ta)) (hb : PE X b (upE X.K tb)) : PE X (.BinOp a .Mod b pos) (upE X.K (dOp rrMod ta tb)) := pd_op op_mod ref_rI ha hb
theorem pd_pow (ha : PE X a (upE X.K ta)) (hb : PE X b (upE X.K tb)) : PE X (.BinOp a .Pow b pos) (upE X.K (dOp rrPow ta tb)) := pd_op op_powW ref_rI ha hb
theorem pd_mulI (ha : PE X a (upE X.K ta)) (hb : PE X b (upE X.K tb)) : PE X (.BinOp a .Mult b pos) (upE X.K (dOp rrMul ta tb)) := pd_op op_mulW ref_rI ha hb

/-! ### comparisons -/
def rrCmp (f : Int → Int → Bool) : RR2 := fun x y _ P => match x, y with
  | .int i, .int j => P (.bl (f i j))
  | _, _ => False
theorem ref_cmp {K : Fg} {f : Int → Int → Bool} : RefCmp K (rrCmp f) (rI0 fun i j => .bl (f i j)) := by
  intro x y P v u H g Q rg rx ry k h
  unfold rrCmp at h
  split at h
  · cases rx; cases ry
    exact ⟨_, _, rfl, rfl, k _ h⟩
  · exact h.elim
def rrEq : RR2 := fun x y _ P => okD x = true ∧ okD y = true ∧ P (.bl (eqD x y))
def rrNe : RR2 := fun x y _ P => okD x = true ∧ okD y = true ∧ P (.bl (!eqD x y))
theorem ref_eq {K : Fg} : RefCmp K rrEq (rEqD K) := by
  intro x y P v u H g Q rg rx ry k ⟨h1, h2, h⟩
  unfold okD at h1 h2
  rw [Bool.and_eq_true] at h1 h2
  exact ⟨_, _, rx.dp h1.1, ry.dp h2.1, h1.2, h2.2, k _ h⟩
theorem ref_ne {K : Fg} : RefCmp K rrNe (rNeD K) := by
  intro x y P v u H g Q rg rx ry k ⟨h1, h2, h⟩
  unfold okD at h1 h2
  rw [Bool.and_eq_true] at h1 h2
  exact ⟨_, _, rx.dp h1.1, ry.dp h2.1, h1.2, h2.2, k _ h⟩
def rrIsN : RR2 := fun x y _ P => match y with | .non => P (.bl (match x with | .non => true | _ => false)) | _ => False
def rrNotN : RR2 := fun x y _ P => match y with | .non => P (.bl (match x with | .non => false | _ => true)) | _ => False
theorem ref_isN {K : Fg} : RefCmp K rrIsN (fun x y H Q => y = .non ∧ Q (.bl (decide (x = .non))) H) := by
  intro x y P v u H g Q rg rx ry k h
  unfold rrIsN at h
  split at h
  · cases ry
    refine ⟨rfl, ?_⟩
    cases rx <;> exact k _ h
  · exact h.elim
theorem ref_notN {K : Fg} : RefCmp K rrNotN (fun x y H Q => y = .non ∧ Q (.bl (!decide (x = .non))) H) := by
  intro x y P v u H g Q rg rx ry k h
  unfold rrNotN at h
  split at h
  · cases ry
    refine ⟨rfl, ?_⟩
    cases rx <;> exact k _ h
  · exact h.elim

/-! ### built-ins -/
def intsD : List DV → Option (List Int)
  | [] => some []
  | .int i :: ds => (intsD ds).map (i :: ·)
  | _ :: _ => none
theorem intsD_map : ∀ ns : List Int, intsD (ns.map DV.int) = some ns
  | [] => rfl
  | n :: ns => by rw [List.map_cons, intsD, intsD_map ns]; rfl
theorem intsD_of : ∀ {ds : List DV} {ns : List Int}, intsD ds = some ns → ds = ns.map DV.int
  | [], _, h => by cases h; rfl
  | d :: ds, ns, h => by
    cases d <;> first
      | (rename_i i; rw [intsD] at h
         cases e : intsD ds with
         | none => rw [e] at h; cases h
         | some ms => rw [e] at h; cases h; rw [intsD_of e]; rfl)
      | cases h
def blsD : List DV → Option (List Bool)
  | [] => some []
  | .bl i :: ds => (blsD ds).map (i :: ·)
  | _ :: _ => none
theorem blsD_of : ∀ {ds : List DV} {ns : List Bool}, blsD ds = some ns → ds = ns.map DV.bl
  | [], _, h => by cases h; rfl
  | d :: ds, ns, h => by
    cases d <;> first
      | (rename_i i; rw [blsD] at h
         cases e : blsD ds with
         | none => rw [e] at h; cases h
         | some ms => rw [e] at h; cases h; rw [blsD_of e]; rfl)
      | cases h
def rr1 (f : DV → DG → (DV → Prop) → Prop) : RRs := fun xs g P => match xs with | [x] => f x g P | _ => False
def rr2 (f : DV → DV → DG → (DV → Prop) → Prop) : RRs := fun xs g P => match xs with | [x, y] => f x y g P | _ => False
theorem rr1_of {K : Fg} {H : Hp} {f : DV → DG → (DV → Prop) → Prop} {xs : List DV} {vs : List V} {g : DG} {P : DV → Prop} (r : RDs K H xs vs) (h : rr1 f xs g P) : ∃ x v, xs = [x] ∧ vs = [v] ∧ RD K H x v ∧ f x g P := by
  match xs, vs, r with
  | [x], [v], .cons r .nil => exact ⟨x, v, rfl, rfl, r, h⟩
  | [], _, _ => exact False.elim h
  | _ :: _ :: _, _, _ => exact False.elim h
theorem rr2_of {K : Fg} {H : Hp} {f : DV → DV → DG → (DV → Prop) → Prop} {xs : List DV} {vs : List V} {g : DG} {P : DV → Prop} (r : RDs K H xs vs) (h : rr2 f xs g P) : ∃ x y v u, xs = [x, y] ∧ vs = [v, u] ∧ RD K H x v ∧ RD K H y u ∧ f x y g P := by
  match xs, vs, r with
  | [x, y], [v, u], .cons r (.cons r' .nil) => exact ⟨x, y, v, u, rfl, rfl, r, r', h⟩
  | [], _, _ => exact False.elim h
  | [_], _, _ => exact False.elim h
  | _ :: _ :: _ :: _, _, _ => exact False.elim h
def rrLen : RRs := rr1 fun x g P => match seqP g x with | some ds => P (.int ds.length) | none => False
theorem ref_len {K : Fg} : RefCall K rrLen (fun xs H Q => ∃ p ys, xs = [.ref p] ∧ (SqL K H p ys ∨ SqT K H p ys) ∧ Q (.int ys.length) H) := by
  intro xs P vs H g Q rg r k h
  obtain ⟨x, v, rfl, rfl, rx, h⟩ := rr1_of r h
  split at h
  · rename_i ds e
    obtain ⟨a, us, rfl, hq, hr⟩ := seqP_rd rg rx e
    exact ⟨a, us, rfl, hq, .inl (by rw [← hr.length]; exact k _ _ H Ext.refl rg (.int _) h)⟩
  · exact h.elim
def rrInt : RRs := rr1 fun x _ P => match x with | .int i => P (.int i) | .bl b => P (.int (if b then 1 else 0)) | _ => False
theorem ref_int {K : Fg} : RefCall K rrInt (fun xs H Q => (∃ i, xs = [.int i] ∧ Q (.int i) H) ∨ ∃ k, xs = [.bl k] ∧ Q (.int (if k then 1 else 0)) H) := by
  intro xs P vs H g Q rg r k h
  obtain ⟨x, v, rfl, rfl, rx, h⟩ := rr1_of r h
  split at h
  · cases rx; exact .inl ⟨_, rfl, .inl (k _ _ H Ext.refl rg (.int _) h)⟩
  · cases rx; exact .inr ⟨_, rfl, .inl (k _ _ H Ext.refl rg (.int _) h)⟩
  · exact h.elim
def rrAbs : RRs := rr1 fun x _ P => match x with | .int i => P (.int (if i < 0 then -i else i)) | _ => False
theorem ref_abs {K : Fg} : RefCall K rrAbs (fun xs H Q => ∃ i, xs = [.int i] ∧ Q (.int (if i < 0 then -i else i)) H) := by
  intro xs P vs H g Q rg r k h
  obtain ⟨x, v, rfl, rfl, rx, h⟩ := rr1_of r h
  split at h
  · cases rx; exact ⟨_, rfl, .inl (k _ _ H Ext.refl rg (.int _) h)⟩
  · exact h.elim
def rrII (f : Int → Int → Int) : RRs := rr2 fun x y _ P => match x, y with | .int i, .int j => P (.int (f i j)) | _, _ => False
theorem ref_II {K : Fg} {f : Int → Int → Int} : RefCall K (rrII f) (fun xs H Q => ∃ i j, xs = [.int i, .int j] ∧ Q (.int (f i j)) H) := by
  intro xs P vs H g Q rg r k h
  obtain ⟨x, y, v, u, rfl, rfl, rx, ry, h⟩ := rr2_of r h
  split at h
  · cases rx; cases ry; exact ⟨_, _, rfl, .inl (k _ _ H Ext.refl rg (.int _) h)⟩
  · exact h.elim
def rrSum : RRs := rr1 fun x g P => match lstD g x with | some ds => (match intsD ds with | some ns => P (.int ns.sum) | none => False) | none => False
theorem ref_sum {K : Fg} : RefCall K rrSum (rSum K) := by
  intro xs P vs H g Q rg r k h
  obtain ⟨x, v, rfl, rfl, rx, h⟩ := rr1_of r h
  split at h
  · rename_i ds e
    split at h
    · rename_i ns e2
      obtain ⟨a, us, rfl, hq, hr, _⟩ := lstD_of rg rx e
      rw [intsD_of e2] at hr
      rw [hr.ints] at hq
      exact ⟨a, ns, rfl, hq, .inl (k _ _ H Ext.refl rg (.int _) h)⟩
    · exact h.elim
  · exact h.elim
def rrBs (f : List Bool → Bool) : RRs := rr1 fun x g P => match lstD g x with | some ds => (match blsD ds with | some ns => P (.bl (f ns)) | none => False) | none => False
theorem ref_bs {K : Fg} {f : List Bool → Bool} : RefCall K (rrBs f) (fun vs H Q => ∃ (a : Addr) (bs : List Bool), vs = [V.ref a] ∧ SqL K H a (bs.map V.bl) ∧ Q (.bl (f bs)) H) := by
  intro xs P vs H g Q rg r k h
  obtain ⟨x, v, rfl, rfl, rx, h⟩ := rr1_of r h
  split at h
  · rename_i ds e
    split at h
    · rename_i ns e2
      obtain ⟨a, us, rfl, hq, hr, _⟩ := lstD_of rg rx e
      rw [blsD_of e2] at hr
      rw [hr.bls] at hq
      exact ⟨a, ns, rfl, hq, .inl (k _ _ H Ext.refl rg (.bl _) h)⟩
    · exact h.elim
  · exact h.elim
def rrTuple : RRs := rr1 fun x g P => match seqD g x with | some ds => P (.tup ds) | none => False
theorem ref_tuple {K : Fg} : RefCall K rrTuple (fun xs H Q => ∃ p ys, xs = [.ref p] ∧ ((SqL K H p ys ∧ ∀ l, H l = none → Q (.ref l) (upd H l (.tup ys))) ∨ (SqT K H p ys ∧ Q (.ref p) H))) := by
  intro xs P vs H g Q rg r k h
  obtain ⟨x, v, rfl, rfl, rx, h⟩ := rr1_of r h
  split at h
  · rename_i ds e
    obtain ⟨a, us, rfl, hq, hr⟩ := seqD_ofX rg rx e
    rcases hq with hq | hq
    · exact ⟨a, us, rfl, .inl ⟨hq, fun p hp => tup_lift rg k hr h p hp⟩⟩
    · exact ⟨a, us, rfl, .inr ⟨SqT.of hq, .inl (k _ _ H Ext.refl rg (.tup hq hr) h)⟩⟩
  · exact h.elim
def rrList : RRs := rr1 fun x g P => match seqD g x with | some ds => P (.lst ds) | none => False
theorem ref_list {K : Fg} : RefCall K rrList (fun xs H Q => ∃ p ys, xs = [.ref p] ∧ (SqL K H p ys ∨ SqT K H p ys) ∧ ∀ l, H l = none → Q (.ref l) (upd H l (.lst ys))) := by
  intro xs P vs H g Q rg r k h
  obtain ⟨x, v, rfl, rfl, rx, h⟩ := rr1_of r h
  split at h
  · rename_i ds e
    obtain ⟨a, us, rfl, hq, hr⟩ := seqD_of rg rx e
    exact ⟨a, us, rfl, hq, fun p hp => fz_lift rg k hr h p hp⟩
  · exact h.elim
end
end DL

/-! Deep layer F: methods of lists, slices, sorted, isinstance, stars. -/
namespace DL
open PySem PySem.Spec PyProof.Rows L2
section
variable {X : Cx} {pos apos cpos : Pos} {o e : Expr} {es : List Expr} {to te : TDE} {t : TDA} {name : Str} {id : String} {R : V → List V → Hp → VK → Prop}
/-! ### methods of lists -/
abbrev RRm := DV → List DV → DG → (DV → DG → Prop) → Prop
def dMt (r : RRm) (to : TDE) (t : TDA) : TDE := fun δ g Q => to δ g fun x g1 => (lstD g1 x).isSome = true ∧ t δ g1 fun xs g2 => r x xs g2 Q
def RefMt (K : Fg) (r : RRm) (R : V → List V → Hp → VK → Prop) : Prop := ∀ (x : DV) (xs : List DV) (P : DV → DG → Prop) (v : V) (vs : List V) (H : Hp) (g : DG) (Q : VK), RG K H g → RD K H x v → RDs K H xs vs →
  (∀ z g' w H', Ext g H g' H' → RG K H' g' → RD K H' z w → P z g' → Q w H') → r x xs g P → R v vs H Q
theorem lst_tyV {K : Fg} {H : Hp} {g : DG} {x : DV} {v : V} (rg : RG K H g) (r : RD K H x v) (h : (lstD g x).isSome = true) : tyV K "list" v H := by
  cases e : lstD g x with
  | none => rw [e] at h; cases h
  | some ds =>
    obtain ⟨a, vs, rfl, hq, _⟩ := lstD_of rg r e
    exact Or.inl ⟨rfl, vs, hq⟩
theorem pd_bm {r : RRm} (slot : Slot "list" name id) (hty : typeOf (.builtin id) = pure (.type "method_descriptor")) (hm : MtR X id R) (rf : RefMt X.K r R) (ho : PE X o (upE X.K to)) (ha : PA X (e :: es) (upA X.K t))
    (hbase : attributeBase o name X.env (eval o X.env) = eval o X.env := by rfl)
    (hfew : ((backTo cpos (starEach (e :: es) X.env)).all (fun x => !x.1) && (backToKw cpos (keywordEach [] X.env)).all (fun x => x.1.isSome)
      && decide ((e :: es).length + ([] : List Keyword).length + (if ([] : List Keyword).isEmpty then 0 else 1) < 30)) = true := by rfl)
    (hline : (apos.endLine == cpos.line) = true := by rfl) (hs : starEach (e :: es) X.env = (false, eval e X.env) :: starEach es X.env := by rfl) (hplain : (backTo cpos (starEach es X.env)).any (·.1) = false := by rfl) :
    PE X (.Call (.Attribute o name apos) (e :: es) [] cpos) (upE X.K (dMt r to t)) :=
  PE_weak (pe_bm PySem.F.plainAttrs_list slot hty hm ho ha hbase hfew hline hs hplain) fun σ H Q ⟨δ, g, P, rs, rg, h, k⟩ => ⟨δ, g, _, rs, rg, h, fun d g1 v H1 e1 rg1 rd1 h1 =>
    ⟨lst_tyV rg1 rd1 h1.1, δ, g1, _, rs.mono (e1.kp rg), rg1, h1.2, fun xs g2 vs H2 e2 rg2 rd2 h2 => rf d xs P v vs H2 g2 Q rg2 (rd1.mono (e2.kp rg1)) rd2 (fun z g' w H' e rg' rd' p => k z g' w H' ((e1.trans e2).trans e) rg' rd' p) h2⟩⟩
/-- a list that is changed: what stands at it, then what follows -/
def atL (x : DV) (g : DG) (F : Addr → List DV → Prop) : Prop := match x with | .ref p => (match g p with | some (.lst ds) => F p ds | _ => False) | _ => False
theorem atL_of {K : Fg} {H : Hp} {g : DG} {x : DV} {v : V} {F : Addr → List DV → Prop} (rg : RG K H g) (r : RD K H x v) (h : atL x g F) : ∃ p ds vs, x = .ref p ∧ v = .ref p ∧ g p = some (.lst ds) ∧ H p = some (.lst vs) ∧ RDs K H ds vs ∧ F p ds := by
  unfold atL at h
  split at h
  · cases r
    split at h
    · rename_i e
      obtain ⟨vs, q, rd⟩ := rg _ _ e
      exact ⟨_, _, vs, rfl, rfl, e, q, rd, h⟩
    · exact h.elim
  · exact h.elim
def rmAppend : RRm := fun x xs g P => match xs with | [y] => atL x g fun p ds => ds.length < sizeLine ∧ P .non (gup g p (.lst (ds ++ [y]))) | _ => False
theorem ref_append {K : Fg} : RefMt K rmAppend rAppend := by
  intro x xs P v vs H g Q rg rx rxs k h
  unfold rmAppend at h
  split at h
  · obtain ⟨u, rfl, ru⟩ := rxs.inj1
    obtain ⟨p, ds, ws, rfl, rfl, eg, eh, rd, hl, h⟩ := atL_of rg rx h
    exact ⟨p, ws, u, rfl, rfl, eh, by rw [← rd.length]; exact hl, k _ _ _ _ (Ext.set eg) (rg.set eg (rd.append (.one ru))) .non h⟩
  · exact h.elim
theorem pd_append (ho : PE X o (upE X.K to)) (ha : PA X [e] (upA X.K t)) (hbase : attributeBase o "append" X.env (eval o X.env) = eval o X.env := by rfl)
    (hfew : ((backTo cpos (starEach [e] X.env)).all (fun x => !x.1) && (backToKw cpos (keywordEach [] X.env)).all (fun x => x.1.isSome)
      && decide ([e].length + ([] : List Keyword).length + (if ([] : List Keyword).isEmpty then 0 else 1) < 30)) = true := by rfl)
    (hline : (apos.endLine == cpos.line) = true := by rfl) (hs : starEach [e] X.env = (false, eval e X.env) :: starEach [] X.env := by rfl) : PE X (.Call (.Attribute o "append" apos) [e] [] cpos) (upE X.K (dMt rmAppend to t)) :=
  pd_bm PySem.F.slot_list_append PySem.F.type_list_append mt_append ref_append ho ha hbase hfew hline hs rfl
/-- xs[i] = e -/
def dSetI (te to ti : TDE) : TDS := fun E δ g => te δ g fun y g1 => to δ g1 fun x g2 => ti δ g2 fun i g3 => match i with
  | .int k => atL x g3 fun p ds => (match ixN ds.length k with | some j => E.nx δ (gup g3 p (.lst (ds.set j y))) | none => False)
  | _ => False
theorem pds_setI {i : Expr} {ti : TDE} {spos : Pos} (he : PE X e (upE X.K te)) (ho : PE X o (upE X.K to)) (hi : PE X i (upE X.K ti))
    (ha : ∀ v, assign (.Subscript o i spos) X.env v = (do
      let ov ← holding [v] (eval o X.env)
      let iv ← holding [v, ov] (eval i X.env)
      standAt spos
      holding [v, ov, iv] (setItem ov iv v)
      release [v, ov, iv] []) := by intro _; rfl) (hs : swapsWithSole [.Subscript o i spos] e pos.line X.env = pure false := by rfl) (hw : swappedStores [.Subscript o i spos] e X.env = pure none := by rfl)
    (h1 : (assignEach [.Subscript o i spos] X.env).map (·.2) = [assign (.Subscript o i spos) X.env] := by rfl) : PS X (.Assign [.Subscript o i spos] e pos) (upS X.K (dSetI te to ti)) :=
  PS_weak (ps_asg he (pg_sub ho hi set_list ha) hs hw h1) fun D σ H ⟨δ, g, E, rs, rg, h, k1, _⟩ => ⟨δ, g, _, rs, rg, h, fun y g1 v H1 e1 rg1 rd1 h1 => ⟨δ, g1, _, rs.mono (e1.kp rg), rg1, h1, fun x g2 u H2 e2 rg2 rd2 h2 =>
    ⟨δ, g2, _, rs.mono ((e1.trans e2).kp rg), rg2, h2, fun z g3 w H3 e3 rg3 rd3 h3 => by
      split at h3
      · cases rd3
        obtain ⟨p, ds, ws, rfl, rfl, eg, eh, rd, h3⟩ := atL_of rg3 (rd2.mono (e3.kp rg2)) h3
        split at h3
        · rename_i j ej
          rw [rd.length] at ej
          have km : Kp H3 (upd H3 p (.lst (ws.set j v))) := Kp.mut (by rw [eh]; exact True.intro)
          exact ⟨p, ws, _, j, rfl, rfl, eh, ej, k1 _ _ _ _ ((e1.trans e2).trans (e3.trans (Ext.set eg))) (rg3.set eg (rd.set ((rd1.mono (e2.kp rg1)).mono (e3.kp rg2)) j)) ((rs.mono ((e1.trans (e2.trans e3)).kp rg)).mono km) h3⟩
        · exact h3.elim
      · exact h3.elim⟩⟩⟩

/-! ### slices -/
abbrev TDO := DS → DG → (Option Int → DG → Prop) → Prop
def upO (K : Fg) (t : TDO) : TO := fun σ H Q => ∃ δ g P, RS K H δ σ ∧ RG K H g ∧ t δ g P ∧ ∀ b g' H', Ext g H g' H' → RG K H' g' → P b g' → Q b H'
def dNoPart : TDO := fun _ g Q => Q none g
def dPart (t : TDE) : TDO := fun δ g Q => t δ g fun x g1 => match x with | .int i => Q (some i) g1 | _ => False
theorem PO_weak {X : Cx} {e : Option Expr} {t t' : TO} (h : PO X e t) (w : ∀ σ H Q, t' σ H Q → t σ H Q) : PO X e t' := ⟨fun pins s σ H Q I q => h.run pins s σ H Q I (w σ H Q q)⟩
theorem pod_none : PO X none (upO X.K dNoPart) := PO_weak po_none fun σ H Q ⟨δ, g, P, rs, rg, h, k⟩ => k _ _ _ Ext.refl rg h
theorem pod_some (h : PE X e (upE X.K te)) : PO X (some e) (upO X.K (dPart te)) := PO_weak (po_some h) fun σ H Q ⟨δ, g, P, rs, rg, h, k⟩ => ⟨δ, g, _, rs, rg, h, fun d g1 v H1 e1 rg1 rd p => by
  split at p
  · cases rd; exact ⟨_, rfl, k _ _ _ e1 rg1 p⟩
  · exact p.elim⟩
/-- the slice of a list of contents -/
def cutD (xs : List DV) (lo hi : Option Int) : List DV := (xs.drop (HT.sIx xs.length 0 lo)).take (HT.sIx xs.length xs.length hi - HT.sIx xs.length 0 lo)
theorem cut_rd {K : Fg} {H : Hp} {ds : List DV} {vs : List V} (r : RDs K H ds vs) (lo hi : Option Int) : RDs K H (cutD ds lo hi) (cutV vs lo hi) := by
  unfold cutD cutV
  rw [r.length]
  exact (r.drop _).take _
def dSl (te : TDE) (tl th : TDO) : TDE := fun δ g Q => te δ g fun x g1 => tl δ g1 fun lo g2 => th δ g2 fun hi g3 => match x with
  | .tup ds => Q (.tup (cutD ds lo hi)) g3
  | .lst ds => Q (.lst (cutD ds lo hi)) g3
  | .scr ns => Q (.lst (cutD (ns.map .int) lo hi)) g3
  | .ref p => (match g3 p with | some (.lst ds) => Q (.lst (cutD ds lo hi)) g3 | _ => False)
  | .tpl ds => (HT.sIx ds.length 0 lo = 0 ∧ HT.sIx ds.length ds.length hi = ds.length → Q (.tpl ds) g3) ∧ (¬ (HT.sIx ds.length 0 lo = 0 ∧ HT.sIx ds.length ds.length hi = ds.length) → Q (.tup (cutD ds lo hi)) g3)
  | _ => False
theorem pd_slice {lo hi : Option Expr} {tl th : TDO} {p2 : Pos} (he : PE X e (upE X.K te)) (hl : PO X lo (upO X.K tl)) (hu : PO X hi (upO X.K th)) : PE X (.Subscript e (.Slice lo hi none p2) pos) (upE X.K (dSl te tl th)) := by
  refine PE_weak (pe_slice ((SlR_fz sl_list).or (SlR_fz sl_tupA)) he hl hu) fun σ H Q ⟨δ, g, P, rs, rg, h, k⟩ => ⟨δ, g, _, rs, rg, h, fun x g1 v H1 e1 rg1 rd1 h1 => ⟨δ, g1, _, rs.mono (e1.kp rg), rg1, h1, fun l g2 H2 e2 rg2 h2 =>
    ⟨δ, g2, _, rs.mono ((e1.trans e2).kp rg), rg2, h2, fun u g3 H3 e3 rg3 h3 => ?_⟩⟩⟩
  have rd3 := (rd1.mono (e2.kp rg1)).mono (e3.kp rg2)
  have ee := (e1.trans e2).trans e3
  have kk : ∀ z w H', Ext g3 H3 g3 H' → RG X.K H' g3 → RD X.K H' z w → P z g3 → Q w H' := fun z w H' e rg' rd' p => k z g3 w H' (ee.trans e) rg' rd' p
  split at h3
  · cases rd3 with
    | tup hs hr =>
      refine .inr ⟨_, _, rfl, SqT.of hs, fun hw => .inl ?_, fun hw p hp => tup_lift (P := fun z => P z g3) rg3 kk (cut_rd hr l u) h3 p hp⟩
      refine k _ _ _ _ ee rg3 (.tup hs ?_) h3
      unfold cutD
      rw [← hr.length] at hw
      rw [hw.1, hw.2, List.drop_zero, Nat.sub_zero, List.take_length]
      exact hr
  · cases rd3 with
    | lst hs hr => exact .inl ⟨_, _, rfl, hs.sq, fun p hp => fz_lift (P := fun z => P z g3) rg3 kk (cut_rd hr l u) h3 p hp⟩
  · cases rd3 with
    | scr hs => exact .inl ⟨_, _, rfl, hs.sq, fun p hp => fz_lift (P := fun z => P z g3) rg3 kk (cut_rd (RDs.ofInts _) l u) h3 p hp⟩
  · cases rd3
    split at h3
    · rename_i eg
      obtain ⟨vs, q, rd⟩ := rg3 _ _ eg
      exact .inl ⟨_, _, rfl, SqL.of q, fun p hp => fz_lift (P := fun z => P z g3) rg3 kk (cut_rd rd l u) h3 p hp⟩
    · exact h3.elim
  · cases rd3 with
    | tpl hs hr =>
      rw [hr.length] at h3
      exact .inr ⟨_, _, rfl, hs.sq, fun hw => .inl (k _ _ _ _ ee rg3 (.tpl hs hr) (h3.1 hw)), fun hw p hp => tup_lift (P := fun z => P z g3) rg3 kk (cut_rd hr l u) (h3.2 hw) p hp⟩
  · exact h3.elim

/-! ### stars in displays -/
def dStar (te : TDE) (t : TDA) : TDA := fun δ g Q => te δ g fun x g1 => match seqD g1 x with | some ds => t δ g1 fun xs g2 => Q (ds ++ xs) g2 | none => False
theorem pda_star {p : Pos} (he : PE X e (upE X.K te)) (hr : PA X es (upA X.K t)) (hs : starEach (.Starred e p :: es) X.env = (true, eval e X.env) :: starEach es X.env := by rfl) : PA X (.Starred e p :: es) (upA X.K (dStar te t)) := by
  refine PA_weak (StX.pa_star he hr hs) fun σ H Q ⟨δ, g, P, rs, rg, h, k⟩ => ⟨δ, g, _, rs, rg, h, fun x g1 v H1 e1 rg1 rd1 h1 => ?_⟩
  split at h1
  · rename_i ds ed
    obtain ⟨a, vs, rfl, hq, hr⟩ := seqD_of rg1 rd1 ed
    exact ⟨a, vs, rfl, hq.symm, δ, g1, _, rs.mono (e1.kp rg), rg1, h1, fun xs g2 us H2 e2 rg2 rd2 h2 => k _ _ _ _ (e1.trans e2) rg2 ((hr.mono (e2.kp rg1)).append rd2) h2⟩
  · exact h1.elim

/-! ### isinstance -/
def tyNm (g : DG) : DV → Option String
  | .non => some "NoneType"
  | .bl _ => some "bool"
  | .int _ => some "int"
  | .str _ => some "str"
  | .tup _ => some "tuple"
  | .lst _ => some "list"
  | .ref p => (match g p with | some (.lst _) => some "list" | some (.dK _ _) => some "dict" | some (.dT _ _) => some "dict" | _ => none)
  | .ty _ => none
  | .scr _ => none
  | .dK _ _ => some "dict"
  | .dT _ _ => some "dict"
  | .ins _ _ => none
  | .exc _ _ _ _ => none
  | .lam _ _ _ _ _ => none
  | .tpl _ => some "tuple"
def isiN (a T : String) : Option Bool := if T ∈ ["int", "bool", "tuple", "str", "list", "dict"] then some (a == T || (a == "bool" && T == "int")) else none
theorem isiN_kit : ∀ a ∈ ["NoneType", "bool", "int", "str", "tuple", "list", "dict"], ∀ T ∈ ["int", "bool", "tuple", "str", "list", "dict"], kitB a T = some (a == T || (a == "bool" && T == "int")) := by decide +kernel
/-- a value's type, a locked dict of tuple keys too -/
def TyY (K : Fg) (H : Hp) (v : V) (t : Value) : Prop := TyX K H v t ∨ ∃ a o kvs, v = .ref a ∧ H a = some (.frz o (.dT kvs)) ∧ t = .type "dict"
theorem kitY_of {X : Cx} {pins : List (Addr × Obj)} {σ : L2.St} {H : Hp} {s : Shared} {x : V} {u t : Value} (I : Inv X pins σ H s) (rx : RelV x u) (ty : TyY X.K H x t) : ∃ P : Heap → Prop, PySem.W.KitX X.K u t P ∧ P s.heap ∧ u ≠ .builtin "__main__.__loader__#opaque" := by
  rcases ty with ty | ⟨a, ob, kvs, ex, ea, et⟩
  · exact kit_of I rx ty
  · subst ex et
    cases (show u = Value.ref a from rx)
    obtain ⟨_, _, _, xs, _, o, es, ep, h1, h2, _⟩ := (show ObjOk X.prog X.w H s.heap a (.frz ob (.dT kvs)) from I.hok a _ ea)
    exact ⟨_, PySem.W.kitx_dict, ⟨o, h1, h2.1⟩, fun z => nomatch z⟩
def rIsiY (K : Fg) : List V → Hp → VK → Prop := fun xs H Q => ∃ (x c : V) (t u : Value) (b : Bool), xs = [x, c] ∧ ClsV c u ∧ TyY K H x t ∧ PySem.W.kitOne K t u = some b ∧ Q (.bl b) H
theorem call_isiY {X : Cx} : CallR X (.builtin "isinstance") (rIsiY X.K) := by
  intro pins s σ H xs us Q I r h
  obtain ⟨x, c, t, u, b, rfl, k, ty, e, q⟩ := h
  obtain ⟨u1, u2, rfl, r1, r2⟩ := vals2 r
  have e2 := k.eq r2
  subst e2
  obtain ⟨P, Z, p, hx⟩ := kitY_of I r1 ty
  exact PySem.W.kia_one Z I.kIn p e hx fun tk => ⟨.bl b, H, I.tok tk, rfl, q⟩
theorem tyNm_of {K : Fg} {H : Hp} {g : DG} {x : DV} {v : V} {a : String} (rg : RG K H g) (r : RD K H x v) (h : tyNm g x = some a) : a ∈ ["NoneType", "bool", "int", "str", "tuple", "list", "dict"] ∧ TyY K H v (.type a) := by
  cases r with
  | non => cases h; exact ⟨by decide, .inl <| .base .non⟩
  | bl b => cases h; exact ⟨by decide, .inl <| .base (.bl b)⟩
  | int i => cases h; exact ⟨by decide, .inl <| .base (.int i)⟩
  | str z => cases h; exact ⟨by decide, .inl <| .base (.str z)⟩
  | ty n => cases h
  | scr _ => cases h
  | ref p =>
    have h' : (match g p with | some (.lst _) => some "list" | some (.dK _ _) => some "dict" | some (.dT _ _) => some "dict" | _ => none) = some a := h
    split at h'
    · cases h'
      rename_i o e
      obtain ⟨vs, q, _⟩ := rg _ _ e
      exact ⟨by decide, .inl <| .base (.lst q)⟩
    · cases h'
      rename_i e
      obtain ⟨vs, q, _⟩ := rg _ _ e
      exact ⟨by decide, .inl <| .base (.dK q)⟩
    · cases h'
      rename_i e
      obtain ⟨vs, q, _⟩ := rg _ _ e
      exact ⟨by decide, .inl <| .base (.dT q)⟩
    · cases h'
  | ins hs hr => cases h
  | exc hs hr => cases h
  | lam hs hr => cases h
  | tpl hs hr =>
    cases h
    obtain ⟨o, hs, _⟩ := hs
    exact ⟨by decide, .inl <| .fTuple hs⟩
  | dK hs hr =>
    cases h
    obtain ⟨o, kvs, hs, _⟩ := hs
    exact ⟨by decide, .inl <| .fDict hs⟩
  | dT hs hr =>
    cases h
    obtain ⟨o, kvs, hs, _⟩ := hs
    exact ⟨by decide, .inr ⟨_, o, kvs, rfl, hs, rfl⟩⟩
  | tup hs hr =>
    cases h
    exact ⟨by decide, .inl <| .base (.tup hs)⟩
  | lst hs hr =>
    cases h
    obtain ⟨o, hs⟩ := hs
    exact ⟨by decide, .inl <| .base (.frz hs)⟩
def rrIsi : RRs := rr2 fun x y g P => match y with | .ty T => (match tyNm g x with | some a => (match isiN a T with | some b => P (.bl b) | none => False) | none => False) | _ => False
theorem ref_isi {K : Fg} : RefCall K rrIsi (rIsiY K) := by
  intro xs P vs H g Q rg r k h
  obtain ⟨x, y, v, u, rfl, rfl, rx, ry, h⟩ := rr2_of r h
  split at h
  · cases ry
    split at h
    · rename_i a ea
      split at h
      · rename_i b eb
        obtain ⟨ma, ty⟩ := tyNm_of rg rx ea
        unfold isiN at eb
        split at eb
        · rename_i mT
          cases eb
          exact ⟨v, _, _, _, _, rfl, .ty _, ty, kit_ty (isiN_kit a ma _ mT), .inl (k _ _ H Ext.refl rg (.bl _) h)⟩
        · cases eb
      · exact h.elim
    · exact h.elim
  · exact h.elim
end
end DL

/-! Deep layer G: what the printed derivations and the readings lean on. -/
namespace DL
open PySem PySem.Spec PyProof.Rows L2
section
variable {X : Cx} {pos : Pos}
def dYes : TDT := fun _ g Q => Q true g
theorem ptsd_nil : PTs X [] (upT X.K dYes) := ⟨fun pins s σ H Q I ⟨δ, g, P, rs, rg, h, k⟩ => pts_nil.run pins s σ H Q I (k _ _ _ Ext.refl rg h)⟩
theorem ptsd_one {c : Expr} {t : TDT} (h : PT X c (upT X.K t)) : PTs X [c] (upT X.K t) := pts_one h
theorem pgd_nm {i : Nat} {x : Str} (hN : X.N.Nodup) (hi : X.N[i]? = some x := by rfl) (hx : Loc X.env.scope x := by first | exact Or.inl rfl | exact Or.inr rfl) (hf : X.fn x = true ∨ X.env.scope.names.lookup x = some .local := by first | exact .inl rfl | exact .inr rfl) : PG X (.Name x pos) (tgG X.K (.nm i)) := pg_name hN hi hx hf
theorem pgd_tp {es : List Expr} {k : Nat} {is : List Nat} (hc : X.calm = true) (h : PGs X es (gAll is)) (hn : (assignEach es X.env).length = is.length := by rfl) (hst : (assignEach es X.env).findIdx? (·.1) = none := by rfl) : PG X (.Tuple es k pos) (tgG X.K (.tp is)) := pg_tup hc h hn hst
theorem pgd_nil : PGs X [] (gAll []) := pgs_nil
theorem pgd_cons {i : Nat} {is : List Nat} {e : Expr} {es : List Expr} (h1 : PG X e (tgG X.K (.nm i))) (h2 : PGs X es (gAll is)) (hs : (assignEach (e :: es) X.env).map (·.2) = assign e X.env :: (assignEach es X.env).map (·.2) := by rfl) : PGs X (e :: es) (gAll (i :: is)) := pgs_cons h1 h2 hs
/-- x op= e of ints -/
theorem pds_aug {i : Nat} {x : Str} {e : Expr} {te : TDE} {op : Operator} {r : RR2} {R : R2} {pos' : Pos} (hN : X.N.Nodup) (ho : OpR X (inplaceOp op) R) (rf : RefOp X.K r R) (he : PE X e (upE X.K te)) (hi : X.N[i]? = some x := by rfl) (hx : Loc X.env.scope x := by first | exact Or.inl rfl | exact Or.inr rfl)
    (hf : X.fn x = true ∨ X.env.scope.names.lookup x = some .local := by first | exact .inl rfl | exact .inr rfl) : PS X (.AugAssign (.Name x pos') op e pos) (upS X.K (dAsg (.nm i) (dOp r (dVar i) te))) := by
  have hp : PIp X op (fun x y H Q => R x y H (fz Q)) := fun pins s σ H x y v u Q I rx ry q => OpR_fz ho pins s σ H x y v u Q I rx ry q
  refine PS_weak (ps_aug hN hi hx he hp hf) fun D σ H ⟨δ, g, E, rs, rg, h, k1, _⟩ => ?_
  have h' : (match nth δ i with | some d => te δ g (fun y g2 => r d y g2 fun z => E.nx (δ.set i (some z)) g2) | none => False) := h
  split at h'
  · rename_i d ed
    obtain ⟨v, hv, rd⟩ := rs.2 i d (nth_get ed)
    refine ⟨v, hv, δ, g, _, rs, rg, h', fun y g2 u H2 e2 rg2 rd2 h2 => ?_⟩
    exact rf d y _ v u H2 g2 _ rg2 (rd.mono (e2.kp rg)) rd2 (fun z w H' e rg' rd' p => k1 _ _ _ _ (e2.trans e) rg' ((rs.mono ((e2.trans e).kp rg)).set i rd') p) h2
  · exact h'.elim
theorem iop_subC : OpR X (inplaceOp .Sub) (rI TT2 fun i j => .int (i - j)) := fun pins s σ H x y v u Q I rx ry ⟨i, j, h1, h2, _, q⟩ => iop_sub pins s σ H x y v u Q I rx ry ⟨i, j, h1, h2, q⟩
theorem iop_mulW : OpR X (inplaceOp .Mult) (rI CMulW fun i j => .int (i * j)) := opI fun _ _ _ _ _ _ _ hc q => imul_int q hc.ok
abbrev rrAddI : RR2 := rrI TT2 fun i j => .int (i + j)

/-! ### sorted -/
def dleD (a b : DV) : Bool := !W.dataLt b.py a.py
def SortOk (ds : List DV) : Prop := plAll ds = true ∧ W.AllAlike (ds.map DV.py) ∧ W.Sortable (ds.map DV.py) ∧ ∀ d ∈ ds, d.py.depth ≤ 60
def rrSorted : RRs := rr1 fun x g P => match lstD g x with | some ds => SortOk ds ∧ P (.lst (ds.mergeSort dleD)) | none => False
def RSortD (K : Fg) : List V → Hp → VK → Prop := fun vs H Q => ∃ (a : Addr) (L : List (DV × V)), vs = [.ref a] ∧ SqL K H a (L.map Prod.snd) ∧ (∀ p ∈ L, RD K H p.1 p.2) ∧ SortOk (L.map Prod.fst) ∧
  ∀ p, H p = none → Q (.ref p) (upd H p (.lst ((L.mergeSort fun a b => dleD a.1 b.1).map Prod.snd)))
theorem each_L {K : Fg} {H : Hp} : ∀ {L : List (DV × V)} {its : List Value}, Vals (L.map Prod.snd) its → W.EachIs (fun (u : Value) (b : DV × V) => RelV b.2 u) its L
  | [], _, r => by cases r; exact .nil
  | _ :: _, _, r => by
    cases r with
    | cons r1 r2 => exact .cons r1 (each_L (K := K) (H := H) r2)
theorem vals_L : ∀ {L : List (DV × V)} {its : List Value}, W.EachIs (fun (u : Value) (b : DV × V) => RelV b.2 u) its L → Vals (L.map Prod.snd) its
  | _, _, .nil => .nil
  | _, _, .cons r1 r2 => .cons r1 (vals_L r2)
theorem reads_L {pins : List (Addr × Obj)} {σ : L2.St} {H : Hp} {s : Shared} (I : Inv X pins σ H s) : ∀ {L : List (DV × V)} {its : List Value}, (∀ p ∈ L, RD X.K H p.1 p.2) → plAll (L.map Prod.fst) = true → Vals (L.map Prod.snd) its →
    W.EachIs (fun (u : Value) (b : DV × V) => ∃ as, Reads s.heap u b.1.py as) its L
  | [], _, _, _, r => by cases r; exact .nil
  | b :: L, _, hr, hp, r => by
    cases r with
    | cons r1 r2 =>
      rw [List.map_cons, plAll, Bool.and_eq_true] at hp
      exact .cons (Dp.reads I _ _ _ ((hr b List.mem_cons_self).dp hp.1) r1) (reads_L I (fun p hp => hr p (List.mem_cons_of_mem _ hp)) hp.2 r2)
theorem cr_sortedD (hu : X.A.units + 64 < cLine) : CallR X (.builtin "sorted") (RSortD X.K) := by
  intro pins s σ H vs us Q I r h
  obtain ⟨a, L, rfl, hq, hr, ⟨s1, s2, s3, s4⟩, q⟩ := h
  rw [Vals.ref1 r]
  obtain ⟨its, rv, pl, hz⟩ := I.list hq
  have hlen : its.length = L.length := by rw [← rv.length, List.length_map]
  have e1 : L.map (fun b : DV × V => b.1.py) = (L.map Prod.fst).map DV.py := by rw [List.map_map]; rfl
  have hL : L.length ≤ sizeLine := by rw [List.length_map] at hz; exact hz
  refine PySem.W.sorted_data (bs := L) (enc := fun b : DV × V => b.1.py) (R := fun u b => RelV b.2 u) pl.isList (each_L (K := X.K) (H := H) rv) (reads_L I hr s1 rv) (by rw [e1]; exact s2) (by rw [e1]; exact s3) hL ?_ ?_
  · intro b hb
    have := s4 b.1 (List.mem_map.mpr ⟨b, hb, rfl⟩)
    omega
  · intro out ho eo
    have ev := vals_L eo
    rw [show PySem.W.dataLe false (fun b : DV × V => b.1.py) = fun a b => dleD a.1 b.1 from PySem.W.dataLe_eq false _] at ev
    obtain ⟨c, hc⟩ := sortedAll_at s.heap its (List.toArray out)
    have hn : H (s.heap.objs.size + 1) = none := I.hok.fresh (Nat.le_succ _)
    refine ⟨.ref _, _, I.laid (t' := s.toks) (fun _ _ z => sortedAll_old z) (Nat.le_succ _) (?_ : ObjOk X.prog X.w _ _ _ (.lst _)), rfl, q _ hn⟩
    exact ⟨by rw [List.length_map, List.length_mergeSort]; exact hL, out, c, ev, hc⟩
theorem zip_rd {K : Fg} {H : Hp} : ∀ {ds : List DV} {vs : List V}, RDs K H ds vs → (ds.zip vs).map Prod.fst = ds ∧ (ds.zip vs).map Prod.snd = vs ∧ ∀ p ∈ ds.zip vs, RD K H p.1 p.2
  | _, _, .nil => ⟨rfl, rfl, fun _ h => by cases h⟩
  | d :: _, v :: _, .cons r t => by
    obtain ⟨h1, h2, h3⟩ := zip_rd t
    refine ⟨by rw [List.zip_cons_cons, List.map_cons, h1], by rw [List.zip_cons_cons, List.map_cons, h2], fun p hp => ?_⟩
    rw [List.zip_cons_cons] at hp
    rcases List.mem_cons.mp hp with e | e
    · subst e; exact r
    · exact h3 p e
theorem rds_pairs {K : Fg} {H : Hp} : ∀ {L : List (DV × V)}, (∀ p ∈ L, RD K H p.1 p.2) → RDs K H (L.map Prod.fst) (L.map Prod.snd)
  | [], _ => .nil
  | b :: L, h => .cons (h b List.mem_cons_self) (rds_pairs fun p hp => h p (List.mem_cons_of_mem _ hp))
theorem ref_sorted {K : Fg} : RefCall K rrSorted (RSortD K) := by
  intro xs P vs H g Q rg r k h
  obtain ⟨x, v, rfl, rfl, rx, h⟩ := rr1_of r h
  split at h
  · rename_i ds e
    obtain ⟨a, us, rfl, hq, hr, _⟩ := lstD_of rg rx e
    obtain ⟨z1, z2, z3⟩ := zip_rd hr
    refine ⟨a, ds.zip us, rfl, by rw [z2]; exact hq, z3, by rw [z1]; exact h.1, fun p hp => ?_⟩
    have hm : ((ds.zip us).mergeSort fun a b => dleD a.1 b.1).map Prod.fst = ds.mergeSort dleD := by
      rw [List.map_mergeSort (s := dleD) (fun _ _ _ _ => rfl), z1]
    refine fz_lift rg k (ds := ds.mergeSort dleD) ?_ h.2 p hp
    rw [← hm]
    exact rds_pairs fun p hp => z3 p (List.mem_mergeSort.mp hp)
  · exact h.elim
end

/-! ### promises by the number of arguments -/
def sp1 (f : DV → DG → (DV → DG → Prop) → Prop) : SpD := fun ds g P => match ds with | [a] => f a g P | _ => False
def sp2 (f : DV → DV → DG → (DV → DG → Prop) → Prop) : SpD := fun ds g P => match ds with | [a, b] => f a b g P | _ => False
def sp3 (f : DV → DV → DV → DG → (DV → DG → Prop) → Prop) : SpD := fun ds g P => match ds with | [a, b, c] => f a b c g P | _ => False
def sp4 (f : DV → DV → DV → DV → DG → (DV → DG → Prop) → Prop) : SpD := fun ds g P => match ds with | [a, b, c, d] => f a b c d g P | _ => False
theorem sp1_of {f} {ds : List DV} {g : DG} {P : DV → DG → Prop} (h : sp1 f ds g P) : ∃ a, ds = [a] ∧ f a g P := by
  match ds, h with
  | [a], h => exact ⟨a, rfl, h⟩
theorem sp2_of {f} {ds : List DV} {g : DG} {P : DV → DG → Prop} (h : sp2 f ds g P) : ∃ a b, ds = [a, b] ∧ f a b g P := by
  match ds, h with
  | [a, b], h => exact ⟨a, b, rfl, h⟩
theorem sp3_of {f} {ds : List DV} {g : DG} {P : DV → DG → Prop} (h : sp3 f ds g P) : ∃ a b c, ds = [a, b, c] ∧ f a b c g P := by
  match ds, h with
  | [a, b, c], h => exact ⟨a, b, c, rfl, h⟩
theorem sp4_of {f} {ds : List DV} {g : DG} {P : DV → DG → Prop} (h : sp4 f ds g P) : ∃ a b c d, ds = [a, b, c, d] ∧ f a b c d g P := by
  match ds, h with
  | [a, b, c, d], h => exact ⟨a, b, c, d, rfl, h⟩
theorem len1 {f} {ds : List DV} {g : DG} {P : DV → DG → Prop} (h : sp1 f ds g P) : ds.length = 1 := by obtain ⟨_, rfl, _⟩ := sp1_of h; rfl
theorem len2 {f} {ds : List DV} {g : DG} {P : DV → DG → Prop} (h : sp2 f ds g P) : ds.length = 2 := by obtain ⟨_, _, rfl, _⟩ := sp2_of h; rfl
theorem len3 {f} {ds : List DV} {g : DG} {P : DV → DG → Prop} (h : sp3 f ds g P) : ds.length = 3 := by obtain ⟨_, _, _, rfl, _⟩ := sp3_of h; rfl
theorem len4 {f} {ds : List DV} {g : DG} {P : DV → DG → Prop} (h : sp4 f ds g P) : ds.length = 4 := by obtain ⟨_, _, _, _, rfl, _⟩ := sp4_of h; rfl

/-! ### a def of the module -/
structure Dfn (K : Fg) (mg : Str → Option Value) (x : Str) (st : Stmt) (ps : List Str) (f : Addr) (fd : FuncData) : Prop where
  fn : Fun K x x st f fd
  at_ : mg x = some (.ref f)
  bd : Binds K fd ps []

/-! ### comprehensions whose parts change nothing -/
/-- no test -/
theorem comp_map {tg : Tg} {own : List Nat} {te : TDE} {δ : DS} {g : DG} {f : DV → DV} : ∀ {ds : List DV} {Q : List DV → DG → Prop},
    (∀ d ∈ ds, ∃ δ2, bindT tg d (wipeD δ own) = some δ2 ∧ ∀ Q2 : DV → DG → Prop, Q2 (f d) g → te δ2 g Q2) → Q (ds.map f) g → dComp tg own dYes te δ ds g Q
  | [], Q, _, hq => hq
  | d :: ds, Q, h, hq => by
    obtain ⟨δ2, e, he⟩ := h d List.mem_cons_self
    unfold dComp
    rw [e]
    dsimp only [dYes]
    rw [if_pos rfl]
    exact he _ (comp_map (fun d hd => h d (List.mem_cons_of_mem _ hd)) hq)
/-- a test -/
theorem comp_fil {tg : Tg} {own : List Nat} {tt : TDT} {te : TDE} {δ : DS} {g : DG} {p : DV → Bool} {f : DV → DV} : ∀ {ds : List DV} {Q : List DV → DG → Prop},
    (∀ d ∈ ds, ∃ δ2, bindT tg d (wipeD δ own) = some δ2 ∧ (∀ Q' : Bool → DG → Prop, Q' (p d) g → tt δ2 g Q') ∧ (p d = true → ∀ Q2 : DV → DG → Prop, Q2 (f d) g → te δ2 g Q2)) → Q ((ds.filter p).map f) g → dComp tg own tt te δ ds g Q
  | [], Q, _, hq => hq
  | d :: ds, Q, h, hq => by
    obtain ⟨δ2, e, ht, he⟩ := h d List.mem_cons_self
    unfold dComp
    rw [e]
    refine ht _ ?_
    cases hp : p d with
    | true =>
      rw [if_pos rfl]
      refine he hp _ (comp_fil (fun d hd => h d (List.mem_cons_of_mem _ hd)) ?_)
      rw [List.filter_cons_of_pos hp] at hq
      exact hq
    | false =>
      rw [if_neg Bool.false_ne_true]
      refine comp_fil (fun d hd => h d (List.mem_cons_of_mem _ hd)) ?_
      rw [List.filter_cons_of_neg (by rw [hp]; exact Bool.false_ne_true)] at hq
      exact hq
end DL

/-! Deep layer H: t[::-1], dicts. -/
namespace L2.HT
open PySem PySem.Spec PyProof.Rows
section
variable {P : Program} {u : World} {A : Around} {E : Value → Shared → Prop} {s : Shared}
end
end L2.HT
namespace DL
open PySem PyProof.Rows PySem.Spec L2
section
variable {X : Cx} {pos : Pos} {e o i value : Expr} {te td ty tv : TDE}
/-! ### x[::-1] -/
/-! ### dicts: keys -/
def keyK : DV → Option Key
  | .int i => some (.inl i)
  | .str x => some (.inr x)
  | _ => none
theorem keyK_of {K : Fg} {H : Hp} {d : DV} {v : V} {k : Key} (r : RD K H d v) (h : keyK d = some k) : v = kV k := by
  cases r <;> first | (cases h; rfl) | cases h
def putKs {κ : Type} [DecidableEq κ] (ks : List κ) (k : κ) : List κ := if k ∈ ks then ks else ks ++ [k]
def setD {κ : Type} [DecidableEq κ] : List κ → List DV → κ → DV → List DV
  | k' :: ks, e :: ds, k, d => (if k' = k then d else e) :: setD ks ds k d
  | _, _, _, _ => []
def putDs {κ : Type} [DecidableEq κ] (ks : List κ) (ds : List DV) (k : κ) (d : DV) : List DV := if k ∈ ks then setD ks ds k d else ds ++ [d]
theorem setD_rd {κ : Type} [DecidableEq κ] {K : Fg} {H : Hp} {k : κ} {d : DV} {v : V} (r : RD K H d v) : ∀ {kvs : List (κ × V)} {ds : List DV}, RDs K H ds (kvs.map (·.2)) →
    RDs K H (setD (kvs.map (·.1)) ds k d) ((kvs.map fun kv => if kv.1 = k then (kv.1, v) else kv).map (·.2))
  | [], _, h => by cases h; exact .nil
  | p :: t, _, h => by
    cases h with
    | cons h1 h2 =>
      rw [List.map_cons, List.map_cons, List.map_cons]
      unfold setD
      refine .cons ?_ (setD_rd r h2)
      by_cases z : p.1 = k
      · rw [if_pos z, if_pos z]; exact r
      · rw [if_neg z, if_neg z]; exact h1
theorem putK_rd {κ : Type} [DecidableEq κ] {K : Fg} {H : Hp} {k : κ} {d : DV} {v : V} {kvs : List (κ × V)} {ds : List DV} (r : RD K H d v) (rd : RDs K H ds (kvs.map (·.2))) :
    (putK kvs k v).map (·.1) = putKs (kvs.map (·.1)) k ∧ RDs K H (putDs (kvs.map (·.1)) ds k d) ((putK kvs k v).map (·.2)) := by
  unfold putK putKs putDs
  have hm : (kvs.any fun kv => decide (kv.1 = k)) = true ↔ k ∈ kvs.map (·.1) := by
    simp [List.any_eq_true]
  by_cases z : k ∈ kvs.map (·.1)
  · rw [if_pos (hm.mpr z), if_pos z, if_pos z]
    refine ⟨?_, setD_rd r rd⟩
    rw [List.map_map]
    refine List.map_congr_left fun p _ => ?_
    show (if p.1 = k then (p.1, v) else p).1 = p.1
    split <;> rfl
  · rw [if_neg (fun y => z (hm.mp y)), if_neg z, if_neg z, List.map_append, List.map_append]
    exact ⟨rfl, rd.append (.one r)⟩
/-! ### {} -/
def dNewK : TDE := fun _ g Q => ∀ p, g p = none → Q (.ref p) (gup g p (.dK [] []))
def dNewF : TDE := fun _ g Q => Q (.dK [] []) g
theorem pd_newK : PE X (.Dict [] [] pos) (upE X.K dNewK) := PE_weak pe_dnewK fun σ H Q ⟨δ, g, P, rs, rg, h, k⟩ p hp =>
  k _ _ _ _ (Ext.new hp) (RG.newK (kvs := []) rg hp rfl .nil) (.ref p) (h p (rg.none hp))
theorem pd_newF : PE X (.Dict [] [] pos) (upE X.K dNewF) := PE_weak (PE_fz pe_dnewK) fun σ H Q ⟨δ, g, P, rs, rg, h, k⟩ p hp => .inr ⟨p, .dK [], rfl, upd_same, trivial, fun o => by
  rw [upd_upd]
  exact k _ g _ _ (Ext.fresh rg hp) (rg.fresh hp) (.dK ⟨o, [], upd_same, rfl, rfl⟩ .nil) h⟩
/-! ### d[k] = v -/
def dput (x y v : DV) (g : DG) (R : DG → Prop) : Prop := match x with
  | .ref p => (match g p with
    | some (.dK ks ds) => (match keyK y with | some k => ds.length < sizeLine ∧ R (gup g p (.dK (putKs ks k) (putDs ks ds k v))) | none => False)
    | _ => False)
  | _ => False
def dDPut (td ty tv : TDE) : TDS := fun E δ g => tv δ g fun v g1 => td δ g1 fun x g2 => ty δ g2 fun y g3 => dput x y v g3 fun g4 => E.nx δ g4
theorem pds_dput {pos' : Pos} (hu : X.A.units + 64 < cLine) (ho : PE X o (upE X.K td)) (hi : PE X i (upE X.K ty)) (hv : PE X value (upE X.K tv)) (hs : swapsWith value (some (.Subscript o i pos')) pos.line X.env = pure false := by rfl) :
    PS X (.Assign [.Subscript o i pos'] value pos) (upS X.K (dDPut td ty tv)) := by
  refine PS_weak (ps_dput (by omega) ho hi hv hs) fun D σ H ⟨δ, g, E, rs, rg, h, k1, _⟩ => ?_
  refine ⟨δ, g, _, rs, rg, h, fun v g1 u H1 e1 rg1 rv h1 => ⟨δ, g1, _, rs.mono (e1.kp rg), rg1, h1, fun x g2 w H2 e2 rg2 rx h2 => ⟨δ, g2, _, rs.mono ((e1.trans e2).kp rg), rg2, h2, fun y g3 z H3 e3 rg3 ry h3 => ?_⟩⟩⟩
  unfold dput at h3
  split at h3
  · cases rx
    split at h3
    · rename_i ks ds eg
      split at h3
      · rename_i k ek
        obtain ⟨kvs, hp, ekk, rd⟩ := rg3 _ _ eg
        subst ekk
        have rv3 := (rv.mono (e2.kp rg1)).mono (e3.kp rg2)
        obtain ⟨z1, z2⟩ := putK_rd (k := k) rv3 rd
        refine ⟨_, _, rfl, .inl ⟨kvs, k, hp, keyK_of ry ek, ?_, rfl⟩, ?_⟩
        · have hl := rd.length
          rw [List.length_map] at hl
          rw [← hl]; exact h3.1
        have ex : Ext g H (gup g3 _ (.dK (putKs (kvs.map (·.1)) k) (putDs (kvs.map (·.1)) ds k v))) (upd H3 _ (.dK (putK kvs k u))) := ((e1.trans e2).trans e3).trans (Ext.set eg)
        exact k1 _ _ _ _ ex (rg3.setK eg z1 z2) (rs.mono (ex.kp rg)) h3.2
      · exact h3.elim
    · exact h3.elim
  · exact h3.elim
/-! ### sorted(d), its keys ints -/
theorem ints_at : ∀ {us : List Value} {ks : List Int}, us.length = ks.length → (∀ (j : Nat) (v : Value), us[j]? = some v → ∃ (x : Int) (t : Tok), ks[j]? = some x ∧ v = Value.int x t) → IntsAre us ks
  | [], [], _, _ => .nil
  | u :: us, k :: ks, hl, h => by
    obtain ⟨x, t, e1, e2⟩ := h 0 u rfl
    have e3 : k = x := Option.some.inj e1
    subst e3
    subst e2
    refine .cons _ _ (ints_at (by simpa using hl) fun j v e => ?_)
    obtain ⟨y, t, a, b⟩ := h (j + 1) v (by simpa using e)
    exact ⟨y, t, by simpa using a, b⟩
  | [], _ :: _, hl, _ => by simp at hl
  | _ :: _, [], hl, _ => by simp at hl
theorem call_sortedDI (hcalm : X.calm = true) : CallR X (.builtin "sorted") (fun xs H Q => ∃ (a : Addr) (kvs : List (Key × V)) (ks : List Int), xs = [.ref a] ∧ Rd H a (.dK kvs) ∧ kvs.map (·.1) = ks.map (Sum.inl : Int → Key) ∧ ks.length < 64 ∧
    ∀ (ys : List Int) (p : Addr), ys.Perm ks → ys.Pairwise (· ≤ ·) → H p = none → Q (.ref p) (upd H p (.lst (ys.map V.int)))) := by
  intro pinz s σ H xs us Q I0 r q
  obtain ⟨a, kvs, ks, ex, hd, hks, h64, q⟩ := q
  subst ex
  obtain ⟨u, eu, rx⟩ := vals1 r
  subst eu
  cases rx
  obtain ⟨z, lo, vs, rel, dd⟩ := dk_rd I0.hok hd
  obtain ⟨ep, hat⟩ := dd.dictAt
  have hkeys : vs.map (·.1) = ks.map (Sum.inl : Int → Key) := rel.keys.symm.trans hks
  have hl : vs.length = ks.length := by
    have e := congrArg List.length hkeys
    simpa using e
  have h16 : vs.length ≤ sizeLine := by rw [hl, sizeLine_eq]; omega
  refine Calls.call_function_entry PyProof.Rows.kind_sorted PyProof.Rows.plain_sorted PyProof.Rows.entry_sorted (PyProof.Rows.args_sorted1 _) ?_
  unfold Builtin.«sorted»
  refine wpAny_bind (m := checkCount "sorted" 1 1 _) (wpAny_pure ?_)
  refine wpAny_bind (PySem.W.kdu_collect (A := X.A.in1) (PySem.W.kdl_dict (knd := mixKind X.prog X.w) (kvs := vs) (ep := ep) lo) (I0.ok.hd hcalm) hat h16 fun h' tk acc hk hacc => ?_)
  have hal : acc.toList.length = ks.length := by rw [Array.length_toList, hacc.1, hl]
  have hS : IntsAre acc.toList ks := ints_at hal fun j v e => by
    obtain ⟨k, x, e1, e2⟩ := hacc.2 j v (by rw [← Array.getElem?_toList]; exact e)
    have e3 : (vs.map (·.1))[j]? = some k := by rw [List.getElem?_map, e1]; all_goals rfl
    rw [hkeys, List.getElem?_map] at e3
    cases e4 : ks[j]? with
    | none => rw [e4] at e3; cases e3
    | some y =>
      rw [e4] at e3
      have e5 : Sum.inl y = k := Option.some.inj e3
      subst e5
      obtain ⟨t, ev⟩ := Value.isInt_shape (k := y) (v := v) e2
      exact ⟨y, t, rfl, ev⟩
  have J1 : Inv X pinz σ H { s with heap := h', toks := tk } := I0.kept hk
  refine wpAny_bind (wpAny_newList ?_ (by rw [hal, sizeLine_eq]; omega))
  have hoL : (h'.push (seqObj "list" acc.toList.toArray 0)).get? h'.objs.size = some (seqObj "list" acc.toList.toArray 0) := Heap.get?_push_size _ rfl
  show wpAny _ _ _ _ _ { s with heap := h'.push (seqObj "list" acc.toList.toArray 0), toks := tk }
  refine wpAny_bind (wpAny_holding (wpAny_call_entry PyProof.Rows.slot_list_sort ⟨_, hoL, rfl⟩ PyProof.Rows.entry_list_sort
    (PyProof.Rows.list_sort_tree (s := { s with heap := h'.push (seqObj "list" acc.toList.toArray 0), toks := tk }) hoL hS (by rw [hal]; exact h64) fun out ys g1 g2 g3 => ⟨_, rfl, ?_⟩)
    (PyProof.Rows.args_list_sort _)))
  obtain ⟨e', he'⟩ := PyProof.Rows.sortedHeap_at (vs := acc.toList) (out := out) hoL
  have hlen : (ys.map V.int).length ≤ sizeLine := by
    rw [List.length_map, g2.length_eq]
    exact Nat.le_trans (Nat.le_of_lt h64) (by decide)
  refine wpAny_pure ⟨_, rfl, .ref h'.objs.size, upd H h'.objs.size (.lst (ys.map V.int)), J1.laid (t' := tk) (fun b u e => ?_) (Nat.le_refl _)
    (show ObjOk X.prog X.w _ _ _ (.lst (ys.map V.int)) from ⟨hlen, out.toList, e', vals_of_ints g1, by rw [Array.toArray_toList]; exact he'⟩), rfl, q ys _ g2 g3 (J1.hok.fresh (Nat.le_refl _))⟩
  have hb : b < h'.objs.size := Heap.lt_size e
  rw [PyProof.Rows.sortedHeap_old (Nat.ne_of_lt hb) (by rw [size_push']; exact Nat.lt_succ_of_lt hb)]
  exact Heap.get?_push_of_some _ e
def keyInts : List Key → Option (List Int)
  | [] => some []
  | .inl i :: r => (keyInts r).map (i :: ·)
  | .inr _ :: _ => none
theorem keyInts_of : ∀ {ks : List Key} {ns : List Int}, keyInts ks = some ns → ks = ns.map (Sum.inl : Int → Key)
  | [], ns, h => by cases h; rfl
  | .inl i :: r, ns, h => by
    unfold keyInts at h
    cases e : keyInts r with
    | none => rw [e] at h; cases h
    | some ms => rw [e] at h; cases h; rw [keyInts_of e]; rfl
  | .inr _ :: _, _, h => by cases h
theorem keyInts_map : ∀ ns : List Int, keyInts (ns.map Sum.inl) = some ns
  | [] => rfl
  | n :: r => by
    show (keyInts (r.map Sum.inl)).map (n :: ·) = _
    rw [keyInts_map r]; rfl
/-- the keys and values of a dict -/
def dctK (g : DG) : DV → Option (List Key × List DV)
  | .dK ks ds => some (ks, ds)
  | .ref p => match g p with | some (.dK ks ds) => some (ks, ds) | _ => none
  | _ => none
theorem dctK_of {K : Fg} {H : Hp} {g : DG} {d : DV} {v : V} {ks : List Key} {ds : List DV} (rg : RG K H g) (r : RD K H d v) (h : dctK g d = some (ks, ds)) :
    ∃ a kvs, v = .ref a ∧ Rd H a (.dK kvs) ∧ kvs.map (·.1) = ks ∧ RDs K H ds (kvs.map (·.2)) := by
  cases r with
  | dK hs hr =>
    cases h
    obtain ⟨o, kvs, e, e1, e2⟩ := hs
    exact ⟨_, kvs, rfl, .inr ⟨o, e⟩, e1, by rw [e2]; exact hr⟩
  | ref a =>
    unfold dctK at h
    split at h <;> first | cases h | skip
    all_goals (try (rename_i q; cases q))
    all_goals (split at h <;> first | (cases h; rename_i e; obtain ⟨kvs, q, e1, rd⟩ := rg _ _ e; exact ⟨_, kvs, rfl, .inl q, e1, rd⟩) | cases h)
  | _ => cases h
def rrSortedDI : RRs := rr1 fun x g P => match dctK g x with
  | some (ks, _) => (match keyInts ks with | some ns => ns.length < 64 ∧ ∀ ms : List Int, ms.Perm ns → ms.Pairwise (· ≤ ·) → P (.lst (ms.map DV.int)) | none => False)
  | none => False
theorem ref_sortedDI {K : Fg} : RefCall K rrSortedDI (fun xs H Q => ∃ (a : Addr) (kvs : List (Key × V)) (ks : List Int), xs = [.ref a] ∧ Rd H a (.dK kvs) ∧ kvs.map (·.1) = ks.map (Sum.inl : Int → Key) ∧ ks.length < 64 ∧
    ∀ (ys : List Int) (p : Addr), ys.Perm ks → ys.Pairwise (· ≤ ·) → H p = none → Q (.ref p) (upd H p (.lst (ys.map V.int)))) := by
  intro xs P vs H g Q rg r k h
  obtain ⟨x, v, rfl, rfl, rx, h⟩ := rr1_of r h
  split at h
  · rename_i ks ds e
    split at h
    · rename_i ns en
      obtain ⟨a, kvs, rfl, hq, e1, _⟩ := dctK_of rg rx e
      exact ⟨a, kvs, ns, rfl, hq, by rw [e1, keyInts_of en], h.1, fun ys p h1 h2 hp => fz_lift rg k (RDs.ofInts ys) (h.2 ys h1 h2) p hp⟩
    · exact h.elim
  · exact h.elim

/-! ### answers that are new things to be changed -/
abbrev RRsM := List DV → DG → (DV → DG → Prop) → Prop
def RefCallM (K : Fg) (r : RRsM) (R : List V → Hp → VK → Prop) : Prop := ∀ (xs : List DV) (P : DV → DG → Prop) (vs : List V) (H : Hp) (g : DG) (Q : VK), RG K H g → RDs K H xs vs →
  (∀ z g' w H', Ext g H g' H' → RG K H' g' → RD K H' z w → P z g' → Q w H') → r xs g P → R vs H (fz Q)
def dCBM (r : RRsM) (t : TDA) : TDE := fun δ g Q => t δ g fun xs g1 => r xs g1 Q
theorem cbM_up {r : RRsM} {R : List V → Hp → VK → Prop} {σ : L2.St} {H : Hp} {Q : VK} {K : Fg} {t : TDA} (rf : RefCallM K r R) (h : upE K (dCBM r t) σ H Q) : tCB (fun xs H Q => R xs H (fz Q)) (upA K t) σ H Q := by
  obtain ⟨δ, g, P, rs, rg, h, k⟩ := h
  exact ⟨δ, g, _, rs, rg, h, fun ds g1 vs H1 e1 rg1 rd1 h1 => rf ds _ vs H1 g1 Q rg1 rd1 (fun z g' w H' e rg' rd' pz => k z g' w H' (e1.trans e) rg' rd' pz) h1⟩
variable {x : Str} {p : Pos} {es : List Expr} {t : TDA}
theorem pd_callTyM {T : String} {r : RRsM} {R : List V → Hp → VK → Prop} (hc : CallR X (.type T) R) (rf : RefCallM X.K r R) (hm : X.mg x = none) (hv : bootBuiltins x = some (.type T)) (ha : PA X (e :: es) (upA X.K t)) (hg : Gl X x := by rfl) (hn : x ≠ "__name__" := by decide) (hdb : (x == ("__debug__" : Str)) = false := by decide)
    (he : starEach (e :: es) X.env = (false, eval e X.env) :: starEach es X.env := by rfl) (hpl : (backTo pos (starEach es X.env)).any (·.1) = false := by rfl) : PE X (.Call (.Name x p) (e :: es) [] pos) (upE X.K (dCBM r t)) :=
  PE_weak (pe_callTy (CallR_fz hc) hg hm hv ha hn hdb he hpl) fun _ _ _ h => cbM_up rf h
/-! ### tuple(range(n)), list(range(n)) -/
end
end DL

/-! Deep layer S: set(list of ints), sorted(set(list)). -/
namespace L2
open PyProof.Rows PySem.Spec PySem
/-- an empty set's object -/
abbrev sNew (u : World) : Obj := { cls := .type "set", dict := none, data := .set #[] 0 (.fresh 0 0 (!u.params.followText "set-order")) }
section
variable {P : Program} {u : World} {A : Around} {E : Value → Shared → Prop} {s : Shared}
end
end L2
namespace DL
open PyProof.Rows PySem.Spec PySem L2
section
variable {X : Cx} {pos : Pos} {a : Expr} {ta : TDE}
end
end DL

/-! Deep layer T: small facts for readings. -/
namespace DL
open PySem L2
theorem atI_c0 (a : DV) (l : List DV) : atI (a :: l) 0 = some a := atI_nat (j := 0) rfl
theorem atI_c1 (a b : DV) (l : List DV) : atI (a :: b :: l) 1 = some b := atI_nat (j := 1) rfl
theorem atI_c2 (a b c : DV) (l : List DV) : atI (a :: b :: c :: l) 2 = some c := atI_nat (j := 2) rfl
theorem ixN_30 : ixN 3 0 = some 0 := by decide
theorem ixN_32 : ixN 3 2 = some 2 := by decide

theorem powW {i j : Int} (h : 0 ≤ j ∧ (Builtin.Int.intBits i : Int) * j ≤ 2 ^ 27) : CPowW i j := h
end DL

/-! Deep layer R: reading a derivation step by step, from the head on. -/
namespace DL
open PySem L2
section
variable {δ δ' : DS} {g : DG} {E : DEnds} {Q : DV → DG → Prop} {QB : Bool → DG → Prop} {QA : List DV → DG → Prop} {P : DV → Prop} {a b c : TDE} {ta : TDA} {t u : TDS} {x y d : DV} {ds es : List DV} {tc tc2 : TDT} {i j : Int} {p : Addr}
theorem rd_seq {n bk ct : DS → DG → Prop} {r : DV → DG → Prop} (h : t ⟨u ⟨n, r, bk, ct⟩, r, bk, ct⟩ δ g) : dSeq t u ⟨n, r, bk, ct⟩ δ g := h
theorem rd_seqE (h : t ⟨u ⟨fun _ g' => DRet Q .non g', DRet Q, (dEnds Q).bk, (dEnds Q).ct⟩, DRet Q, (dEnds Q).bk, (dEnds Q).ct⟩ δ g) : dSeq t u (dEnds Q) δ g := h
theorem rd_next (h : E.nx δ g) : dNext E δ g := h
theorem rd_nx {f bk ct : DS → DG → Prop} {rt : DV → DG → Prop} (h : f δ g) : (DEnds.mk f rt bk ct).nx δ g := h
theorem rd_bk {f bk ct : DS → DG → Prop} {rt : DV → DG → Prop} (h : bk δ g) : (DEnds.mk f rt bk ct).bk δ g := h
theorem rd_ct {f bk ct : DS → DG → Prop} {rt : DV → DG → Prop} (h : ct δ g) : (DEnds.mk f rt bk ct).ct δ g := h
theorem rd_rt {f bk ct : DS → DG → Prop} {rt : DV → DG → Prop} (h : rt d g) : (DEnds.mk f rt bk ct).rt d g := h
theorem rd_rtE (h : DRet Q d g) : (dEnds Q).rt d g := h
theorem rd_nxE (h : DRet Q .non g) : (dEnds Q).nx δ g := h
theorem rd_drop (h : a δ g fun _ g1 => E.nx δ g1) : dDrop a E δ g := h
theorem rd_ret (h : a δ g fun d g1 => E.rt d g1) : dRet a E δ g := h
theorem rd_dif (h : tc δ g fun k g1 => if k = true then t E δ g1 else u E δ g1) : dIf tc t u E δ g := h
def asgK (tg : Tg) (E : DEnds) (δ : DS) (d : DV) (g : DG) : Prop := match bindT tg d δ with | some δ' => E.nx δ' g | none => False
theorem rd_asg {tg : Tg} (h : a δ g fun d g1 => asgK tg E δ d g1) : dAsg tg a E δ g := h
theorem rd_asgK {tg : Tg} (e : bindT tg d δ = some δ') (h : E.nx δ' g) : asgK tg E δ d g := by unfold asgK; rw [e]; exact h
def parK (is : List Nat) (E : DEnds) (δ : DS) (ds : List DV) (g : DG) : Prop := match setAll is ds δ with | some δ' => E.nx δ' g | none => False
theorem rd_par {is : List Nat} (h : ta δ g fun d g1 => parK is E δ d g1) : dPar is ta E δ g := h
theorem rd_parK {is : List Nat} (e : setAll is ds δ = some δ') (h : E.nx δ' g) : parK is E δ ds g := by unfold parK; rw [e]; exact h
theorem rd_for {wi : TDI} {tg : Tg} (h : wi δ g fun ds g1 => dLoop tg t E ds δ g1) : dFor wi tg t E δ g := h
theorem rd_loop {tg : Tg} {n bk ct : DS → DG → Prop} {r : DV → DG → Prop} (e : bindT tg d δ = some δ') (h : t ⟨dLoop tg t ⟨n, r, bk, ct⟩ ds, r, n, dLoop tg t ⟨n, r, bk, ct⟩ ds⟩ δ' g) : dLoop tg t ⟨n, r, bk, ct⟩ (d :: ds) δ g := by unfold dLoop; rw [e]; exact h
theorem rd_fz {n : Nat} (e : nth δ n = some (.ref p)) (e2 : g p = some (.lst ds)) (h : t E (δ.set n (some (.lst ds))) (gdel g p)) : dFz n t E δ g := by unfold dFz; rw [e]; dsimp only; rw [e2]; exact ⟨trivial, h⟩
theorem rd_var {n : Nat} (e : nth δ n = some d) (h : Q d g) : dVar n δ g Q := by unfold dVar; rw [e]; exact h
theorem rd_c (h : Q d g) : dC d δ g Q := h
theorem rd_op {r : RR2} (h : a δ g fun x g1 => b δ g1 fun y g2 => r x y g2 fun z => Q z g2) : dOp r a b δ g Q := h
theorem rd_un {r : RR1} (h : a δ g fun x g1 => r x g1 fun z => Q z g1) : dUn r a δ g Q := h
def bK (Q : Bool → DG → Prop) (d : DV) (g : DG) : Prop := match d with | .bl c => Q c g | _ => False
theorem rd_b (h : a δ g fun d g1 => bK QB d g1) : dB a δ g QB := h
theorem rd_bK {k : Bool} (h : QB k g) : bK QB (.bl k) g := h
def tK (Q : Bool → DG → Prop) (d : DV) (g : DG) : Prop := match truD g d with | some b => Q b g | none => False
theorem rd_tru (h : a δ g fun d g1 => tK QB d g1) : dTru a δ g QB := h
theorem rd_tKb {k : Bool} (h : QB k g) : tK QB (.bl k) g := h
theorem rd_and (h : tc δ g fun k g1 => if k = true then tc2 δ g1 QB else QB false g1) : dAnd tc tc2 δ g QB := h
theorem rd_or (h : tc δ g fun k g1 => if k = true then QB true g1 else tc2 δ g1 QB) : dOr tc tc2 δ g QB := h
theorem rd_not (h : tc δ g fun k g1 => QB (!k) g1) : dNot tc δ g QB := h
def tvK (F : Bool → DV → DG → Prop) (x : DV) (g : DG) : Prop := match truD g x with | some k => F k x g | none => False
theorem rd_tvKb {F : Bool → DV → DG → Prop} {k : Bool} (h : F k (.bl k) g) : tvK F (.bl k) g := h
theorem rd_andV (h : a δ g fun x g1 => tvK (fun k x g1 => if k = true then b δ g1 Q else Q x g1) x g1) : dAndV a b δ g Q := h
theorem rd_notV (h : a δ g fun x g1 => tvK (fun k _ g1 => Q (.bl (!k)) g1) x g1) : dNotV a δ g Q := h
theorem rd_ifE (h : tc δ g fun k g1 => if k = true then a δ g1 Q else b δ g1 Q) : dIfE tc a b δ g Q := h
theorem rd_nil (h : QA [] g) : dNil δ g QA := h
theorem rd_cons (h : a δ g fun x g1 => ta δ g1 fun xs g2 => QA (x :: xs) g2) : dCons a ta δ g QA := h
def zK (Q : List DV → DG → Prop) (ds : List DV) (g : DG) : Prop := ds.length ≤ sizeLine ∧ Q ds g
theorem rd_zK (e : ds.length ≤ 16777216) (h : QA ds g) : zK QA ds g := ⟨by rw [sizeLine_eq]; exact e, h⟩
theorem rd_tup (h : ta δ g fun ds g1 => zK (fun ds g1 => Q (.tup ds) g1) ds g1) : dTup ta δ g Q := h
theorem rd_lst (h : ta δ g fun ds g1 => zK (fun ds g1 => Q (.lst ds) g1) ds g1) : dLst ta δ g Q := h
theorem rd_lstM (h : ta δ g fun ds g1 => zK (fun ds g1 => ∀ p, g1 p = none → Q (.ref p) (gup g1 p (.lst ds))) ds g1) : dLstM ta δ g Q := h
theorem rd_cb {r : RRs} (h : ta δ g fun xs g1 => r xs g1 fun z => Q z g1) : dCB r ta δ g Q := h
theorem rd_call {sp : SpD} (h : ta δ g fun xs g1 => sp xs g1 Q) : dCall sp ta δ g Q := h
theorem rd_sp1 {f : DV → DG → (DV → DG → Prop) → Prop} (h : f x g Q) : sp1 f [x] g Q := h
theorem rd_sp2 {f : DV → DV → DG → (DV → DG → Prop) → Prop} (h : f x y g Q) : sp2 f [x, y] g Q := h
theorem rd_sp3 {f : DV → DV → DV → DG → (DV → DG → Prop) → Prop} (h : f x y d g Q) : sp3 f [x, y, d] g Q := h
theorem rd_len (e : seqD g x = some ds) (h : P (.int ds.length)) : rrLen [x] g P := by unfold rrLen rr1; dsimp only; rw [seqP_of e]; exact h
theorem rd_int (h : P (.int i)) : rrInt [.int i] g P := h
theorem rd_intb {k : Bool} (h : P (.int (if k then 1 else 0))) : rrInt [.bl k] g P := h
theorem rd_abs (h : P (.int (if i < 0 then -i else i))) : rrAbs [.int i] g P := h
theorem rd_ii {f : Int → Int → Int} (h : P (.int (f i j))) : rrII f [.int i, .int j] g P := h
theorem rd_sum {ns : List Int} (e : lstD g x = some ds) (e2 : intsD ds = some ns) (h : P (.int ns.sum)) : rrSum [x] g P := by unfold rrSum rr1; dsimp only; rw [e]; dsimp only; rw [e2]; exact h
theorem rd_bs {f : List Bool → Bool} {bs : List Bool} (e : lstD g x = some ds) (e2 : blsD ds = some bs) (h : P (.bl (f bs))) : rrBs f [x] g P := by unfold rrBs rr1; dsimp only; rw [e]; dsimp only; rw [e2]; exact h
theorem rd_tuple (e : seqD g x = some ds) (h : P (.tup ds)) : rrTuple [x] g P := by unfold rrTuple rr1; dsimp only; rw [e]; exact h
theorem rd_list (e : seqD g x = some ds) (h : P (.lst ds)) : rrList [x] g P := by unfold rrList rr1; dsimp only; rw [e]; exact h
theorem rd_sorted (e : lstD g x = some ds) (c : SortOk ds) (h : P (.lst (ds.mergeSort dleD))) : rrSorted [x] g P := by unfold rrSorted rr1; dsimp only; rw [e]; exact ⟨c, h⟩
theorem rd_isi {T s : String} {k : Bool} (e : tyNm g x = some s) (e2 : isiN s T = some k) (h : P (.bl k)) : rrIsi [x, .ty T] g P := by unfold rrIsi rr2; dsimp only; rw [e]; dsimp only; rw [e2]; exact h
theorem rd_add (h : P (.int (i + j))) : rrAdd (.int i) (.int j) g P := h
theorem rd_sub (h : P (.int (i - j))) : rrSub (.int i) (.int j) g P := ⟨trivial, h⟩
theorem rd_addI (h : P (.int (i + j))) : rrAddI (.int i) (.int j) g P := ⟨trivial, h⟩
theorem rd_rI {C : Int → Int → Prop} {f : Int → Int → DV} (c : C i j) (h : P (f i j)) : rrI C f (.int i) (.int j) g P := ⟨c, h⟩
theorem rd_cmp {f : Int → Int → Bool} (h : P (.bl (f i j))) : rrCmp f (.int i) (.int j) g P := h
theorem rd_eq (c : okD x = true) (c2 : okD y = true) (h : P (.bl (eqD x y))) : rrEq x y g P := ⟨c, c2, h⟩
theorem rd_ne (c : okD x = true) (c2 : okD y = true) (h : P (.bl (!eqD x y))) : rrNe x y g P := ⟨c, c2, h⟩
theorem rd_ix (e : seqD g x = some ds) (e2 : atI ds i = some d) (h : P d) : ixD x (.int i) g P := by unfold ixD; dsimp only; rw [e]; dsimp only; unfold optD; rw [e2]; exact h
def setK (E : DEnds) (δ : DS) (y x i : DV) (g : DG) : Prop := match i with
  | .int k => atL x g fun p ds => (match ixN ds.length k with | some j => E.nx δ (gup g p (.lst (ds.set j y))) | none => False)
  | _ => False
theorem rd_setI (h : a δ g fun y g1 => b δ g1 fun x g2 => c δ g2 fun i g3 => setK E δ y x i g3) : dSetI a b c E δ g := h
theorem rd_setK {k : Nat} (e : g p = some (.lst ds)) (e2 : ixN ds.length i = some k) (h : E.nx δ (gup g p (.lst (ds.set k y)))) : setK E δ y (.ref p) (.int i) g := by unfold setK; dsimp only; unfold atL; dsimp only; rw [e]; dsimp only; rw [e2]; exact h
theorem rd_set30 {a b c y : DV} (e : g p = some (.lst [a, b, c])) (h : E.nx δ (gup g p (.lst [y, b, c]))) : setK E δ y (.ref p) (.int 0) g := by
  unfold setK; dsimp only; unfold atL; dsimp only; rw [e]; dsimp only; rw [show ixN [a, b, c].length 0 = some 0 from ixN_30]; exact h
theorem rd_set32 {a b c y : DV} (e : g p = some (.lst [a, b, c])) (h : E.nx δ (gup g p (.lst [a, b, y]))) : setK E δ y (.ref p) (.int 2) g := by
  unfold setK; dsimp only; unfold atL; dsimp only; rw [e]; dsimp only; rw [show ixN [a, b, c].length 2 = some 2 from ixN_32]; exact h
theorem rd_mt {r : RRm} (h : a δ g fun x g1 => (lstD g1 x).isSome = true ∧ ta δ g1 fun xs g2 => r x xs g2 Q) : dMt r a ta δ g Q := h
theorem rd_some (e : lstD g x = some ds) {R : Prop} (h : R) : (lstD g x).isSome = true ∧ R := ⟨by rw [e]; rfl, h⟩
theorem rd_append (e : g p = some (.lst ds)) (c : ds.length < 16777216) (h : Q .non (gup g p (.lst (ds ++ [y])))) : rmAppend (.ref p) [y] g Q := by unfold rmAppend; dsimp only; unfold atL; dsimp only; rw [e]; exact ⟨by rw [sizeLine_eq]; exact c, h⟩
def chnK (r' : RR2) (c : TDE) (δ : DS) (Q : DV → DG → Prop) (y z : DV) (g2 : DG) : Prop := match z with
  | .bl k => if k = true then c δ g2 fun u g3 => r' y u g3 fun w => Q w g3 else Q (.bl false) g2
  | _ => False
theorem rd_chain {r r' : RR2} (h : a δ g fun x g1 => b δ g1 fun y g2 => r x y g2 fun z => chnK r' c δ Q y z g2) : dChain r r' a b c δ g Q := h
theorem rd_chnK {r' : RR2} {k : Bool} (h : if k = true then c δ g fun u g3 => r' y u g3 fun w => Q w g3 else Q (.bl false) g) : chnK r' c δ Q y (.bl k) g := h
theorem rd_ng (h : P (.int (-i))) : rrNeg (.int i) g P := h
theorem rd_newF (h : Q (.dK [] []) g) : dNewF δ g Q := h
theorem rd_dput (h : a δ g fun v g1 => b δ g1 fun x g2 => c δ g2 fun y g3 => dput x y v g3 fun g4 => E.nx δ g4) : dDPut b c a E δ g := h
theorem rd_cbM {r : RRsM} (h : ta δ g fun xs g1 => r xs g1 Q) : dCBM r ta δ g Q := h
theorem rd_sortDI {ks : List Key} {ns : List Int} (e : dctK g x = some (ks, ds)) (e2 : keyInts ks = some ns) (c : ns.length < 64) (h : ∀ ms : List Int, ms.Perm ns → ms.Pairwise (· ≤ ·) → P (.lst (ms.map DV.int))) : rrSortedDI [x] g P := by
  unfold rrSortedDI rr1; dsimp only; rw [e]; dsimp only; rw [e2]; exact ⟨c, h⟩
theorem rd_addL (c : ds.length + es.length ≤ 16777216) (h : P (.lst (ds ++ es))) : rrAdd (.lst ds) (.lst es) g P := ⟨by rw [sizeLine_eq]; exact c, h⟩
theorem rd_lc {wi : TDI} {tg : Tg} {own : List Nat} {tt : TDT} (h : wi δ g fun ds g1 => zK (fun ds g1 => dComp tg own tt a δ ds g1 fun ys g2 => Q (.lst ys) g2) ds g1) : dLc wi tg own tt a δ g Q := h
theorem rd_yes (h : QB true g) : dYes δ g QB := h
def wsK (R : List DV → DG → Prop) (x : DV) (g : DG) : Prop := match x with | .tup ds => R ds g | .lst ds => R ds g | .scr ns => R (ns.map .int) g | .tpl ds => R ds g | _ => False
theorem rd_wseq (h : a δ g fun x g1 => wsK QA x g1) : wSeq a δ g QA := h
theorem rd_wsT (h : QA ds g) : wsK QA (.tup ds) g := h
theorem rd_wsL (h : QA ds g) : wsK QA (.lst ds) g := h
theorem rd_wsS {ns : List Int} (h : QA (ns.map .int) g) : wsK QA (.scr ns) g := h
theorem rd_wzip (h : ta δ g (one2 fun x y g1 => match x, y with
  | .tup xs, .tup ys => QA (zipD xs ys) g1
  | .lst xs, .lst ys => QA (zipD xs ys) g1
  | .tpl xs, .tup ys => QA (zipD xs ys) g1
  | .tpl xs, .tpl ys => QA (zipD xs ys) g1
  | _, _ => False)) : wZip ta δ g QA := h
theorem rd_zipT (h : QA (zipD ds es) g) : one2 (fun x y g1 => match x, y with
  | .tup xs, .tup ys => QA (zipD xs ys) g1
  | .lst xs, .lst ys => QA (zipD xs ys) g1
  | .tpl xs, .tup ys => QA (zipD xs ys) g1
  | .tpl xs, .tpl ys => QA (zipD xs ys) g1
  | _, _ => False) [.tup ds, .tup es] g := h
def rgK (R : List DV → DG → Prop) (xs : List DV) (g1 : DG) : Prop := one1 (fun x g1 => match x with | .int j => rngOk 0 j ∧ R (rangeD 0 j.toNat) g1 | _ => False) xs g1
theorem rd_rng1 (h : ta δ g fun xs g1 => rgK QA xs g1) : wRng1 ta δ g QA := h
theorem rd_rng1K (c : j < 2 ^ 62 ∧ -(2 ^ 62) ≤ j) (h : QA (rangeD 0 j.toNat) g) : rgK QA [.int j] g := ⟨⟨by decide, by decide, c.2, c.1⟩, h⟩
def rgK2 (R : List DV → DG → Prop) (xs : List DV) (g1 : DG) : Prop := one2 (fun x y g1 => match x, y with | .int i, .int j => rngOk i j ∧ R (rangeD i (j - i).toNat) g1 | _, _ => False) xs g1
theorem rd_rng2 (h : ta δ g fun xs g1 => rgK2 QA xs g1) : wRng2 ta δ g QA := h
theorem rd_rng2K (c : rngOk i j) (h : QA (rangeD i (j - i).toNat) g) : rgK2 QA [.int i, .int j] g := ⟨c, h⟩
def slK (Q : DV → DG → Prop) (x : DV) (lo hi : Option Int) (g3 : DG) : Prop := match x with
  | .tup ds => Q (.tup (cutD ds lo hi)) g3
  | .lst ds => Q (.lst (cutD ds lo hi)) g3
  | .scr ns => Q (.lst (cutD (ns.map .int) lo hi)) g3
  | .ref p => (match g3 p with | some (.lst ds) => Q (.lst (cutD ds lo hi)) g3 | _ => False)
  | .tpl ds => (HT.sIx ds.length 0 lo = 0 ∧ HT.sIx ds.length ds.length hi = ds.length → Q (.tpl ds) g3) ∧ (¬ (HT.sIx ds.length 0 lo = 0 ∧ HT.sIx ds.length ds.length hi = ds.length) → Q (.tup (cutD ds lo hi)) g3)
  | _ => False
theorem rd_sl {lo hi : TDO} (h : a δ g fun x g1 => lo δ g1 fun lo g2 => hi δ g2 fun hi g3 => slK Q x lo hi g3) : dSl a lo hi δ g Q := h
theorem rd_slT {lo hi : Option Int} (h : Q (.tup (cutD ds lo hi)) g) : slK Q (.tup ds) lo hi g := h
theorem rd_slS {ns : List Int} {lo hi : Option Int} (h : Q (.lst (cutD (ns.map .int) lo hi)) g) : slK Q (.scr ns) lo hi g := h
theorem rd_slL {lo hi : Option Int} (h : Q (.lst (cutD ds lo hi)) g) : slK Q (.lst ds) lo hi g := h
theorem rd_slR {lo hi : Option Int} (e : g p = some (.lst ds)) (h : Q (.lst (cutD ds lo hi)) g) : slK Q (.ref p) lo hi g := by unfold slK; dsimp only; rw [e]; exact h
theorem rd_nopart {QO : Option Int → DG → Prop} (h : QO none g) : dNoPart δ g QO := h
def ptK (Q : Option Int → DG → Prop) (x : DV) (g : DG) : Prop := match x with | .int i => Q (some i) g | _ => False
theorem rd_part {QO : Option Int → DG → Prop} (h : a δ g fun x g1 => ptK QO x g1) : dPart a δ g QO := h
theorem rd_ptK {QO : Option Int → DG → Prop} (h : QO (some i) g) : ptK QO (.int i) g := h
def stK (t : TDA) (Q : List DV → DG → Prop) (δ : DS) (x : DV) (g1 : DG) : Prop := match seqD g1 x with | some ds => t δ g1 fun xs g2 => Q (ds ++ xs) g2 | none => False
theorem rd_star (h : a δ g fun x g1 => stK ta QA δ x g1) : dStar a ta δ g QA := h
theorem rd_stK (e : seqD g x = some ds) (h : ta δ g fun xs g2 => QA (ds ++ xs) g2) : stK ta QA δ x g := by unfold stK; rw [e]; exact h
theorem rd_loopI {tg : Tg} {n bk ct : DS → DG → Prop} {r : DV → DG → Prop} (I : Nat → DS → DG → Prop) : ∀ {ds : List DV} {δ : DS} {g : DG}, I ds.length δ g →
    (∀ d ∈ ds, ∀ (k : Nat) (δ : DS) (g : DG) (f : DS → DG → Prop), (∀ δ g, I k δ g → f δ g) → I (k + 1) δ g → ∃ δ1, bindT tg d δ = some δ1 ∧ t ⟨f, r, n, f⟩ δ1 g) →
    (∀ δ g, I 0 δ g → n δ g) → dLoop tg t ⟨n, r, bk, ct⟩ ds δ g
  | [], δ, g, h0, _, he => he _ _ h0
  | d :: ds, δ, g, h0, hs, he => by
    obtain ⟨δ1, e, h⟩ := hs d List.mem_cons_self ds.length δ g (dLoop tg t ⟨n, r, bk, ct⟩ ds) (fun δ g hi => rd_loopI I hi (fun d hd => hs d (List.mem_cons_of_mem _ hd)) he) h0
    exact rd_loop e h
theorem rd_loopY {tg : Tg} {n bk ct : DS → DG → Prop} {r : DV → DG → Prop} (I : Nat → DS → DG → Prop) : ∀ {ds : List DV} {m : Nat} {δ : DS} {g : DG}, I m δ g →
    (∀ i d, ds[i]? = some d → ∀ (δ : DS) (g : DG) (f : DS → DG → Prop), (∀ δ g, I (m + i + 1) δ g → f δ g) → I (m + i) δ g → ∃ δ1, bindT tg d δ = some δ1 ∧ t ⟨f, r, n, f⟩ δ1 g) →
    (∀ δ g, I (m + ds.length) δ g → n δ g) → dLoop tg t ⟨n, r, bk, ct⟩ ds δ g
  | [], m, δ, g, h0, _, he => he _ _ h0
  | d :: ds, m, δ, g, h0, hs, he => by
    obtain ⟨δ1, e, h⟩ := hs 0 d rfl δ g (dLoop tg t ⟨n, r, bk, ct⟩ ds) (fun δ g hi => rd_loopY (m := m + 1) I hi (fun i d hd => by
      have z := hs (i + 1) d (by simpa using hd)
      rw [show m + (i + 1) = m + 1 + i by omega] at z
      exact z) (fun δ g hi => he δ g (by rw [List.length_cons, show m + (ds.length + 1) = m + 1 + ds.length by omega]; exact hi))) h0
    exact rd_loop e h
/-- by places -/
theorem rd_loopX {tg : Tg} {n bk ct : DS → DG → Prop} {r : DV → DG → Prop} (I : Nat → DS → DG → Prop) {ds : List DV} {δ : DS} {g : DG} (h0 : I 0 δ g)
    (hs : ∀ i d, ds[i]? = some d → ∀ (δ : DS) (g : DG) (f : DS → DG → Prop), (∀ δ g, I (i + 1) δ g → f δ g) → I i δ g → ∃ δ1, bindT tg d δ = some δ1 ∧ t ⟨f, r, n, f⟩ δ1 g)
    (he : ∀ δ g, I ds.length δ g → n δ g) : dLoop tg t ⟨n, r, bk, ct⟩ ds δ g :=
  rd_loopY (m := 0) I h0 (fun i d hd => by rw [Nat.zero_add]; exact hs i d hd) (by rw [Nat.zero_add]; exact he)
def rgKD (R : List DV → DG → Prop) (xs : List DV) (g1 : DG) : Prop := one3 (fun x y z g1 => match x, y, z with | .int i, .int j, .int c => (rngOk i j ∧ c = -1) ∧ R (downD i (i - j).toNat) g1 | _, _, _ => False) xs g1
theorem rd_rngD (h : ta δ g fun xs g1 => rgKD QA xs g1) : wRngD ta δ g QA := h
theorem rd_rngDK (c : rngOk i j) (h : QA (downD i (i - j).toNat) g) : rgKD QA [.int i, .int j, .int (-1)] g := ⟨⟨c, rfl⟩, h⟩
theorem rd_itei {c : Prop} [Decidable c] {A B : Prop} (h1 : c → A) (h2 : ¬c → B) : if decide c = true then A else B := by
  by_cases k : c
  · rw [if_pos (decide_eq_true k)]; exact h1 k
  · rw [if_neg (by simpa using k)]; exact h2 k
theorem rd_iteb {k : Bool} {A B : Prop} (h1 : k = true → A) (h2 : k = false → B) : if k = true then A else B := by
  cases k
  · exact h2 rfl
  · exact h1 rfl
theorem rd_itet {A B : Prop} (h1 : A) : if true = true then A else B := h1
theorem rd_itef {A B : Prop} (h1 : B) : if false = true then A else B := h1
theorem rd_itnt {A B : Prop} (h1 : B) : if (!true) = true then A else B := h1
theorem rd_itnf {A B : Prop} (h1 : A) : if (!false) = true then A else B := h1
end
theorem rangeD_len (lo : Int) (n : Nat) : (rangeD lo n).length = n := by simp only [rangeD, List.length_map, List.length_range]
theorem rangeD_at {n j : Nat} {d : DV} (h : (rangeD 0 n)[j]? = some d) : j < n ∧ d = .int (j : Int) := by
  have hl := (List.getElem?_eq_some_iff.mp h).1
  rw [rangeD_len] at hl
  refine ⟨hl, ?_⟩
  simp only [rangeD, List.getElem?_map, List.getElem?_range hl] at h
  have z := Option.some.inj h
  rw [← z]
  show DV.int (0 + (j : Int)) = _
  rw [Int.zero_add]
theorem downD_len (i : Int) (n : Nat) : (downD i n).length = n := by simp only [downD, List.length_map, List.length_range]
theorem downD_at {i : Int} {n j : Nat} {d : DV} (h : (downD i n)[j]? = some d) : j < n ∧ d = .int (i - (j : Int)) := by
  have hl := (List.getElem?_eq_some_iff.mp h).1
  rw [downD_len] at hl
  refine ⟨hl, ?_⟩
  simp only [downD, List.getElem?_map, List.getElem?_range hl] at h
  have z := Option.some.inj h
  rw [← z]
  show DV.int (i + (j : Int) * (-1)) = _
  congr 1
  omega
theorem seqD_ref {g : DG} {p : Addr} {ds : List DV} (e : g p = some (.lst ds)) : seqD g (.ref p) = some ds := by unfold seqD; dsimp only; rw [e]
theorem lstD_ref {g : DG} {p : Addr} {ds : List DV} (e : g p = some (.lst ds)) : lstD g (.ref p) = some ds := by unfold lstD; dsimp only; rw [e]
theorem seqD_up {g : DG} {p : Addr} {ds : List DV} : seqD (gup g p (.lst ds)) (.ref p) = some ds := seqD_ref gup_same
theorem lstD_up {g : DG} {p : Addr} {ds : List DV} : lstD (gup g p (.lst ds)) (.ref p) = some ds := lstD_ref gup_same
end DL

/-! Deep layer Z: the start of a law. -/
namespace DL
open PySem PySem.Spec PyProof.Rows L2
end DL

/-! Deep layer I: math.comb, while read by a measure. -/
namespace DL
open PySem PySem.Spec PyProof.Rows L2
section
variable {X : Cx} {x : Str} {p pos : Pos} {e : Expr} {es : List Expr} {t : TDA}
theorem cr_comb : CallR X (.builtin "math.comb") (fun vs H Q => ∃ a b : Int, vs = [.int a, .int b] ∧ (0 ≤ a ∧ 0 ≤ b ∧ a < 2 ^ 64 ∧ b ≤ 9000) ∧ Q (.int (PySem.W.mcComb a b)) H) := by
  intro pinz s σ H vs us Q J r h
  obtain ⟨a, b, rfl, c, q⟩ := h
  obtain ⟨t, u, rfl⟩ := Vals.int2 r
  exact PySem.W.mc_comb c.1 c.2.1 c.2.2.1 (.inl c.2.2.2) fun _ => ⟨.int _, H, J.tok _, ⟨_, rfl⟩, q⟩
def rrComb : RRs := rr2 fun x y g P => match x, y with | .int a, .int b => (0 ≤ a ∧ 0 ≤ b ∧ a < 2 ^ 64 ∧ b ≤ 9000) ∧ P (.int (PySem.W.mcComb a b)) | _, _ => False
theorem ref_comb {K : Fg} : RefCall K rrComb (fun vs H Q => ∃ a b : Int, vs = [.int a, .int b] ∧ (0 ≤ a ∧ 0 ≤ b ∧ a < 2 ^ 64 ∧ b ≤ 9000) ∧ Q (.int (PySem.W.mcComb a b)) H) := by
  intro xs P vs H g Q rg r k h
  obtain ⟨x, y, v, u, rfl, rfl, rx, ry, h⟩ := rr2_of r h
  split at h
  · cases rx; cases ry
    exact ⟨_, _, rfl, h.1, .inl (k _ _ H Ext.refl rg (.int _) h.2)⟩
  · exact h.elim
/-- f(..), f a name of the module for a built-in function -/
theorem pd_callF {id : String} {r : RRs} {R : List V → Hp → VK → Prop} (hc : CallR X (.builtin id) R) (rf : RefCall X.K r R) (hm : X.mg x = some (.builtin id)) (ha : PA X (e :: es) (upA X.K t)) (hg : Gl X x := by rfl) (hdb : (x == ("__debug__" : Str)) = false := by decide)
    (he : starEach (e :: es) X.env = (false, eval e X.env) :: starEach es X.env := by rfl) (hpl : (backTo pos (starEach es X.env)).any (·.1) = false := by rfl) : PE X (.Call (.Name x p) (e :: es) [] pos) (upE X.K (dCB r t)) :=
  PE_weak (pe_callBfun (CallR_fz hc) hg hm ha hdb he hpl) fun _ _ _ h => cb_up rf h
end
theorem rd_comb {i j : Int} {g : DG} {P : DV → Prop} (c : 0 ≤ i ∧ 0 ≤ j ∧ i < 2 ^ 64 ∧ j ≤ 9000) (h : P (.int (PySem.W.mcComb i j))) : rrComb [.int i, .int j] g P := ⟨c, h⟩
/-- while: by a measure that falls -/
theorem rd_while {c : TDT} {t : TDS} {n bk ct : DS → DG → Prop} {r : DV → DG → Prop} (I : Nat → DS → DG → Prop) (m : Nat) {δ : DS} {g : DG} (h0 : I m δ g) (hz : ∀ δ g, ¬ I 0 δ g)
    (hs : ∀ (k : Nat) (δ : DS) (g : DG) (f : DS → DG → Prop), (∀ δ g, I k δ g → f δ g) → I (k + 1) δ g → c δ g fun b g1 => if b = true then t ⟨f, r, n, f⟩ δ g1 else n δ g1) :
    dWhile c t ⟨n, r, bk, ct⟩ δ g := by
  refine ⟨m, ?_⟩
  induction m generalizing δ g with
  | zero => exact absurd h0 (hz δ g)
  | succ m ih => exact hs m δ g (dWh c t ⟨n, r, bk, ct⟩ m) (fun δ g hi => ih hi) h0
end DL

/-! Deep layer J: instances of classes with slots: what is read of them, what their own methods say. -/
namespace DL
open PySem PySem.Spec PyProof.Rows L2
/-- an instance with slots, as it is made or locked -/
def InsH (K : Fg) (H : Hp) (a C : Addr) (vs : List (Option V)) : Prop := (∃ dx, SlX.Slt H a C dx vs) ∨ FzI K H a C vs
section
variable {X : Cx} {CX : CXT} {pinz : List (Addr × Obj)} {σ : L2.St} {H : Hp} {s : Shared} {a C p g : Addr} {vs : List (Option V)} {f m : Str} {i n : Nat} {sp : Sp} {EX : XK} {v : V} {A : Around} {E : Value → Shared → Prop}
theorem ins_inst (J : Inv X pinz σ H s) (h : InsH X.K H a C vs) : ∃ (dx : Addr) (sl : Array (Option Value)) (od : Obj), SlX.SlR vs sl ∧ PySem.W.InstAt s.heap a { PySem.W.instObj C dx with slots := sl } C (some od) ∧ ∀ f, PySem.W.lookIn f od = some Option.none := by
  rcases h with ⟨dx, h⟩ | ⟨ob, dx, h1, h2⟩
  · obtain ⟨sl, od, r, z⟩ := SlX.slt_inst J h
    exact ⟨dx, sl, od, r, z⟩
  · obtain ⟨_, ⟨sl, e, r⟩, _, _⟩ := J.hok a _ h1
    obtain ⟨mA, n, r2⟩ := J.hok dx _ h2
    obtain ⟨od, ho, hl⟩ := lookIn_ns n
    exact ⟨dx, sl, od, r, ⟨e, rfl, rfl, ho⟩, fun f => by rw [hl f]; exact congrArg some (RelO.none_of (r2 f))⟩
/-! ### e.f -/
theorem ins_get {b : Bool} {Q : Value → Shared → Prop} (J : Inv X pinz σ H s) (h : InsH X.K H a C vs) (c : SlX.SCls X.K C) (t : SlX.Slot1 X.K C f p i) (l : vs[i]? = some (some v)) (q : ∀ u s', Inv X pinz σ H s' → RelV v u → Q u s') :
    wpAny (model X.prog X.w) A (getAttr (.ref a) f b) Q E s := by
  obtain ⟨dx, sl, od, r, I0, _⟩ := ins_inst J h
  obtain ⟨u, eu, ru⟩ := r i v l
  obtain ⟨m, hF⟩ := J.fr
  refine PySem.W.get_slot hF J.mod.kin I0 (c.get f) c.ic t.at_ t.get t.tk t.ix (v := u) ?_ (handed_of ru) (q u _ (J.tok _) ru)
  show (sl[i]?).join = some u
  rw [eu]
  rfl
def tInsF (K : Fg) (C : Addr) (i : Nat) (t : TE) : TE := fun σ H Q => t σ H fun x H1 => ∃ a vs v, x = .ref a ∧ InsH K H1 a C vs ∧ vs[i]? = some (some v) ∧ Q v H1
theorem pe_insF {e : Expr} {pos : Pos} {t : TE} (he : PE X e t) (c : SlX.SCls X.K C) (k : SlX.Slot1 X.K C f p i) (hb : attributeBase e f X.env (eval e X.env) = eval e X.env := by rfl) : PE X (.Attribute e f pos) (tInsF X.K C i t) := by
  refine ⟨fun pinz s σ H Q J h => ?_⟩
  refine attr_of hb (thn (he.run pinz s σ H _ J h) fun u s1 ⟨x, H1, J1, rx, a, vs, v, ex, hs, l, q⟩ => ?_)
  subst ex
  obtain rfl : u = Value.ref a := rx
  exact ins_get J1 hs c k l fun u' s2 J2 ru => ⟨v, H1, J2, ru, q⟩
/-! ### e.f, a property -/
/-! ### o.m(..) -/
/-! ### isinstance(x, T), x an instance -/
def rInsIsi (K : Fg) (C : Addr) (u : Value) (b : Bool) : List V → Hp → VK → Prop := fun xs H Q => ∃ (a : Addr) (vs : List (Option V)) (c : V), xs = [V.ref a, c] ∧ RelV c u ∧ (∀ w, RelV c w → w = u) ∧ InsH K H a C vs ∧ Q (.bl b) H
theorem cr_insIsi {u : Value} {b : Bool} (hc : SlX.SCls X.K C) (hi : SlX.SIsi X.K C) (hk : PySem.W.kitOne X.K (.ref C) u = some b) : CallR X (.builtin "isinstance") (rInsIsi X.K C u b) := by
  intro pinz s σ H xs us Q J r h
  obtain ⟨a, vs, c, rfl, rc, one, hsl, q⟩ := h
  obtain ⟨u1, u2, rfl, r1, r2⟩ := r.two
  cases (show u1 = Value.ref a from r1)
  cases one _ r2
  obtain ⟨dx, sl, od, _, I0, _⟩ := ins_inst J hsl
  exact PySem.W.kia_one (OwX.kitx_slt hc.ic (hc.get _) hi.ca hi.cn hi.ct hi.cm) J.kIn I0 hk (fun z => nomatch z) fun tk => ⟨.bl b, H, J.tok _, rfl, q⟩
/-! ### len(x), bool(x), y in x by the class's own methods -/
end
end DL

/-! Deep layer K: instances by content. -/
namespace DL
open PySem PySem.Spec PyProof.Rows L2
theorem FnOk_r0 {P : Program} {w : World} {K : Fg} {mg : Str → Option Value} {base : Heap} {CX : CXT} {k : Nat} {f : Addr} {fd : FuncData} {ps : List Str} {sp : Sp} (F : FnOk P w K mg base CX k f fd ps sp) (hb : Binds K fd ps []) :
    FnR P w K mg base CX k f sp := (F.raw hb .nil).imp fun vs H Q E h => by rw [List.append_nil]; exact h
/-! ### the slots of a value -/
def slD (g : DG) (C : Addr) : DV → Option (List (Option DV))
  | .ins C' ds => if C' = C then some (ds.map some) else none
  | .ref p => match g p with | some (.ins C' ds) => if C' = C then some ds else none | _ => none
  | _ => none
theorem slD_of {K : Fg} {H : Hp} {g : DG} {C : Addr} {d : DV} {v : V} {ds : List (Option DV)} (rg : RG K H g) (r : RD K H d v) (h : slD g C d = some ds) : ∃ a vs, v = .ref a ∧ InsH K H a C vs ∧ SlD K H ds vs := by
  cases r with
  | @ins a C' vs es hs hr =>
    have h' : (if C' = C then some (es.map some) else none) = some ds := h
    split at h'
    · rename_i e
      subst e
      cases h'
      refine ⟨_, _, rfl, .inr hs, by rw [List.length_map, List.length_map]; exact hr.length, fun i d e => ?_⟩
      rw [List.getElem?_map] at e
      cases q : es[i]? with
      | none => rw [q] at e; cases e
      | some z =>
        rw [q] at e
        cases e
        obtain ⟨v, h1, h2⟩ := hr.get q
        exact ⟨v, by rw [List.getElem?_map, h1]; rfl, h2⟩
    · cases h'
  | ref a =>
    have h' : (match g a with | some (.ins C' ds) => if C' = C then some ds else none | _ => none) = some ds := h
    split at h'
    · rename_i C' es eg
      split at h'
      · rename_i e
        subst e
        cases h'
        obtain ⟨dx, vs, _, q, rd⟩ := rg _ _ eg
        exact ⟨_, vs, rfl, .inl ⟨dx, q⟩, rd⟩
      · cases h'
    · cases h'
  | _ => cases h
theorem slD_ins {g : DG} {C : Addr} {ds : List DV} : slD g C (.ins C ds) = some (ds.map some) := if_pos rfl
theorem slD_ref {g : DG} {C p : Addr} {ds : List (Option DV)} (e : g p = some (.ins C ds)) : slD g C (.ref p) = some ds := by unfold slD; dsimp only; rw [e]; exact if_pos rfl
section
variable {X : Cx} {CX : CXT} {C p q : Addr} {f m : Str} {i n : Nat} {sp : SpD} {E : XK} {e o : Expr} {es : List Expr} {pos apos : Pos} {t : TDE} {ta : TDA}
/-! ### e.f -/
def dFld (C : Addr) (i : Nat) (t : TDE) : TDE := fun δ g Q => t δ g fun x g1 => match slD g1 C x with | some ds => (match nth ds i with | some d => Q d g1 | none => False) | none => False
theorem pd_fld (c : SlX.SCls X.K C) (k : SlX.Slot1 X.K C f p i) (he : PE X e (upE X.K t)) (hb : attributeBase e f X.env (eval e X.env) = eval e X.env := by rfl) : PE X (.Attribute e f pos) (upE X.K (dFld C i t)) := by
  refine PE_weak (pe_insF he c k hb) fun σ H Q ⟨δ, g, P, rs, rg, h, kk⟩ => ⟨δ, g, _, rs, rg, h, fun x g1 v H1 e1 rg1 rd1 h1 => ?_⟩
  split at h1
  · rename_i ds es
    split at h1
    · rename_i d ed
      obtain ⟨a, vs, rfl, hi, hs⟩ := slD_of rg1 rd1 es
      obtain ⟨u, hu, ru⟩ := hs.2 i d (nth_get ed)
      exact ⟨a, vs, u, rfl, hi, hu, kk _ _ _ _ e1 rg1 ru h1⟩
    · exact h1.elim
  · exact h1.elim
/-! ### e.f, a property -/
/-! ### o.m(..) -/
/-! ### self.f = v -/
def putO (i : Nat) (d : DV) (ds : List (Option DV)) : List (Option DV) := (ds ++ List.replicate (i + 1 - ds.length) none).set i (some d)
theorem SlD.put {K : Fg} {H : Hp} {ds : List (Option DV)} {vs : List (Option V)} {d : DV} {v : V} (h : SlD K H ds vs) (i : Nat) (r : RD K H d v) : SlD K H (putO i d ds) (SlX.putS i v vs) := by
  have hl := h.1
  refine ⟨by unfold putO SlX.putS; simp only [List.length_set, List.length_append, List.length_replicate]; rw [hl], fun j e he => ?_⟩
  by_cases hj : j = i
  · subst hj
    refine ⟨v, SlX.putS_get _ _ _, ?_⟩
    unfold putO at he
    rw [List.getElem?_set_self (by simp only [List.length_append, List.length_replicate]; omega)] at he
    cases he
    exact r
  · unfold putO at he
    rw [List.getElem?_set_ne (Ne.symm hj)] at he
    by_cases hk : j < ds.length
    · rw [List.getElem?_append_left hk] at he
      obtain ⟨u, h1, h2⟩ := h.2 j e he
      exact ⟨u, (SlX.putS_ne hj).mpr h1, h2⟩
    · rw [List.getElem?_append_right (by omega), List.getElem?_replicate] at he
      split at he <;> cases he
/-- each instance has its own dict -/
def OwnsOk (H : Hp) : Prop := ∀ a C dx fs, H a = some (.ins C dx fs) → dx ≠ a ∧ H dx = some (.own a)
theorem owns_of {pins : List (Addr × Obj)} {σ : L2.St} {H : Hp} {s : Shared} (I : Inv X pins σ H s) : OwnsOk H := fun a C dx fs e => by
  obtain ⟨mA, O, _, _, _, h⟩ := L2.ins_get I.hok e
  exact ⟨O.ne, h⟩
def sInsS (K : Fg) (C : Addr) (i : Nat) (ta tv : TE) : TS := fun D σ H => tv σ H fun y H1 => ta σ H1 fun x H2 => OwnsOk H2 → ∃ a dx vs, x = .ref a ∧ SlX.Slt H2 a C dx vs ∧ D.nx σ (SlX.slH H2 a C dx (SlX.putS i y vs))
theorem ps_insS {value : Expr} {to tv : TE} {pos' : Pos} (c : SlX.SCls X.K C) (k : SlX.Slot1 X.K C f p i) (ha : PE X o to) (hv : PE X value tv) (hs : swapsWith value (some (.Attribute o f pos')) pos.line X.env = pure false := by rfl) : PS X (.Assign [.Attribute o f pos'] value pos) (sInsS X.K C i to tv) := by
  refine ⟨fun pins s σ H D I h => ?_⟩
  refine plainObj_wpAny_Assign_Attribute (thn (hv.run pins s σ H _ I h) fun u s1 ⟨y, H1, I1, ry, q⟩ => thn (ha.run pins s1 σ H1 _ I1 q) fun ov s2 ⟨x, H2, I2, rx, w⟩ => ?_) hs
  obtain ⟨a, dx, vs, ex, hsl, q2⟩ := w (owns_of I2)
  subst ex
  obtain rfl : ov = Value.ref a := rx
  exact SlX.setslot_ok I2 hsl c k ry fun s3 I3 => ⟨σ, _, I3, q2⟩
theorem slt_dict {H : Hp} {a C dx : Addr} {vs : List (Option V)} (w : OwnsOk H) (h : SlX.Slt H a C dx vs) : H dx = some (.own a) ∨ H dx = some (.xd []) := by
  rcases h with ⟨h, _⟩ | ⟨_, h⟩
  · exact .inl (w _ _ _ _ h).2
  · exact .inr h
theorem slt_mut {H : Hp} {a C dx : Addr} {vs : List (Option V)} (h : SlX.Slt H a C dx vs) : Mut (H a) := by
  rcases h with ⟨h, _⟩ | ⟨h, _⟩ <;> (rw [h]; exact trivial)
theorem slt_trk {H : Hp} {a C dx : Addr} {vs : List (Option V)} (h : SlX.Slt H a C dx vs) : Trk a (H a) := by
  rcases h with ⟨h, _⟩ | ⟨h, _⟩
  · rw [h]; exact trivial
  · rw [h]; exact slO_trk
theorem slH_kp {H : Hp} {a C dx : Addr} {vs vs' : List (Option V)} (w : OwnsOk H) (h : SlX.Slt H a C dx vs) (ne : dx ≠ a) : Kp H (SlX.slH H a C dx vs') := by
  have m := slt_mut h
  have hd := slt_dict w h
  have na : ∀ b u, H b = some u → ¬ Mut (some u) → b ≠ a := fun b u e n z => by subst z; rw [e] at m; exact n m
  have nd : ∀ b u, H b = some u → (∀ x, u ≠ .own x) → u ≠ .xd [] → b ≠ dx := fun b u e n1 n2 z => by
    subst z
    rcases hd with hd | hd
    · rw [hd] at e; cases e; exact n1 _ rfl
    · rw [hd] at e; cases e; exact n2 rfl
  refine ⟨fun b xs e => ?_, fun b o u e => ?_, fun b fs e => ?_, fun b n e => ?_⟩
  rotate_left 3
  · have hb : b ≠ a := fun z => by
      subst z
      have t := slt_trk h
      rw [e] at t
      exact t n rfl
    rw [SlX.slH_ne hb (nd b _ e (fun _ z => by unfold LamX.CodeO at z; cases z) fun z => by unfold LamX.CodeO at z; cases z)]; exact e
  · rw [SlX.slH_ne (na b _ e fun z => z) (nd b _ e (fun _ z => nomatch z) fun z => nomatch z)]; exact e
  · rw [SlX.slH_ne (na b _ e fun z => z) (nd b _ e (fun _ z => nomatch z) fun z => nomatch z)]; exact e
  · have hb := na b _ e fun z => z
    by_cases hx : b = dx
    · subst hx
      have hfs : fs = [] := by
        rcases hd with hd | hd
        · rw [hd] at e; cases e
        · rw [hd] at e; cases e; rfl
      subst hfs
      unfold SlX.slH
      rw [upd_ne hb, upd_same]
    · rw [SlX.slH_ne hb hx]; exact e
theorem RG.slot {K : Fg} {H : Hp} {g : DG} {a dx : Addr} {vs : List (Option V)} {ds es : List (Option DV)} {vs' : List (Option V)} (w : OwnsOk H) (r : RG K H g) (eg : g a = some (.ins C ds)) (h : SlX.Slt H a C dx vs) (ne : dx ≠ a) (rd : SlD K H es vs') :
    RG K (SlX.slH H a C dx vs') (gup g a (.ins C es)) := fun b o e => by
  have kp := slH_kp (vs' := vs') w h ne
  by_cases hb : b = a
  · subst hb
    rw [gup_same] at e; cases e
    exact ⟨dx, vs', ne, SlX.slH_slt ne, rd.mono kp⟩
  · rw [gup_ne hb] at e
    have ro := r b o e
    have hd := slt_dict w h
    by_cases hx : b = dx
    · subst hx
      obtain ⟨u, e1, m⟩ := ro.some
      rcases hd with hd | hd
      · rw [hd] at e1; cases e1
        cases o with
        | lst ds => obtain ⟨_, z, _⟩ := ro; rw [hd] at z; cases z
        | dK _ _ => obtain ⟨_, z, _⟩ := ro; rw [hd] at z; cases z
        | dT _ _ => obtain ⟨_, z, _⟩ := ro; rw [hd] at z; cases z
        | ins C2 ds2 =>
          obtain ⟨dx2, vs2, _, z | z, _⟩ := ro
          · rw [hd] at z; cases z.1
          · rw [hd] at z; unfold SlX.SlO at z; cases z.1
        | tbl q => obtain ⟨_, z, _⟩ := ro; rw [hd] at z; cases z
      · cases o with
        | lst ds => obtain ⟨_, z, _⟩ := ro; rw [hd] at z; cases z
        | dK _ _ => obtain ⟨_, z, _⟩ := ro; rw [hd] at z; cases z
        | dT _ _ => obtain ⟨_, z, _⟩ := ro; rw [hd] at z; cases z
        | ins C2 ds2 =>
          obtain ⟨dx2, vs2, _, z | z, _⟩ := ro
          · rw [hd] at z; cases z.1
          · rw [hd] at z; unfold SlX.SlO at z; cases z.1
        | tbl q => obtain ⟨_, z, _⟩ := ro; rw [hd] at z; cases z
    · have eb : SlX.slH H a C dx vs' b = H b := SlX.slH_ne hb hx
      cases o with
      | lst ds => obtain ⟨us, q, rr⟩ := ro; exact ⟨us, eb.trans q, rr.mono kp⟩
      | dK ks ds => obtain ⟨us, q, x, rr⟩ := ro; exact ⟨us, eb.trans q, x, rr.mono kp⟩
      | dT ks ds => obtain ⟨us, q, x, rr⟩ := ro; exact ⟨us, eb.trans q, x, rr.mono kp⟩
      | tbl q =>
        obtain ⟨ps, e1, e2, e3⟩ := ro
        refine ⟨ps, eb.trans e1, e2, fun pos cv hc => ?_⟩
        obtain ⟨c, z1, z2⟩ := e3 pos cv hc
        exact ⟨c, z1, kp.e _ _ z2⟩
      | ins C2 ds2 =>
        obtain ⟨dx2, vs2, ne2, z, rr⟩ := ro
        rcases z with z | z
        · have hne : dx2 ≠ dx := fun q => by
            subst q
            have z1 := (w _ _ _ _ z.1).2
            rcases hd with hd | hd
            · rw [hd] at z1; cases z1; exact hb rfl
            · rw [hd] at z1; cases z1
          have hna : dx2 ≠ a := fun q => by
            subst q
            have z1 := (w _ _ _ _ z.1).2
            rcases h with h | h
            · rw [h.1] at z1; cases z1
            · rw [h.1] at z1; unfold SlX.SlO at z1; cases z1
          exact ⟨dx2, vs2, ne2, .inl ⟨eb.trans z.1, z.2⟩, rr.mono kp⟩
        · exact ⟨dx2, vs2, ne2, .inr ⟨eb.trans z.1, kp.x _ _ z.2⟩, rr.mono kp⟩
theorem Ext.slot {H : Hp} {g : DG} {a dx : Addr} {vs vs' : List (Option V)} {u : DO} {o : DO} (w : OwnsOk H) (eg : g a = some u) (h : SlX.Slt H a C dx vs) : Ext g H (gup g a o) (SlX.slH H a C dx vs') := fun b x e n hw => by
  have hb : b ≠ a := fun z => by subst z; rw [eg] at n; cases n
  refine ⟨?_, by rw [gup_ne hb]; exact n⟩
  by_cases hx : b = dx
  · subst hx
    rcases slt_dict w h with hd | hd
    · rw [hd] at e; cases e; exact absurd trivial hw
    · rw [hd] at e; cases e
      unfold SlX.slH
      rw [upd_ne hb, upd_same]
  · rw [SlX.slH_ne hb hx]; exact e
def stoK (C : Addr) (i : Nat) (x y : DV) (g : DG) (R : DG → Prop) : Prop := match x with
  | .ref p => (match g p with | some (.ins C' ds) => C' = C ∧ R (gup g p (.ins C (putO i y ds))) | _ => False)
  | _ => False
def dSto (C : Addr) (i : Nat) (to tv : TDE) : TDS := fun E δ g => tv δ g fun y g1 => to δ g1 fun x g2 => stoK C i x y g2 fun g3 => E.nx δ g3
theorem pds_sto {value : Expr} {to tv : TDE} {pos' : Pos} (c : SlX.SCls X.K C) (k : SlX.Slot1 X.K C f p i) (ha : PE X o (upE X.K to)) (hv : PE X value (upE X.K tv)) (hs : swapsWith value (some (.Attribute o f pos')) pos.line X.env = pure false := by rfl) :
    PS X (.Assign [.Attribute o f pos'] value pos) (upS X.K (dSto C i to tv)) := by
  refine PS_weak (ps_insS c k ha hv hs) fun D σ H ⟨δ, g, E, rs, rg, h, k1, _⟩ => ?_
  refine ⟨δ, g, _, rs, rg, h, fun y g1 u H1 e1 rg1 ry h1 => ⟨δ, g1, _, rs.mono (e1.kp rg), rg1, h1, fun x g2 v H2 e2 rg2 rx h2 w => ?_⟩⟩
  unfold stoK at h2
  split at h2
  · cases rx
    split at h2
    · rename_i C' ds eg
      obtain ⟨rfl, h2⟩ := h2
      obtain ⟨dx, vs, ne, hsl, sd⟩ := rg2 _ _ eg
      have ex := (e1.trans e2).trans (Ext.slot (vs' := SlX.putS i u vs) (o := .ins C' (putO i y ds)) w eg hsl)
      exact ⟨_, dx, vs, rfl, hsl, k1 _ _ _ _ ex (RG.slot w rg2 eg hsl ne (sd.put i (ry.mono (e2.kp rg1)))) (rs.mono (ex.kp rg)) h2⟩
    · exact h2.elim
  · exact h2.elim
/-! ### C(..), locked when its __init__ is through -/
def mkK (C p : Addr) (Q : DV → DG → Prop) (r : DV) (g : DG) : Prop := r = .non ∧ ∃ ds : List DV, g p = some (.ins C (ds.map some)) ∧ ds ≠ [] ∧ Q (.ins C ds) (gdel g p)
def dMk (C : Addr) (sp : SpD) (t : TDA) : TDE := fun δ g Q => t δ g fun ds g1 => ∀ p, g1 p = none → sp (.ref p :: ds) (gup g1 p (.ins C [])) (mkK C p Q)
theorem slD_full {K : Fg} {H : Hp} : ∀ {ds : List DV} {vs : List (Option V)}, SlD K H (ds.map some) vs → ∃ us : List V, vs = us.map some ∧ RDs K H ds us
  | [], vs, h => by
    have z := h.1
    cases vs with
    | nil => exact ⟨[], rfl, .nil⟩
    | cons _ _ => simp at z
  | d :: ds, vs, h => by
    cases vs with
    | nil => have z := h.1; simp at z
    | cons v vs =>
      obtain ⟨u, e, r⟩ := h.2 0 d rfl
      have e' : v = some u := by simpa using e
      subst e'
      obtain ⟨us, e2, r2⟩ := slD_full (ds := ds) (vs := vs) ⟨by have := h.1; simpa using this, fun i d e => by
        obtain ⟨w, a, b⟩ := h.2 (i + 1) d (by simpa using e)
        exact ⟨w, by simpa using a, b⟩⟩
      subst e2
      exact ⟨u :: us, rfl, .cons r r2⟩
theorem rg_mkI {K : Fg} {H : Hp} {g : DG} {x dx : Addr} (r : RG K H g) (hx : H x = none) (hd : H dx = none) (ne : dx ≠ x) : RG K (upd (upd H dx (.own x)) x (.ins C dx [])) (gup g x (.ins C [])) := fun a o e => by
  have k1 : Kp H (upd H dx (.own x)) := Kp.fresh hd
  have hx' : upd H dx (.own x) x = none := by rw [upd_ne (Ne.symm ne)]; exact hx
  have k2 : Kp (upd H dx (.own x)) (upd (upd H dx (.own x)) x (.ins C dx [])) := Kp.fresh hx'
  by_cases ha : a = x
  · subst ha
    rw [gup_same] at e; cases e
    exact ⟨dx, [], ne, .inl ⟨upd_same, rfl⟩, rfl, fun i d e => by simp at e⟩
  · rw [gup_ne ha] at e
    obtain ⟨u, e1, _⟩ := (r a o e).some
    exact (r a o e).keep (k1.trans k2) (by rw [upd_ne ha, upd_ne (ne_of_none e1 hd)])
theorem Ext.mkI {H : Hp} {g : DG} {x dx : Addr} {o : DO} {u w : HO} (hx : H x = none) (hd : H dx = none) : Ext g H (gup g x o) (upd (upd H dx u) x w) := fun a z e n _ => by
  have ha := ne_of_none e hx
  exact ⟨by rw [upd_ne ha, upd_ne (ne_of_none e hd)]; exact e, by rw [gup_ne ha]; exact n⟩
theorem gdel_gup {g : DG} {x : Addr} {o : DO} (h : g x = none) : gdel (gup g x o) x = g := by
  funext b; unfold gdel gup
  by_cases hb : b = x
  · subst hb; rw [if_pos rfl]; exact h.symm
  · rw [if_neg hb, if_neg hb]
theorem pd_mk {x : Str} {p0 : Pos} (M : Mk X.K C q) (F : FnR X.prog X.w X.K X.mg X.base CX0 n q (upSp X.K sp)) (hr : Room (n + 1) X.A) (hm : X.mg x = some (.ref C)) (ha : PA X (e :: es) (upA X.K ta)) (hg : Gl X x := by rfl) (hdb : (x == ("__debug__" : Str)) = false := by decide)
    (he : starEach (e :: es) X.env = (false, eval e X.env) :: starEach es X.env := by rfl) (hpl : (backTo pos (starEach es X.env)).any (·.1) = false := by rfl) : PE X (.Call (.Name x p0) (e :: es) [] pos) (upE X.K (dMk C sp ta)) := by
  refine PE_weak (PE_fz (StX.pe_makeR (E := fun _ _ _ => False) M F hr hg hm pass0 ha hdb he hpl)) fun σ H Q ⟨δ, g, P, rs, rg, h, k⟩ => ⟨δ, g, _, rs, rg, h, fun ds g1 vs H1 e1 rg1 rd1 h1 y dx hx hd ne => ?_⟩
  have gx : g1 y = none := rg1.none hx
  have ex0 : Ext g1 H1 (gup g1 y (.ins C [])) (upd (upd H1 dx (.own y)) y (.ins C dx [])) := Ext.mkI hx hd
  refine ⟨.ref y :: ds, gup g1 y (.ins C []), _, .cons (.ref y) (rd1.mono (ex0.kp rg1)), rg_mkI rg1 hx hd ne, h1 y gx, fun d g' v H' e' rg' rd' p' => ?_⟩
  obtain ⟨rfl, fs, eg, hne, p'⟩ := p'
  cases rd'
  refine ⟨rfl, ?_⟩
  obtain ⟨dx', ws, ne', hsl, sd⟩ := rg' _ _ eg
  obtain ⟨us, rfl, rds⟩ := slD_full sd
  have hyx : H' y = some (SlX.SlO y C dx' (us.map some)) ∧ H' dx' = some (.xd []) := by
    rcases hsl with ⟨_, z⟩ | z
    · cases us with
      | nil => cases rds; exact absurd rfl hne
      | cons _ _ => cases z
    · exact z
  refine .inr ⟨y, _, rfl, hyx.1, trivial, fun od => ?_⟩
  have kp : Kp H' (upd H' y (.frz od (SlX.SlO y C dx' (us.map some)))) := Kp.mut (by rw [hyx.1]; exact slO_trk)
  have ext : Ext g H (gdel g' y) (upd H' y (.frz od (SlX.SlO y C dx' (us.map some)))) := fun a o ea na hw => by
    obtain ⟨z1, z2⟩ := e1 a o ea na hw
    have hay : a ≠ y := ne_of_none z1 hx
    obtain ⟨w1, w2⟩ := ex0 a o z1 z2 hw
    obtain ⟨w3, w4⟩ := e' a o w1 w2 hw
    exact ⟨by rw [upd_ne hay]; exact w3, by unfold gdel; rw [if_neg hay]; exact w4⟩
  have rg2 : RG X.K (upd H' y (.frz od (SlX.SlO y C dx' (us.map some)))) (gdel g' y) := fun a o ea => by
    unfold gdel at ea
    by_cases hay : a = y
    · rw [if_pos hay] at ea; cases ea
    · rw [if_neg hay] at ea
      exact (rg' a o ea).keep kp (upd_ne hay)
  exact k _ _ _ _ ext rg2 (.ins ⟨od, dx', upd_same, kp.x _ _ hyx.2⟩ (rds.mono kp)) p'
end
end DL

/-! Deep layer L: operators, tests and built-ins that ask an instance's own methods. -/
namespace DL
open PySem PySem.Spec PyProof.Rows L2 Builtin
def tyNames : List String := ["NoneType", "bool", "int", "str", "tuple", "list", "dict"]
section
variable {X : Cx} {CX : CXT} {pins : List (Addr × Obj)} {σ : L2.St} {H : Hp} {s : Shared} {C g : Addr} {n : Nat} {sp : Sp} {EX : XK}
/-! ### the same by content -/
variable {sd : SpD} {K : Fg}
/-- no built-in class stands below C -/
def NoSub (K : Fg) (C : Addr) : Prop := (tyNames.all fun a => PySem.W.notFirst K C (.type a)) = true
/-! ### y in x, y not in x -/
/-! ### len(x) -/
/-! ### isinstance(x, T), T a class of the text -/
def rIsiC (K : Fg) (T : Addr) : List V → Hp → VK → Prop := fun xs H Q => rInsIsi K T (.ref T) true xs H Q ∨ rIsiY K xs H Q
theorem cr_isiC (hc : SlX.SCls X.K C) (hi : SlX.SIsi X.K C) (hk : PySem.W.kitOne X.K (.ref C) (.ref C) = some true) : CallR X (.builtin "isinstance") (rIsiC X.K C) := by
  intro pins s σ H xs us Q I r h
  rcases h with h | h
  · exact cr_insIsi hc hi hk pins s σ H xs us Q I r h
  · exact call_isiY pins s σ H xs us Q I r h
def rrIsiC (T : Addr) : RRs := rr2 fun x y g P => y = .ref T ∧ (((slD g T x).isSome = true ∧ P (.bl true)) ∨ ((tyNm g x).isSome = true ∧ P (.bl false)))
/-- no built-in value is of the class -/
def NoIsi (K : Fg) (T : Addr) : Prop := (tyNames.all fun a => PySem.W.kitOne K (.type a) (.ref T) == some false) = true
theorem ref_isiC (hF : NoIsi K C) : RefCall K (rrIsiC C) (rIsiC K C) := by
  intro xs P vs H g Q rg r k h
  obtain ⟨x, y, v, u, rfl, rfl, rx, ry, ey, h2⟩ := rr2_of r h
  clear h r
  subst ey
  cases ry
  cases h2 with
  | inl h =>
    obtain ⟨h1, h⟩ := h
    obtain ⟨ds, es⟩ := Option.isSome_iff_exists.mp h1
    obtain ⟨a, vs, rfl, hi, _⟩ := slD_of rg rx es
    exact .inl ⟨a, vs, .ref C, rfl, rfl, fun w z => z, hi, .inl (k _ _ H Ext.refl rg (.bl _) h)⟩
  | inr h =>
    obtain ⟨h1, h⟩ := h
    obtain ⟨a, ea⟩ := Option.isSome_iff_exists.mp h1
    obtain ⟨m, ty⟩ := tyNm_of rg rx ea
    exact .inr ⟨v, .ref C, _, _, false, rfl, .own C, ty, beq_iff_eq.mp (List.all_eq_true.mp hF a m), .inl (k _ _ H Ext.refl rg (.bl _) h)⟩
end
end DL

/-! Deep layer M: dicts with tuples as keys. -/
namespace DL
open PySem PySem.Spec PyProof.Rows L2
section
variable {X : Cx}
/-- d[y] = z by a comprehension, whatever the keys are -/
theorem dset_put {pinz : List (Addr × Obj)} {σ : L2.St} {G G' : Hp} {t : Shared} {E : Value → Shared → Prop} {D : Addr} {y z : V} {yu zu : Value} {R : Unit → Shared → Prop} (room : X.A.units + 1 < cLine) (J : Inv X pinz σ G t) (p : DPut G D y z G')
    (ry : RelV y yu) (rz : RelV z zu) (h : ∀ t', Inv X pinz σ G' t' → R () t') : wpAny (model X.prog X.w) X.A (dictSet D yu zu) R E t := by
  rcases p with ⟨kvs, k, e, ey, l, eG⟩ | ⟨kvs, k, b, e, ey, eb, l, eG⟩
  · subst ey eG
    exact d_dictSet J e l ry rz h
  · subst ey eG
    cases (show yu = Value.ref b from ry)
    obtain ⟨l1, nd, ks, rel, dd⟩ := dt_of J.hok e
    have l2 : (putK kvs k z).length ≤ sizeLine := Nat.le_trans (length_putK kvs k z) l
    refine wpAny_dictSet_heap (hsz := by rw [← Paired.length rel]; exact l1) (show (tupleKind (mixKind X.prog X.w)).room X.A from (by show X.A.units < cLine; omega)) (key_of J.hok eb) dd fun h' dd' sb => h _ ?_
    obtain ⟨q, es, ep, hq, z1, z2, z3, _, z5⟩ := dd'
    refine d_write J (by rw [e]; exact True.intro) sb ⟨q, hq⟩ ⟨l2, nd, _, (rel.put k eb rz).keeps fun c ys ec => ?_, q, es, ep, hq, z1, z2, z3, z5⟩
    rw [upd_ne (ne_of ec e (fun w => nomatch w))]
    exact ec
/-- {k: v for target in iter if ..}: D the new dict -/
def tDcA (o0 : HO) (wi : TI) (tg : TG) (tt : TT) (tk tv : TE) (vs : List Nat) : TE := fun σ H Q => wi σ H fun J H1 => ∀ D, H1 D = none → ∃ W : Nat → Nat → Hp → Prop, (∃ m, W 0 m (upd H1 D o0)) ∧ ∀ i m G, W i m G →
  (J.stop i G ∧ Q (.ref D) G) ∨ (J.go i G ∧ ∃ Nx : Hp → Prop, (∀ G', Nx G' → ∃ m', m' < m ∧ W (i + 1) m' G') ∧ ∀ x G', J.yld i G x G' → tg x (wipe σ vs) G' fun σ2 G2 => wipe σ2 vs = wipe σ vs ∧ tt σ2 G2 fun b G3 =>
    if b = true then tk σ2 G3 fun y G4 => tv σ2 G4 fun z G5 => ∃ G6, DPut G5 D y z G6 ∧ Nx G6 else Nx G3)
def EmptyD (o0 : HO) : Prop := o0 = .dK [] ∨ o0 = .dT []
theorem empty_ok {P : Program} {w : World} {G : Hp} {o0 : HO} (h : EmptyD o0) (hp : Heap) (hb : sysModules < hp.objs.size) : ObjOk P w G (hp.push { cls := .type "dict", data := .dict #[] }) hp.objs.size o0 := by
  rcases h with h | h <;> subst h
  · exact dk_empty hp hb
  · exact dt_empty hp hb
theorem pe_dcA {kx vx tgx iter : Expr} {ifs : List Expr} {scope : Scope} {own : List (Str × Nat)} {pos : Pos} {wi : TI} {tg : TG} {tt : TT} {tk tv : TE} {o0 : HO} (h0 : EmptyD o0) (room : X.A.units + 1 < cLine) (calm : X.calm = true) (nd : X.N.Nodup) (hi : PI X tgx iter wi) (ok : BlkOk X.N X.env.scope scope own)
    (hg : ∀ (s : Shared) (H : Hp) (C : Addr) (cl : List (Str × Addr)) (fp : List Addr), PG (X.blk s H scope (compEnvC scope cl C X.env) fp) tgx tg) (ht : ∀ (s : Shared) (H : Hp) (C : Addr) (cl : List (Str × Addr)) (fp : List Addr), PTs (X.blk s H scope (compEnvC scope cl C X.env) fp) ifs tt)
    (hk : ∀ (s : Shared) (H : Hp) (C : Addr) (cl : List (Str × Addr)) (fp : List Addr), PE (X.blk s H scope (compEnvC scope cl C X.env) fp) kx tk)
    (he : ∀ (s : Shared) (H : Hp) (C : Addr) (cl : List (Str × Addr)) (fp : List Addr), PE (X.blk s H scope (compEnvC scope cl C X.env) fp) vx tv) (hs : ∀ x, foldedSetIterable iter X.env x = pure x := by intro _; rfl) :
    PE X (.DictComp kx vx [⟨tgx, iter, ifs, 0⟩] scope pos) (tDcA o0 wi tg tt tk tv (own.map (·.2))) := by
  refine ⟨fun pinz s σ H Q J0 h => ?_⟩
  rw [arm_eval_DictComp]
  have free : ∀ y ∈ scope.names, y.2 = .free → ∃ c, X.env.cells.lookup y.1 = some c := fun y hy e => (ok.free y hy e).elim (fun k => J0.ok.has _ (.inl k)) fun k => J0.ok.has _ (.inr k)
  refine wpAny_comprehension_free (use := none) rfl hs (closure_ok free) ok.kind (fun y hy e => by rw [ok.uniq y hy, e]) (thn (hi.run pinz s σ H _ J0 h) fun xv s1 w1 => thn w1 fun itv s2 w2 => ?_)
  obtain ⟨it, fp, walk, J, H2, e, I2, T, at2, free2, q⟩ := w2
  subst e
  refine wpAny_newObj_type (newEnv_comp ?_)
  -- the dict, behind it the block's own names
  obtain ⟨D, hD⟩ : ∃ D, D = s2.heap.objs.size := ⟨_, rfl⟩
  have hD2 : H2 D = none := by rw [hD]; exact I2.hok.fresh (Nat.le_refl _)
  obtain ⟨W, ⟨m0, w0⟩, turn⟩ := q D hD2
  obtain ⟨s3, e3⟩ : ∃ s3 : Shared, s3 = { s2 with heap := s2.heap.push { cls := .type "dict", data := .dict #[] } } := ⟨_, rfl⟩
  have p3 : s3.heap = s2.heap.push { cls := .type "dict", data := .dict #[] } := by rw [e3]
  obtain ⟨H3, eH3⟩ : ∃ H3, H3 = upd H2 D o0 := ⟨_, rfl⟩
  rw [← eH3] at w0
  have I3 : Inv X pinz σ H3 s3 := by
    rw [e3, eH3, hD]
    exact I2.laid (t' := s2.toks) (fun b o e => Heap.get?_push_of_some _ e) (Nat.le_refl _) (empty_ok h0 s2.heap I2.big)
  have old : ∀ b ∈ fp, b < s2.heap.objs.size := fun b hb => let ⟨o, e, _⟩ := T.obj _ _ at2 b hb; Heap.lt_size e
  have free3 : ∀ b ∈ fp, FpOk X pinz H3 b ∧ b < s3.heap.objs.size := fun b hb => by
    have hlt := old b hb
    refine ⟨⟨?_, (free2 b hb).2⟩, by rw [p3, Heap.size_push]; exact Nat.lt_succ_of_lt hlt⟩
    rw [eH3, upd_ne (by rw [hD]; exact Nat.ne_of_lt hlt)]
    exact (free2 b hb).1
  have at3 : walk 0 s3.heap := T.keep _ _ _ at2 fun b _ o e => by rw [p3]; exact Heap.get?_push_of_some _ e
  have I4 := block_start I3 ok nd free3
  obtain ⟨cl, hcl⟩ : ∃ cl, cl = cellsFrom (s3.heap.objs.size + 1) scope.names (cloFrom X.env.cells scope.names []) := ⟨_, rfl⟩
  have pg := hg s3 H3 s3.heap.objs.size cl fp
  have pt := ht s3 H3 s3.heap.objs.size cl fp
  have pk := hk s3 H3 s3.heap.objs.size cl fp
  have pv := he s3 H3 s3.heap.objs.size cl fp
  rw [← hcl] at I4
  obtain ⟨ce, hce⟩ : ∃ ce, ce = compEnvC scope cl s3.heap.objs.size X.env := ⟨_, rfl⟩
  have locals : ce.locals = s3.heap.objs.size := by rw [hce]; rfl
  rw [← hce] at I4 pg pt pk pv
  obtain ⟨s4, e4⟩ : ∃ s4 : Shared, s4 = { s3 with heap := pushCells (s3.heap.push { cls := .type "dict", data := .dict #[] }) scope.names } := ⟨_, rfl⟩
  rw [← e4] at I4
  have at4 : walk 0 s4.heap := T.keep _ _ _ at3 fun b _ o e => by rw [e4]; exact pushCells_keeps _ _ _ _ (Heap.get?_push_of_some _ e)
  have quiet : ∀ {σ' : L2.St} {G : Hp} {t : Shared}, Inv (X.blk s3 H3 scope ce fp) [] σ' G t → (∀ b ∈ fp, G b = none) → ∀ b ∈ fp, FpOk (X.blk s3 H3 scope ce fp) [] G b := fun {σ' G t} I' n b hb =>
    ⟨n b hb, (I'.ok.exf b hb).1, I'.ok.exfs b hb, .inl hb, fun x c e => (I'.ok.exf b hb).2 x c e, fun p hp => absurd (show p ∈ ([] : List (Addr × Obj)) ++ [] from hp) (by simp)⟩
  have loop : codeAny (model X.prog X.w) X.A (.compLoop (.DictComp kx vx [⟨tgx, iter, ifs, 0⟩] scope pos) 0 (.ref it) (.ref D) ce) (compPost (model X.prog X.w) X.A X.xe none (EP X pinz σ Q) (.ref D) s3.heap.objs.size) s4 := by
    refine compLoop_anyD (fun n t => ∃ i G, Inv (X.blk s3 H3 scope ce fp) [] (wipe σ (own.map (·.2))) G t ∧ walk i t.heap ∧ (∀ b ∈ fp, G b = none) ∧ W i n G) ?_ m0 ⟨0, H3, I4, at4, fun b hb => (free3 b hb).1.1, w0⟩
    rintro n t ⟨i, G, I5, at5, n5, w5⟩
    rcases turn i n G w5 with ⟨stop, fin⟩ | ⟨go, Nx, less, step⟩
    · refine thnF (T.done (X.blk s3 H3 scope ce fp) rfl rfl rfl calm i [] t _ G (fun _ _ => False) I5 (quiet I5 n5) at5 stop) fun r t6 ⟨er, I6⟩ => ?_
      subst er
      have I7 : Inv X pinz σ G t6 := I3.call' (ch := fp) I6.os I6.base I6.hok I6.bare fun b hb => ⟨(free3 b hb).1.2.2.2.1, (free3 b hb).1.2.1, (free3 b hb).1.2.2.2.2.1, (free3 b hb).1.2.2.2.2.2⟩
      have noC : G s3.heap.objs.size = none := by rw [← locals]; exact I6.free
      obtain ⟨m, hn, _⟩ := I6.loc
      have hn : t6.heap.Ns ce.locals m := hn
      rw [locals] at hn
      obtain ⟨f0, f1, f2, f3, f4, f5⟩ := I3.fpOk (Nat.le_refl _) noC
      exact ⟨m, hn, fun h'' sb => ⟨.ref D, G, I7.turned (t' := t6.toks) (fun b o hb e => (sb.2 b hb).trans e) f0 f1 f3 f4 f5, rfl, fin⟩⟩
    · refine thnF (T.item (X.blk s3 H3 scope ce fp) rfl rfl rfl calm i [] t _ G (fun _ _ => False) I5 (quiet I5 n5) at5 go) fun r t6 ⟨u, er, w6⟩ => ?_
      subst er
      refine thnF w6 fun _ t7 ⟨x, G7, I7, r7, y7, at7, n7⟩ => ?_
      refine thnF (pg.run _ t7 _ G7 x u _ (I7.pinned (quiet I7 n7) (T.obj _ _ at7)) r7 (step x G7 y7)) fun _ t8 ⟨σ8, G8, I8, wp8, q8⟩ => ?_
      refine thnF (pt.run _ t8 σ8 G8 _ I8 q8) fun b t9 ⟨G9, I9, q9⟩ => ?_
      have done : ∀ {t' : Shared} {G' : Hp}, Inv (X.blk s3 H3 scope ce fp) ([] ++ pinsAt fp t7.heap) σ8 G' t' → Nx G' → ∃ m, m < n ∧ ∃ i G', Inv (X.blk s3 H3 scope ce fp) [] (wipe σ (own.map (·.2))) G' t' ∧ walk i t'.heap ∧ (∀ b ∈ fp, G' b = none) ∧ W i m G' := fun {t' G'} I' nx => by
        obtain ⟨m', hm, w'⟩ := less G' nx
        have held : ∀ b ∈ fp, ∀ o, t7.heap.get? b = some o → t'.heap.get? b = some o ∧ G' b = none := fun b hb o e =>
          let z := I'.pin (b, o) (List.mem_append_right _ (List.mem_append_right _ (mem_pinsAt hb e)))
          ⟨z.1, z.2.1⟩
        refine ⟨m', hm, i + 1, G', (I'.unpinned (pins := [])).weak (by rw [← wp8, wipe_length]) (fun j v e => by rw [← wp8] at e; exact (wipe_some e).1), T.keep _ _ _ at7 fun b hb o e => (held b hb o e).1, fun b hb => ?_, w'⟩
        obtain ⟨o, e, _⟩ := T.obj _ _ at7 b hb
        exact (held b hb o e).2
      cases b with
      | false =>
        simp only [Bool.false_eq_true, if_false] at q9 ⊢
        exact done I9 q9
      | true =>
        simp only [if_true] at q9 ⊢
        refine thnF (pk.run _ t9 σ8 G9 _ I9 q9) fun ku t10 ⟨yk, G10, I10, r10, q10⟩ => ?_
        refine thnF (pv.run _ t10 σ8 G10 _ I10 q10) fun vu t11 ⟨yv, G11, I11, r11, G12, put, nx⟩ => ?_
        exact dset_put (X := X.blk s3 H3 scope ce fp) room I11 put r10 r11 fun t12 I12 => done I12 nx
  have start := codeAny_compStart_dict loop (T.self X.A 0 _ _ _ at4 loop)
  rw [e4, hce, hcl, hD] at start
  subst e3
  exact start
/-! ### the same by content -/
def keysK : List DV → Option (List Key)
  | [] => some []
  | d :: r => match keyK d, keysK r with | some k, some ks => some (k :: ks) | _, _ => none
def keyT : DV → Option (List Key)
  | .tup ds => keysK ds
  | _ => none
theorem keysK_of {K : Fg} {H : Hp} : ∀ {ds : List DV} {vs : List V} {ks : List Key}, RDs K H ds vs → keysK ds = some ks → vs = ks.map kV
  | [], _, ks, .nil, h => by cases h; rfl
  | d :: ds, _, ks, .cons r t, h => by
    unfold keysK at h
    split at h
    · rename_i k ks' e1 e2
      cases h
      rw [keysK_of t e2, keyK_of r e1]; rfl
    · cases h
theorem keyT_of {K : Fg} {H : Hp} {d : DV} {v : V} {k : List Key} (r : RD K H d v) (h : keyT d = some k) : ∃ b, v = .ref b ∧ H b = some (.tup (k.map kV)) := by
  cases r with
  | tup hs hr => exact ⟨_, rfl, by rw [hs, keysK_of hr h]⟩
  | _ => cases h
theorem keysK_ints : ∀ ns : List Int, keysK (ns.map DV.int) = some (ns.map Sum.inl)
  | [] => rfl
  | n :: r => by
    rw [List.map_cons, keysK, keysK_ints r]; rfl
theorem keyT_ints (ns : List Int) : keyT (.tup (ns.map DV.int)) = some (ns.map Sum.inl) := keysK_ints ns
def dDcC (tg : Tg) (own : List Nat) (tt : TDT) (tk tv : TDE) (δ : DS) : List DV → List (List Key) → List DV → DG → (List (List Key) → List DV → DG → Prop) → Prop
  | [], ks, vs, g, R => R ks vs g
  | d :: ds, ks, vs, g, R => match bindT tg d (wipeD δ own) with
    | some δ2 => tt δ2 g fun b g3 => if b = true then tk δ2 g3 fun y g4 => tv δ2 g4 fun z g5 => (match keyT y with | some k => dDcC tg own tt tk tv δ ds (putKs ks k) (putDs ks vs k z) g5 R | none => False) else dDcC tg own tt tk tv δ ds ks vs g3 R
    | none => False
def dDcT (wi : TDI) (tg : Tg) (own : List Nat) (tt : TDT) (tk tv : TDE) : TDE := fun δ g Q => wi δ g fun ds g1 => ds.length ≤ sizeLine ∧ dDcC tg own tt tk tv δ ds [] [] g1 fun ks vs g2 => Q (.dT ks vs) g2
theorem dcT_up {K : Fg} {wi : TDI} {tg : Tg} {own : List Nat} {tt : TDT} {tk tv : TDE} {δ : DS} {g : DG} {σ : L2.St} {H : Hp} {P : List (List Key) → List DV → DG → Prop} {Q : VK} (hix : ∀ i ∈ tg.ix, i ∈ own) (rs : RS K H δ σ) (rg : RG K H g)
    (h : wi δ g fun ds g1 => ds.length ≤ sizeLine ∧ dDcC tg own tt tk tv δ ds [] [] g1 P)
    (k : ∀ D kvs ys g' H', Ext g H g' H' → RG K H' g' → g' D = none → (∀ o, H D = some o → g D = none → ¬ OwnO o → False) → H' D = some (.dT kvs) → RDs K H' ys (kvs.map (·.2)) → P (kvs.map (·.1)) ys g' → Q (.ref D) H') :
    tDcA (.dT []) (upI K wi) (tgG K tg) (upT K tt) (upE K tk) (upE K tv) own σ H Q := by
  refine ⟨δ, g, _, rs, rg, h, fun ds g1 J H1 e1 rg1 dw p D hD => ?_⟩
  obtain ⟨hlen, p⟩ := p
  have fresh : ∀ o, H D = some o → g D = none → ¬ OwnO o → False := fun o q n w => by
    have := (e1 D o q n w).1
    rw [hD] at this; cases this
  let Inn : Nat → Hp → Prop := fun i H' => Kp H1 H' ∧ ∃ (kvs : List (List Key × V)) (ys : List DV) (g' : DG), Ext g H g' H' ∧ RG K H' g' ∧ g' D = none ∧ H' D = some (.dT kvs) ∧ RDs K H' ys (kvs.map (·.2)) ∧ kvs.length ≤ i ∧
    dDcC tg own tt tk tv δ (ds.drop i) (kvs.map (·.1)) ys g' P
  refine ⟨fun i m H' => m = ds.length - i ∧ i ≤ ds.length ∧ Inn i H', ⟨ds.length, rfl, Nat.zero_le _, Kp.fresh hD, [], [], g1, e1.trans (Ext.fresh rg1 hD), rg1.fresh hD, rg1.none hD, upd_same, .nil, Nat.le_refl _, p⟩, ?_⟩
  rintro i m H2 ⟨rfl, hi, kp2, kvs, ys, g2, e2, rg2, gD, hD2, ra, hacc, q⟩
  by_cases hlt : i < ds.length
  · rw [List.drop_eq_getElem_cons hlt] at q
    unfold dDcC at q
    refine .inr ⟨dw.goes i H2 hlt kp2, Inn (i + 1), fun H' z => ⟨ds.length - (i + 1), by omega, rfl, hlt, z⟩, fun x H3 y => ?_⟩
    obtain ⟨st, rd⟩ := dw.yields i H2 x H3 ds[i] (by simp [hlt]) kp2 y
    split at q
    · rename_i δ3 eb
      have rg3 := step_rg st rg2
      have e3 := step_ext st rg2
      have rs3 : RS K H3 (wipeD δ own) (wipe σ own) := ((rs.mono (e2.kp rg)).mono (step_kp st)).wipe own
      refine tg_run rd rs3 eb fun σ3 rsT hw => ⟨by rw [hw own hix]; exact wipe_wipe σ own, ?_⟩
      have hD3 : H3 D = some (.dT kvs) := (e3 D _ hD2 gD fun z => z).1
      refine ⟨δ3, g2, _, rsT, rg3, q, fun b g4 H4 e4 rg4 z => ?_⟩
      have hD4 := e4 D _ hD3 gD fun z => z
      cases b with
      | false =>
        dsimp only
        rw [if_neg Bool.false_ne_true] at z ⊢
        exact ⟨(kp2.trans (step_kp st)).trans (e4.kp rg3), kvs, ys, g4, (e2.trans e3).trans e4, rg4, hD4.2, hD4.1, (ra.mono (step_kp st)).mono (e4.kp rg3), by omega, z⟩
      | true =>
        dsimp only
        rw [if_pos rfl] at z ⊢
        refine ⟨δ3, g4, _, rsT.mono (e4.kp rg3), rg4, z, fun yk g5 v H5 e5 rg5 rd5 w => ?_⟩
        have hD5 := e5 D _ hD4.1 hD4.2 fun z => z
        refine ⟨δ3, g5, _, (rsT.mono (e4.kp rg3)).mono (e5.kp rg4), rg5, w, fun yv g6 u H6 e6 rg6 rd6 w2 => ?_⟩
        have hD6 := e6 D _ hD5.1 hD5.2 fun z => z
        split at w2
        · rename_i kk ek
          obtain ⟨b, rfl, hb⟩ := keyT_of (rd5.mono (e6.kp rg5)) ek
          have ra6 := (((ra.mono (step_kp st)).mono (e4.kp rg3)).mono (e5.kp rg4)).mono (e6.kp rg5)
          obtain ⟨z1, z2⟩ := putK_rd (k := kk) rd6 ra6
          have km : Kp H6 (upd H6 D (.dT (putK kvs kk u))) := Kp.mut (by rw [hD6.1]; exact True.intro)
          refine ⟨_, DPut.t hD6.1 hb (by omega), ((((kp2.trans (step_kp st)).trans (e4.kp rg3)).trans (e5.kp rg4)).trans (e6.kp rg5)).trans km, putK kvs kk u, putDs (kvs.map (·.1)) ys kk yv, g6, fun a o ha hn hw => ?_, fun a o ha => ?_, hD6.2, upd_same, z2.mono km, ?_, by rw [z1]; exact w2⟩
          · obtain ⟨z1, z2⟩ := ((e2.trans e3).trans ((e4.trans e5).trans e6)) a o ha hn hw
            exact ⟨by rw [upd_ne (fun q => by subst q; exact fresh o ha hn hw)]; exact z1, z2⟩
          · have na : a ≠ D := fun q => by subst q; rw [hD6.2] at ha; cases ha
            exact (rg6 a o ha).keep km (upd_ne na)
          · have := length_putK kvs kk u; omega
        · exact w2.elim
    · exact q.elim
  · have ei : i = ds.length := by omega
    subst ei
    rw [List.drop_length] at q
    exact .inl ⟨dw.stops H2 kp2, k D kvs ys g2 H2 e2 rg2 gD fresh hD2 ra q⟩
variable {kx vx iter tgx : Expr} {ifs : List Expr} {scope : Scope} {own : List (Str × Nat)} {wi : TDI} {tg : Tg} {tt : TDT} {tk tv : TDE} {pos : Pos}
theorem pd_dcT (room : X.A.units + 64 < cLine) (hc : X.calm = true) (hN : X.N.Nodup) (hi : PI X tgx iter (upI X.K wi)) (ok : BlkOk X.N X.env.scope scope own)
    (hg : ∀ (s : Shared) (H : Hp) (C : Addr) (cl : List (Str × Addr)) (fp : List Addr), PG (X.blk s H scope (compEnvC scope cl C X.env) fp) tgx (tgG X.K tg)) (ht : ∀ (s : Shared) (H : Hp) (C : Addr) (cl : List (Str × Addr)) (fp : List Addr), PTs (X.blk s H scope (compEnvC scope cl C X.env) fp) ifs (upT X.K tt))
    (hk : ∀ (s : Shared) (H : Hp) (C : Addr) (cl : List (Str × Addr)) (fp : List Addr), PE (X.blk s H scope (compEnvC scope cl C X.env) fp) kx (upE X.K tk)) (he : ∀ (s : Shared) (H : Hp) (C : Addr) (cl : List (Str × Addr)) (fp : List Addr), PE (X.blk s H scope (compEnvC scope cl C X.env) fp) vx (upE X.K tv))
    (hix : ∀ i ∈ tg.ix, i ∈ own.map (·.2) := by decide) (hs : ∀ x, foldedSetIterable iter X.env x = pure x := by intro _; rfl) :
    PE X (.DictComp kx vx [⟨tgx, iter, ifs, 0⟩] scope pos) (upE X.K (dDcT wi tg (own.map (·.2)) tt tk tv)) :=
  PE_weak (PE_fz (pe_dcA (.inr rfl) (by omega) hc hN hi ok hg ht hk he hs)) fun σ H Q ⟨δ, g, P, rs, rg, h, k⟩ => dcT_up (P := fun ks vs g2 => P (.dT ks vs) g2) hix rs rg h fun D kvs ys g' H' e rg' gD fresh hD rd p =>
    have km : ∀ o, Kp H' (upd H' D o) := fun o => Kp.mut (by rw [hD]; exact True.intro)
    .inr ⟨D, .dT kvs, rfl, hD, trivial, fun o => k _ g' _ _ (lock_ext e fresh) (fun a u ha => (rg' a u ha).keep (km _) (upd_ne (fun q => by subst q; rw [gD] at ha; cases ha))) (.dT ⟨o, kvs, upd_same, rfl, rfl⟩ (rd.mono (km _))) p⟩
end
end DL

/-! Deep layer N: sorted(.., key=..) of tuples of ints, out of a list or a dict. -/
namespace DL
open PySem PySem.Spec PyProof.Rows L2
/-- what a key function says of a tuple of ints, wherever it is called -/
def KeyT (id : String) (kf : List Int → Int) : Prop := ∀ (prog : Program) (w : World) (A : Around) (s : Shared) (t : Addr) (its : List Value) (ns : List Int), A.handled = none → IsTup s.heap t its.toArray → IntsAre its ns → its.length ≤ sizeLine →
  wpAny (model prog w) A (call (.builtin id) [.ref t]) (PySem.W.KeyPure (.int (kf ns)) s) (fun _ _ => False) s
theorem keyT_sum : KeyT "sum" List.sum := by
  intro prog w A s t its ns hh ht hi hz
  obtain ⟨o, h1, h2, n, h3⟩ := ht
  have hl : s.heap.IsTuple t its.toArray := ⟨o, h1, h2, n, h3⟩
  obtain ⟨xs, hx⟩ := hi.allInts.items
  have hn : numsOf its.toArray.toList = ns := by rw [show its.toArray.toList = its from rfl, hi.numsOf]
  rw [hx] at hl hn
  rw [nums_intItems] at hn
  refine PySem.W.ktm_sumG hh hl fun h' tk t' hk => ⟨h', tk, rfl, hk, ?_⟩
  rw [preSum_eq, List.take_of_length_le (by simp), hn]
  exact .int _ _
/-- tuples of ints at addresses -/
def Tups (H : Hp) (L : List (List Int)) (bs : List Addr) : Prop := Paired (fun ns b => H b = some (.tup (ns.map V.int))) L bs
theorem Tups.length {H : Hp} {L : List (List Int)} {bs : List Addr} (h : Tups H L bs) : L.length = bs.length := Paired.length h
theorem tups_refs : ∀ bs : List Addr, Vals (bs.map V.ref) (bs.map Value.ref)
  | [] => .nil
  | _ :: r => .cons rfl (tups_refs r)
theorem tups_vals : ∀ {bs : List Addr} {us : List Value}, Vals (bs.map V.ref) us → us = bs.map Value.ref
  | [], _, h => by cases h; rfl
  | b :: r, _, h => by
    cases h with
    | cons h1 h2 => rw [tups_vals h2, show _ = Value.ref b from h1]; rfl
theorem tups_zip {H : Hp} : ∀ {L : List (List Int)} {bs : List Addr}, Tups H L bs → ∃ ps : List (List Int × Addr), ps.map Prod.fst = L ∧ ps.map Prod.snd = bs ∧ ∀ p ∈ ps, H p.2 = some (.tup (p.1.map V.int))
  | _, _, .nil => ⟨[], rfl, rfl, fun _ h => nomatch h⟩
  | _, _, .cons (a := a) (b := b) h t => by
    obtain ⟨ps, e1, e2, hp⟩ := tups_zip t
    refine ⟨(a, b) :: ps, by rw [List.map_cons, e1], by rw [List.map_cons, e2], fun p hm => ?_⟩
    rcases List.mem_cons.mp hm with e | hm
    · subst e; exact h
    · exact hp p hm
theorem tups_of {H : Hp} : ∀ {ps : List (List Int × Addr)}, (∀ p ∈ ps, H p.2 = some (.tup (p.1.map V.int))) → Tups H (ps.map Prod.fst) (ps.map Prod.snd)
  | [], _ => .nil
  | p :: ps, h => .cons (h p List.mem_cons_self) (tups_of fun q hq => h q (List.mem_cons_of_mem _ hq))
def leK (kf : List Int → Int) : List Int → List Int → Bool := fun a b => decide (kf a ≤ kf b)
/-- what is sorted: a list or a dict's keys -/
def SrcT (K : Fg) (H : Hp) (a : Addr) (L : List (List Int)) : Prop := (∃ bs, SqL K H a (bs.map V.ref) ∧ Tups H L bs) ∨ ∃ kvs, Rd H a (.dT kvs) ∧ kvs.map (·.1) = L.map (·.map Sum.inl)
section
variable {X : Cx} {pinz : List (Addr × Obj)} {σ : L2.St} {H : Hp} {s : Shared} {a : Addr} {L : List (List Int)}
theorem keys_tups : ∀ {kvs : List (List Key × V)} {xs : List (List Key × Addr × Value)} {L : List (List Int)}, KT H kvs xs → kvs.map (·.1) = L.map (·.map Sum.inl) → Tups H L (xs.map fun x => x.2.1)
  | _, _, [], .nil, _ => .nil
  | _, _, n :: L, .cons h t, e => by
    rw [List.map_cons, List.map_cons] at e
    obtain ⟨e1, e2⟩ := List.cons.inj e
    refine .cons ?_ (keys_tups t e2)
    have q := h.2.1
    rw [e1, List.map_map] at q
    exact q
/-- its items, collected -/
theorem collect_src {A : Around} {E : Value → Shared → Prop} {R : List Value → Shared → Prop} (calm : A.handled = none) (I : Inv X pinz σ H s) (h : SrcT X.K H a L) (hz : L.length ≤ sizeLine)
    (k : ∀ (h' : Heap) (tk : Nat) (bs : List Addr), (∀ b o, s.heap.get? b = some o → h'.get? b = some o) → Tups H L bs → R (bs.map Value.ref) { s with heap := h', toks := tk }) : wpAny (model X.prog X.w) A (collect (.ref a)) R E s := by
  rcases h with ⟨bs, hs, ht⟩ | ⟨kvs, hd, ek⟩
  · obtain ⟨its, rv, pl, hl⟩ := I.list hs
    have ev := tups_vals rv
    subst ev
    refine collect_list pl.isList (k _ s.toks bs (fun b o e => ?_) ht) (by rw [List.length_map, ← ht.length]; exact hz)
    rw [Heap.get?_update_ne _ _ _ _ (Nat.ne_of_lt (Heap.lt_size e))]
    exact Heap.get?_push_of_some _ e
  · obtain ⟨z, lo, xs, pr, o, es, ep, ho, hx, hdt, he, hn⟩ := (show ObjOk X.prog X.w H s.heap a (.dT kvs) from rd_of I.hok hd)
    have l1 : es.size = xs.length := size_of_entries he
    have l2 : kvs.length = xs.length := Paired.length pr
    refine PySem.W.kdu_collect (kdl_raw lo hx hdt) calm ho (by omega) fun h' tk acc kp it => ?_
    have ea : acc.toList = (xs.map fun x => x.2.1).map Value.ref := by
      refine List.ext_getElem? fun j => ?_
      rw [List.map_map, List.getElem?_map]
      cases hj : acc.toList[j]? with
      | none =>
        have h1 := List.getElem?_eq_none_iff.mp hj
        have h2 : acc.toList.length = xs.length := by rw [Array.length_toList, it.1]; exact l1
        rw [List.getElem?_eq_none (by omega)]; rfl
      | some v =>
        obtain ⟨en, hen, hv⟩ := it.2 j v (by rw [← Array.getElem?_toList]; exact hj)
        have q := entry_at he j
        rw [hen] at q
        cases hb : xs[j]? with
        | none => rw [hb] at q; exact nomatch (show some en = none from q)
        | some b =>
          rw [hb] at q
          have e2 : en = entryOfKey (tupleKind (mixKind X.prog X.w)) b := Option.some.inj q
          rw [hv, e2]; rfl
    rw [ea]
    exact k h' tk _ kp (keys_tups pr ek)
/-- sorted(x, key=f) -/
def tSortK (K : Fg) (kf : List Int → Int) (te : TE) : TE := fun σ H Q => te σ H fun x H1 => ∃ a L, x = .ref a ∧ L.length ≤ sizeLine ∧ SrcT K H1 a L ∧ ∀ bs p, Tups H1 (L.mergeSort (leK kf)) bs → H1 p = none → Q (.ref p) (upd H1 p (.lst (bs.map V.ref)))
theorem each_refs {H : Hp} {ps : List (List Int × Addr)} : PySem.W.EachIs (fun (v : Value) (p : List Int × Addr) => v = Value.ref p.2) ((ps.map Prod.snd).map Value.ref) ps := by
  induction ps with
  | nil => exact .nil
  | cons p ps ih => exact .cons rfl ih
theorem each_back {out : List Value} {ps : List (List Int × Addr)} (h : PySem.W.EachIs (fun (v : Value) (p : List Int × Addr) => v = Value.ref p.2) out ps) : out = (ps.map Prod.snd).map Value.ref := by
  induction h with
  | nil => rfl
  | cons e _ ih => rw [e, ih]; rfl
theorem sort_src {id : String} {kf : List Int → Int} {Q : VK} (hk : KeyT id kf) (hr : X.A.units + 64 < cLine) (calm : X.A.handled = none) (I : Inv X pinz σ H s) (h : SrcT X.K H a L) (hz : L.length ≤ sizeLine)
    (ha1 : argsOk "sorted" ⟨[.ref a], [(Str.ofString "key", .builtin id)]⟩) (ha2 : ∀ x, argsOk "list.sort" ⟨[.ref x], [(Str.ofString "key", .builtin id)]⟩)
    (q : ∀ bs p, Tups H (L.mergeSort (leK kf)) bs → H p = none → Q (.ref p) (upd H p (.lst (bs.map V.ref)))) : wpAny (model X.prog X.w) X.A (call (.builtin "sorted") [.ref a] [(Str.ofString "key", .builtin id)]) (EP X pinz σ Q) X.xe s := by
  refine call_function_entry_kw kind_sorted plain_sorted entry_sorted ha1 ?_
  unfold Builtin.«sorted»
  refine wpAny_bind (m := checkCount "sorted" 1 1 _) (wpAny_pure ?_)
  refine wpAny_bind (collect_src (A := X.A.in1) calm I h hz fun h' tk bs kp ht => ?_)
  obtain ⟨ps, e1, e2, hp⟩ := tups_zip ht
  have lb : bs.length ≤ sizeLine := by rw [← ht.length]; exact hz
  refine wpAny_bind (wpAny_newList ?_ (by rw [List.length_map]; exact lb))
  obtain ⟨l, hl⟩ : ∃ l, l = h'.objs.size := ⟨_, rfl⟩
  have at0 : (h'.push (seqObj "list" (bs.map Value.ref).toArray 0)).get? l = some (seqObj "list" (bs.map Value.ref).toArray 0) := by rw [hl]; exact Heap.get?_push_size _ rfl
  have old : ∀ b o, s.heap.get? b = some o → b ≠ l ∧ (h'.push (seqObj "list" (bs.map Value.ref).toArray 0)).get? b = some o := fun b o e =>
    ⟨by rw [hl]; exact Nat.ne_of_lt (Heap.lt_size (kp b o e)), Heap.get?_push_of_some _ (kp b o e)⟩
  show wpAny _ _ (holding [Value.ref h'.objs.size] (call (.builtin "list.sort") [Value.ref h'.objs.size] _) >>= _) _ _ { s with heap := h'.push (seqObj "list" (bs.map Value.ref).toArray 0), toks := tk }
  rw [← hl]
  have ew := each_refs (H := H) (ps := ps)
  rw [e2] at ew
  have lp : ps.length = bs.length := by rw [← e2, List.length_map]
  refine wpAny_bind (wpAny_holding (PySem.W.list_sort_key_data (b := false) (s := { s with heap := h'.push (seqObj "list" (bs.map Value.ref).toArray 0), toks := tk }) (fun p : List Int × Addr => .int (kf p.1)) at0 ew
    (PySem.W.AllAlike.of fun _ _ => by simp [PySem.W.alike]) (PySem.W.Sortable.others fun _ => ⟨(fun z => nomatch z), (fun _ z => nomatch z)⟩) (by rw [lp]; exact lb) (fun p _ => ?_) (ha2 _) (ksk_t4 _ _) (fun v p ev hm h2 tk2 k2 => ?_) fun out c h2 tk2 k2 hD hlen eo => ?_))
  · show X.A.in1.units + 1 + 0 < cLine
    show X.A.units + 1 + 1 + 0 < cLine
    omega
  · subst ev
    obtain ⟨z, its, rv, o, g1, g2, n, g3⟩ := (show ObjOk X.prog X.w H s.heap p.2 (.tup (p.1.map V.int)) from I.hok _ _ (hp p hm))
    have g0 := old _ _ g1
    exact hk _ _ _ _ p.2 its p.1 calm ⟨o, k2 _ _ g0.1 g0.2, g2, n, g3⟩ (intsAre_of rv) (by have := rv.length; omega)
  · rw [PySem.W.dataLe_int] at eo
    have ew2 := each_back eo
    refine wpAny_pure ⟨_, rfl, ?_⟩
    have perm := List.mergeSort_perm ps fun a b => decide (kf a.1 ≤ kf b.1)
    have em : (ps.mergeSort fun a b => decide (kf a.1 ≤ kf b.1)).map Prod.fst = L.mergeSort (leK kf) := by
      rw [← e1]
      exact List.map_mergeSort (r := fun a b => decide (kf a.1 ≤ kf b.1)) (s := leK kf) (f := Prod.fst) (l := ps) fun a _ b _ => rfl
    have ht2 : Tups H (L.mergeSort (leK kf)) ((ps.mergeSort fun a b => decide (kf a.1 ≤ kf b.1)).map Prod.snd) := by
      rw [← em]
      exact tups_of fun p hm => hp p (perm.mem_iff.mp hm)
    have J1 : Inv X pinz σ H { s with heap := h', toks := tk } := I.kept kp
    refine ⟨.ref l, upd H l (.lst (((ps.mergeSort fun a b => decide (kf a.1 ≤ kf b.1)).map Prod.snd).map V.ref)), J1.laid (t' := tk2) (fun b o e => ?_) (Nat.le_of_eq hl.symm) ⟨by rw [List.length_map, List.length_map, List.length_mergeSort, lp]; exact lb, out, c, by rw [ew2]; exact tups_refs _, hD⟩, rfl, q _ _ ht2 (J1.hok.fresh (Nat.le_of_eq hl.symm))⟩
    exact k2 b o (by rw [hl]; exact Nat.ne_of_lt (Heap.lt_size e)) (Heap.get?_push_of_some _ e)
theorem pe_sortK {k : Str} {id : String} {kf : List Int → Int} {e : Expr} {te : TE} {p kp kpos pos : Pos} (hk : KeyT id kf) (hm : X.mg "sorted" = none) (hmk : X.mg k = none) (hvk : bootBuiltins k = some (.builtin id)) (hr : X.A.units + 64 < cLine) (calm : X.calm = true) (he : PE X e te)
    (hg : Gl X "sorted" := by rfl) (hgk : Gl X k := by rfl) (hn : k ≠ "__name__" := by decide) (hd : (k == ("__debug__" : Str)) = false := by decide)
    (hs : starEach [e] X.env = (false, eval e X.env) :: starEach [] X.env := by rfl) (hb : backTo pos (starEach [e] X.env) = (false, eval e X.env) :: backTo pos (starEach [] X.env) := by rfl) (hpl : (backTo pos (starEach [e] X.env)).any (·.1) = false := by rfl)
    (hall : (backToKw pos (keywordEach [⟨some "key", .Name k kp, kpos⟩] X.env)).all (·.1.isSome) = true := by rfl) (hnone : (backToKw pos (keywordEach [⟨some "key", .Name k kp, kpos⟩] X.env)).any (·.1.isNone) = false := by rfl)
    (hks : (backToKw pos (keywordEach [⟨some "key", .Name k kp, kpos⟩] X.env)).filterMap (·.1) = [Str.ofString "key"] := by rfl) : PE X (.Call (.Name "sorted" p) [e] [⟨some "key", .Name k kp, kpos⟩] pos) (tSortK X.K kf te) := by
  refine ⟨fun pins s σ H Q I h => ?_⟩
  refine wpAny_Call_Name_kw (ld_blt I hg hm (show bootBuiltins "sorted" = some (.builtin "sorted") by decide +kernel) ?_)
  let R : V → Hp → Prop := fun x H1 => ∃ a L, x = .ref a ∧ L.length ≤ sizeLine ∧ SrcT X.K H1 a L ∧ ∀ bs p, Tups H1 (L.mergeSort (leK kf)) bs → H1 p = none → Q (.ref p) (upd H1 p (.lst (bs.map V.ref)))
  have h' : tCons te tNil σ H (fun vs H1 => match vs with | [x] => R x H1 | _ => False) := h
  refine PyProof.Rows.callWith_kw (thn ((pa_cons he pa_nil hs).run pos pins s σ H _ I h') fun us s1 ⟨vs, H1, I1, r1, w⟩ => ?_) hb hpl hall hnone
  · match vs, w with
    | [x], w =>
    obtain ⟨a, L, ex, hz, src, q⟩ := w
    subst ex
    obtain rfl := Vals.ref1 r1
    show wpAny _ _ (evalAll ((do let v ← eval (.Name k kp) X.env; standAt pos; pure v) :: [])) _ _ s1
    refine wpAny_evalAll_cons (wpAny_bind (ld_blt I1 hgk hmk hvk (wpAny_bind (wpAny_standAt (wpAny_pure (wpAny_evalAll_nil ?_)))) hn hd))
    rw [hks]
    exact sort_src hk hr (I1.ok.hd calm) I1 src hz (ksk_s1 _ _) (fun _ => ksk_l1 _ _) q
/-! ### the same by content -/
def tuI (ns : List Int) : DV := .tup (ns.map DV.int)
theorem rds_tuI {K : Fg} {H : Hp} : ∀ {L : List (List Int)} {vs : List V}, RDs K H (L.map tuI) vs → ∃ bs, vs = bs.map V.ref ∧ Tups H L bs
  | [], _, h => by cases h; exact ⟨[], rfl, .nil⟩
  | n :: L, _, h => by
    cases h with
    | cons h1 h2 =>
      obtain ⟨bs, e, ht⟩ := rds_tuI h2
      cases h1 with
      | @tup b xs _ hs hr =>
        refine ⟨b :: bs, by rw [e]; rfl, .cons ?_ ht⟩
        rw [hs, hr.ints]
theorem tuI_rds {K : Fg} {H : Hp} : ∀ {L : List (List Int)} {bs : List Addr}, Tups H L bs → RDs K H (L.map tuI) (bs.map V.ref)
  | _, _, .nil => .nil
  | _, _, .cons h t => .cons (.tup h (RDs.ofInts _)) (tuI_rds t)
/-- tuples of ints in a list, or as the keys of a dict -/
def ItT (g : DG) (x : DV) (L : List (List Int)) : Prop := lstD g x = some (L.map tuI) ∨ (∃ vs, x = .dT (L.map (·.map Sum.inl)) vs) ∨ ∃ p vs, x = .ref p ∧ g p = some (.dT (L.map (·.map Sum.inl)) vs)
theorem itT_src {K : Fg} {H : Hp} {g : DG} {x : DV} {v : V} {L : List (List Int)} (rg : RG K H g) (r : RD K H x v) (h : ItT g x L) : ∃ a, v = .ref a ∧ SrcT K H a L := by
  rcases h with h | ⟨vs, rfl⟩ | ⟨p, vs, rfl, e⟩
  · obtain ⟨a, vs, rfl, hq, hr, _⟩ := lstD_of rg r h
    obtain ⟨bs, rfl, ht⟩ := rds_tuI hr
    exact ⟨a, rfl, .inl ⟨bs, hq, ht⟩⟩
  · cases r with
    | dT hs hr =>
      obtain ⟨o, kvs, e, e1, e2⟩ := hs
      exact ⟨_, rfl, .inr ⟨kvs, .inr ⟨o, e⟩, e1⟩⟩
  · cases r
    obtain ⟨kvs, q, e1, _⟩ := rg _ _ e
    exact ⟨_, rfl, .inr ⟨kvs, .inl q, e1⟩⟩
def skK (kf : List Int → Int) (Q : DV → DG → Prop) (x : DV) (g : DG) : Prop := ∃ L, ItT g x L ∧ L.length ≤ sizeLine ∧ Q (.lst ((L.mergeSort (leK kf)).map tuI)) g
def dSK (kf : List Int → Int) (te : TDE) : TDE := fun δ g Q => te δ g fun x g1 => skK kf Q x g1
theorem pd_sortK {k : Str} {id : String} {kf : List Int → Int} {e : Expr} {te : TDE} {p kp kpos pos : Pos} (hk : KeyT id kf) (hm : X.mg "sorted" = none) (hmk : X.mg k = none) (hvk : bootBuiltins k = some (.builtin id)) (hr : X.A.units + 64 < cLine) (calm : X.calm = true) (he : PE X e (upE X.K te))
    (hg : Gl X "sorted" := by rfl) (hgk : Gl X k := by rfl) (hn : k ≠ "__name__" := by decide) (hd : (k == ("__debug__" : Str)) = false := by decide)
    (hs : starEach [e] X.env = (false, eval e X.env) :: starEach [] X.env := by rfl) (hb : backTo pos (starEach [e] X.env) = (false, eval e X.env) :: backTo pos (starEach [] X.env) := by rfl) (hpl : (backTo pos (starEach [e] X.env)).any (·.1) = false := by rfl)
    (hall : (backToKw pos (keywordEach [⟨some "key", .Name k kp, kpos⟩] X.env)).all (·.1.isSome) = true := by rfl) (hnone : (backToKw pos (keywordEach [⟨some "key", .Name k kp, kpos⟩] X.env)).any (·.1.isNone) = false := by rfl)
    (hks : (backToKw pos (keywordEach [⟨some "key", .Name k kp, kpos⟩] X.env)).filterMap (·.1) = [Str.ofString "key"] := by rfl) : PE X (.Call (.Name "sorted" p) [e] [⟨some "key", .Name k kp, kpos⟩] pos) (upE X.K (dSK kf te)) := by
  refine PE_weak (PE_fz (pe_sortK hk hm hmk hvk hr calm he hg hgk hn hd hs hb hpl hall hnone hks)) fun σ H Q ⟨δ, g, P, rs, rg, h, kk⟩ => ⟨δ, g, _, rs, rg, h, fun x g1 v H1 e1 rg1 rd1 ⟨L, hi, hz, h1⟩ => ?_⟩
  obtain ⟨a, rfl, hsrc⟩ := itT_src rg1 rd1 hi
  exact ⟨a, L, rfl, hz, hsrc, fun bs q ht hq => fz_new (P := P) rg1 hq (tuI_rds ht) (fun d g' w H' e2 rg' rd' p' => kk d g' w H' (e1.trans e2) rg' rd' p') h1⟩
end
end DL

/-! Deep layer O: sorted(set(xs)), xs a list or a tuple of tuples of ints. -/
namespace L2
open PyProof.Rows PySem.Spec PySem
section
variable {P : Program} {u : World} {A : Around} {E : Value → Shared → Prop} {s : Shared}
set_option maxHeartbeats 8000000 in
theorem set_tup_t {q : Addr} {xs : Array Value} (zs : List (Addr × List Int)) {R : Value → Shared → Prop} (nh : A.handled = none) (ql : s.heap.IsTuple q xs) (qi : xs.toList = zs.map fun p => Value.ref p.1) (qk : ∀ p ∈ zs, IsT P u s.heap p.2 p.1) (few : zs.length < 64) (room : A.units + 3 < cLine)
    (fin : ∀ (h2 : Heap) (tk : Nat) (L : List (Addr × List Int)) (es : Array (Int × Value)) (ep : Nat) (t : SetTable), SetTR P u h2 s.heap.objs.size L es ep t → Got zs zs.length L → (∀ b o, s.heap.get? b = some o → h2.get? b = some o) → R (.ref s.heap.objs.size) { s with heap := h2, toks := tk }) :
    wpAny (model P u) A (call (.type "set") [.ref q]) R E s := by
  have xl : xs.size = zs.length := by
    have z := congrArg List.length qi
    rwa [Array.length_toList, List.length_map] at z
  obtain ⟨mc, mt, mro⟩ := F.called_set.mro
  have k1 := F.called_set.made
  have k2 := F.called_set.sub
  have k3 := F.called_set.notType
  have k4 := F.called_set.canCreate
  have k5 := F.typeCall_set_1 (.ref q)
  refine wpAny_call (codeAny_of_tree ?_)
  show wpAny (model P u) _ (callAny (.type "set") _) _ _ _
  refine wpAny_pure ⟨Code.quiet_builtin _ (by decide +kernel), codeAny_builtin F.entry_type_call ?_⟩
  rw [Around.under_plain (weight_type_call_type "set" [.ref q] []) rfl]
  repeat any_goals first | assumption | wp_step
  refine codeAny_mono (code_set_led1 (.ref q) (E := E) (Q₁ := fun z t => z = .ref s.heap.objs.size ∧ t = { s with heap := s.heap.push (sNew u) }) ⟨rfl, rfl⟩) fun res t0 hres => ?_
  cases res with
  | error _ => exact hres
  | ok fl =>
    cases fl with
    | ret obj =>
      obtain ⟨rfl, rfl⟩ := hres
      have at0 : (s.heap.push (sNew u)).get? s.heap.objs.size = some (sNew u) := Heap.get?_push_size _ rfl
      have ty0 : Shared.TypeIs { s with heap := s.heap.push (sNew u) } (.ref s.heap.objs.size) "set" := ⟨_, at0, rfl⟩
      have k6 := F.called_set.init.lookup
      have k7 := F.called_set.init.bind (.ref s.heap.objs.size)
      repeat any_goals first | assumption | wp_step
      refine codeAny_mono (codeAny_call_builtin (R := wants (fun r t => r = .none ∧ ∃ h2 tk L es ep tb, t = { s with heap := h2, toks := tk } ∧ SetTR P u h2 s.heap.objs.size L es ep tb ∧ Got zs zs.length L ∧
          ∀ b o, s.heap.get? b = some o → h2.get? b = some o) E) F.called_set.init.plain F.entry_set_init (check_set_init_1 ty0 ?_)) fun res2 t2 hres2 => ?_
      · obtain ⟨⟨oc, od, odt, osl⟩, oq, c1, nq, c2⟩ := ql
        simp only at c1 c2
        subst c1 c2
        have oq1 : (s.heap.push (sNew u)).get? q = some { cls := .type "tuple", dict := od, data := .seq xs nq, slots := osl } := Heap.get?_push_of_some _ oq
        have k8 := F.sub_tuple_set
        have k9 := F.sub_tuple_frozenset
        have k10 : (Value.type "tuple" == Value.type "dict") = false := rfl
        have ql1 : (s.heap.push (sNew u)).IsTuple q xs := ⟨_, oq1, rfl, nq, rfl⟩
        unfold Builtin.«set.__init__» noKeywords Builtin.Frozenset.updateFrom
        generalize hPI : pyIter = PI
        wp_walk
        subst hPI
        refine wpAny_pyIter_tuple ql1 (wpAny_bind (wpAny_runValue ?_))
        have lt0 : q < s.heap.objs.size := Heap.lt_size oq
        have nh3 : A.in1.in1.in1.handled = none := by simp [nh]
        have sz1 : (s.heap.push (sNew u)).objs.size = s.heap.objs.size + 1 := Heap.size_push ..
        have ne1 : q ≠ (s.heap.push (sNew u)).objs.size := Nat.ne_of_lt (by rw [sz1]; exact Nat.lt_succ_of_lt lt0)
        have nin : s.heap.objs.size ∉ [(s.heap.push (sNew u)).objs.size, q] := by
          intro z
          rcases List.mem_cons.mp z with z | z
          · exact Nat.ne_of_lt (by rw [sz1]; exact Nat.lt_succ_self _) z
          · exact Nat.ne_of_gt lt0 (List.mem_singleton.mp z)
        have vals : ∀ (i : Nat) (v : Value), xs[i]? = some v → ∃ p, zs[i]? = some p ∧ v = .ref p.1 := fun i v hv => by
          have z : xs.toList[i]? = some v := by rw [Array.getElem?_toList]; exact hv
          rw [qi, List.getElem?_map] at z
          cases e : zs[i]? with
          | none => rw [e] at z; cases z
          | some p => rw [e] at z; exact ⟨p, rfl, (Option.some.inj z).symm⟩
        have gone : ∀ b, s.heap.objs.size ≤ b → s.heap.get? b = none := fun b hb => Heap.get?_none_of_le hb
        refine set_update_tups ((Walks.tuple nh3 _ q ne1 xs).toS) s.heap.objs.size nin zs xl few vals s.heap qk (gone _ (Nat.le_refl _)) (fun b hb => gone b (by rw [List.mem_singleton.mp hb, sz1]; exact Nat.le_succ _)) room (xs.size - 0) 0 _ (by omega) (Nat.zero_le _)
          ⟨⟨_, Heap.get?_push_size _ rfl, rfl, rfl⟩, ql1.push _⟩ (fun b o e => Heap.get?_push_of_some _ (Heap.get?_push_of_some _ e)) ?z1 ?z2
        case z1 => exact ⟨[], #[], 0, _, setTR_fresh (Heap.get?_push_of_some _ at0), Got.zero zs⟩
        case z2 =>
          intro t L es ep tb mv rr gg kk
          obtain ⟨h2, g2, d2, tk2, os2⟩ := t
          have e1 : g2 = s.gens := mv.gens
          have e2 : d2 = s.drawn := mv.drawn
          have e3 : os2 = s.os := mv.os
          subst e1 e2 e3
          show wpAny (model P u) _ _ _ _ _
          refine wpAny_pure ?_
          show wpAny (model P u) _ (ret Value.none) _ _ _
          rw [xl] at gg
          exact wpAny_pure ⟨rfl, h2, tk2, L, es, ep, tb, rfl, rr, gg, kk⟩
      · cases res2 with
        | error _ => exact hres2
        | ok fl2 =>
          cases fl2 with
          | ret r =>
            obtain ⟨rfl, h2, tk, L, es, ep, tb, rfl, rr, gg, kk⟩ := hres2
            repeat any_goals first | assumption | wp_step
            exact fin _ _ _ _ _ _ rr gg kk
          | _ => exact hres2.elim
    | _ => exact hres.elim
end
end L2

/-! Deep layer P: sorted(set(xs)) of tuples of ints, by content. -/
namespace DL
open PySem PySem.Spec PyProof.Rows L2
section
variable {X : Cx} {pos : Pos} {a : Expr} {ta : TDE}
def stsK (Q : DV → DG → Prop) (x : DV) (g : DG) : Prop := ∃ L : List (List Int), seqD g x = some (L.map tuI) ∧ L.length < 64 ∧ ∃ (d : Nat) (B : Int), 1 ≤ d ∧ (∀ k ∈ L, k.length = d ∧ TS.Bd B k) ∧
  ∀ M : List (List Int), M.Nodup → (∀ k, k ∈ M ↔ k ∈ L) → M.length < 64 → M.Pairwise (fun p q => TS.code B p ≤ TS.code B q) → Q (.lst (M.map tuI)) g
def dSTs (ta : TDE) : TDE := fun δ g Q => ta δ g fun x g1 => stsK Q x g1
theorem rds_back {K : Fg} {H : Hp} : ∀ {L : List (Addr × List Int)}, (∀ p ∈ L, H p.1 = some (.tup (p.2.map V.int))) → RDs K H ((L.map (·.2)).map tuI) (L.map fun p => V.ref p.1)
  | [], _ => .nil
  | p :: L, h => .cons (.tup (h p List.mem_cons_self) (RDs.ofInts _)) (rds_back fun q hq => h q (List.mem_cons_of_mem _ hq))
theorem pd_sortedSetT {p p2 q : Pos} (hr : X.A.units + 64 < cLine) (hm : X.mg "sorted" = none) (hm2 : X.mg "set" = none) (ha : PE X a (upE X.K ta)) (hc : X.calm = true := by rfl) (hg : Gl X "sorted" := by rfl) (hg2 : Gl X "set" := by rfl)
    (na : starEach [a] X.env = (false, eval a X.env) :: starEach [] X.env := by rfl) : PE X (.Call (.Name "sorted" p) [.Call (.Name "set" p2) [a] [] q] [] pos) (upE X.K (dSTs ta)) := by
  refine ⟨fun pins s σ H Q I ⟨δ, g, P, rs, rg, h, k⟩ => ?_⟩
  refine Call_ (ld_blt I hg hm (show bootBuiltins "sorted" = some (.builtin "sorted") by decide +kernel) ?_)
  refine PyProof.Rows.callWith_builtin1 (PyProof.Rows.args_cons ?_ rfl) rfl rfl
  refine Call_ (ld_blt I hg2 hm2 boot_set ?_)
  let S : V → Hp → Prop := fun v H1 => ∃ (l : Addr) (ks : List (Addr × List Int)) (d : Nat) (B : Int), v = .ref l ∧ (SqL X.K H1 l (ks.map fun p => V.ref p.1) ∨ H1 l = some (.tup (ks.map fun p => V.ref p.1))) ∧ (∀ p ∈ ks, H1 p.1 = some (.tup (p.2.map V.int))) ∧ ks.length < 64 ∧
      1 ≤ d ∧ (∀ p ∈ ks, p.2.length = d ∧ TS.Bd B p.2) ∧ ∀ (M : List (Addr × List Int)), (∀ p ∈ M, p ∈ ks) → (M.map (·.2)).Nodup → (∀ p ∈ ks, p.2 ∈ M.map (·.2)) → M.length < 64 → M.Pairwise (fun p q => TS.code B p.2 ≤ TS.code B q.2) →
        ∀ (pn : Addr) (o : Obj), H1 pn = none → Q (.ref pn) (upd H1 pn (.frz o (.lst (M.map fun p => V.ref p.1))))
  refine PyProof.Rows.callWith_type1 (PyProof.Rows.args_cons (thn (ha.run pins s σ H S I ⟨δ, g, _, rs, rg, h, fun x g1 v H1 e1 rg1 rd1 h1 => ?_⟩) fun v s1 ⟨x, H1, I1, r1, q1⟩ => PyProof.Rows.args_nil ?_) na) na rfl
  · obtain ⟨L, es, hf, d, B, hd, hB, h1⟩ := h1
    obtain ⟨l, vs, rfl, hq, hr⟩ := seqD_ofX rg1 rd1 es
    obtain ⟨bs, rfl, ht⟩ := rds_tuI hr
    obtain ⟨ps, e2, e3, hp⟩ := tups_zip ht
    have ek : (ps.map fun p => (p.2, p.1)).map (fun p : Addr × List Int => V.ref p.1) = bs.map V.ref := by rw [← e3, List.map_map, List.map_map]; rfl
    have e4 : (ps.map fun p => (p.2, p.1)).map (fun p : Addr × List Int => p.2) = L := by rw [← e2, List.map_map]; rfl
    have inL : ∀ p : Addr × List Int, p ∈ ps.map (fun p => (p.2, p.1)) → p.2 ∈ L ∧ H1 p.1 = some (.tup (p.2.map V.int)) := fun p hm => by
      refine ⟨by rw [← e4]; exact List.mem_map.mpr ⟨p, hm, rfl⟩, ?_⟩
      obtain ⟨z, hz, rfl⟩ := List.mem_map.mp hm
      exact hp z hz
    refine ⟨l, ps.map fun p => (p.2, p.1), d, B, rfl, by rw [ek]; exact hq, fun p hm => (inL p hm).2, by rw [List.length_map, show ps.length = L.length by rw [← e2, List.length_map]]; exact hf, hd, fun p hm => hB _ (inL p hm).1, fun M hM nd all few pw pn o hn => ?_⟩
    refine k _ _ _ _ (e1.trans (Ext.fresh rg1 hn)) (rg1.fresh hn) (.lst ⟨o, upd_same⟩ ((rds_back fun p hm => (inL p (hM p hm)).2).mono (Kp.fresh hn))) (h1 (M.map (·.2)) nd (fun z => ⟨fun hz => ?_, fun hz => ?_⟩) (by rw [List.length_map]; exact few) ?_)
    · obtain ⟨p, hm, rfl⟩ := List.mem_map.mp hz
      exact (inL p (hM p hm)).1
    · rw [← e4] at hz
      obtain ⟨p, hm, rfl⟩ := List.mem_map.mp hz
      exact all p hm
    · exact List.pairwise_map.mpr pw
  · obtain ⟨l, ks, d, B, rfl, hl, hk, hf, hd, hB, qq⟩ := q1
    cases r1
    have hT : ∀ p ∈ ks, IsT X.prog X.w s1.heap p.2 p.1 := fun p hp => I1.isT (SqT.of (hk p hp))
    have fin : ∀ (h2 : Heap) (tk : Nat) (L : List (Addr × List Int)) (es : Array (Int × Value)) (ep : Nat) (t : SetTable), SetTR X.prog X.w h2 s1.heap.objs.size L es ep t → Got ks ks.length L → (∀ b o, s1.heap.get? b = some o → h2.get? b = some o) →
        wpAny (model X.prog X.w) X.A (call (.builtin "sorted") [.ref s1.heap.objs.size]) (EP X pins σ Q) X.xe { s1 with heap := h2, toks := tk } := fun h2 tk L es ep t R gg kk => by
      have I2 : Inv X pins σ H1 { s1 with heap := h2, toks := tk } := I1.kept fun b o e => kk b o e
      have sub : ∀ p ∈ L, p ∈ ks := fun p hp => List.mem_of_mem_take (gg.sub p hp)
      refine sorted_setT (s := { s1 with heap := h2, toks := tk }) R (I2.ok.hd hc) hd (fun p hp => hB p (sub p hp)) fun s' pn out c M k' g' o' hp hgt hout pm pw => ?_
      have hn : H1 pn = none := I2.hok.fresh hp
      have hfew : M.length < 64 := by rw [pm.length_eq]; exact R.few
      have hlen : (M.map fun q => V.ref q.1).length ≤ sizeLine := by rw [List.length_map, sizeLine_eq]; omega
      have J : Inv X pins σ (upd H1 pn (.lst (M.map fun q => V.ref q.1))) { s1 with heap := s'.heap, gens := s'.gens, drawn := s'.drawn, toks := s'.toks } :=
        L2.Inv.call (s := { s1 with heap := h2, toks := tk }) (h' := s'.heap) (g' := s'.gens) (d' := s'.drawn) (t' := s'.toks) (ch := []) I2 (Un.laid k' hp hn) (I2.hok.laid k' hp ⟨hlen, out.toList, c, by rw [hout]; exact vals_of_refs M, hgt⟩) (by rw [g']; exact I1.bare) (fun _ z => nomatch z)
      have es : s' = { s1 with heap := s'.heap, gens := s'.gens, drawn := s'.drawn, toks := s'.toks } := by
        cases s'
        cases s1
        cases o'
        rfl
      rw [es]
      obtain ⟨o, J2⟩ := J.lock upd_same True.intro
      rw [upd_upd] at J2
      exact ⟨.ref pn, _, J2, rfl, qq M (fun p hp => sub p (pm.mem_iff.mp hp)) ((pm.map (·.2)).nodup_iff.mpr R.nd) (fun p hp => (pm.map (·.2)).mem_iff.mpr (gg.all p (by rw [List.take_length]; exact hp))) hfew pw pn o hn⟩
    rcases hl with hl | hl
    · obtain ⟨its, rv, pl, hz⟩ := I1.list hl
      exact call_set_tups (P := X.prog) (w := X.w) ks (I1.ok.hd hc) pl.isList (by simpa using refs_of_vals rv) hT hf (by omega) fun h' tk L es ep t R gg kk => PyProof.Rows.args_nil (fin h' tk L es ep t R gg kk)
    · obtain ⟨z, its, rv, o, z1, z2, n, z3⟩ := (show ObjOk X.prog X.w H1 s1.heap l (.tup (ks.map fun p => V.ref p.1)) from I1.hok _ _ hl)
      exact set_tup_t (P := X.prog) (u := X.w) ks (I1.ok.hd hc) ⟨o, z1, z2, n, z3⟩ (by simpa using refs_of_vals rv) hT hf (by omega) fun h' tk L es ep t R gg kk => PyProof.Rows.args_nil (fin h' tk L es ep t R gg kk)
end
end DL

/-! Deep layer Q: walks over instances: __iter__ that hands out a tuple's iterator. -/
namespace DL
open PySem PySem.Spec PyProof.Rows L2
/-! ### a def that is called at a known size of the heap -/
/-! ### a tuple's iterator at its start -/
section
variable {X : Cx} {C f : Addr} {i n : Nat} {tgx e : Expr} {te : TE}
end
end DL

/-! Deep layer U: enumerate(a tuple), comprehensions of two clauses, texts, t * k. -/
namespace L2.EnT
open PySem PySem.Spec PyProof.Rows
open PySem.AutoSeq1 (wpAny_loadPart')
theorem new_tup (l : Addr) (items : Array Value) (n : Nat) (dct : Option Addr) (sl : Array (Option Value)) :
    Meets (Builtin.«enumerate.__new__» ⟨[.type "enumerate", .ref l], []⟩) (fun _ R s => s.heap.get? l = some { cls := .type "tuple", dict := dct, data := .seq items n, slots := sl } ∧
      R (.ok (.ret (.ref (s.heap.objs.size + 1)))) { s with heap := (s.heap.push { cls := .type "tuple_iterator", data := .fields #[.ref l, .int 0 0] }).push { cls := .type "enumerate", data := .fields #[.none, .bool false, .ref s.heap.objs.size, rawInt 0, .none, .none] } }) :=
  .of_wp fun prog w A R s q => by
    obtain ⟨hp, g, d, tk, os⟩ := s
    obtain ⟨at0, q⟩ := q
    have ez : (hp.push { cls := .type "tuple_iterator", data := .fields #[.ref l, .int 0 0] }).objs.size = hp.objs.size + 1 := Heap.size_push ..
    replace q : R (.ok (.ret (.ref (hp.push { cls := .type "tuple_iterator", data := .fields #[.ref l, .int 0 0] }).objs.size))) ⟨(hp.push { cls := .type "tuple_iterator", data := .fields #[.ref l, .int 0 0] }).push { cls := .type "enumerate", data := .fields #[.none, .bool false, .ref hp.objs.size, rawInt 0, .none, .none] }, g, d, tk, os⟩ := by rw [ez]; exact q
    have es := sub_enumerate
    have tup : Heap.IsTuple (Shared.heap ⟨hp, g, d, tk, os⟩) l items := ⟨_, at0, rfl, n, rfl⟩
    wp_walk using wpAny_loadPart' at0
    refine wpAny_stack_any fun st => wpAny_pure ?_
    split
    · rename_i c _ _ _ _ _
      cases (c == Value.type "enumerate") <;> (wp_walk using wpAny_loadPart' at0, wpAny_pyIter_tuple tup; exact ⟨_, rfl, q⟩)
    · wp_walk using wpAny_loadPart' at0, wpAny_pyIter_tuple tup
      exact ⟨_, rfl, q⟩
theorem call_tup {prog : Program} {w : World} {A : Around} {E : Value → Shared → Prop} {s : Shared} {l : Addr} {items : Array Value} {Q : Value → Shared → Prop} (tup : s.heap.IsTuple l items)
    (h : ∀ h', IsEnum h' (s.heap.objs.size + 1) s.heap.objs.size 0 .none → h'.IsTupleIter s.heap.objs.size l 0 → (∀ b o, s.heap.get? b = some o → h'.get? b = some o) → Q (.ref (s.heap.objs.size + 1)) { s with heap := h' }) :
    wpAny (model prog w) A (call (.type "enumerate") [.ref l]) Q E s := by
  obtain ⟨⟨c, dct, dt, sl⟩, at0, hc, n, hd⟩ := tup
  simp only at hc hd
  subst hc hd
  refine callType_new F.called_enumerate (by decide) (F.typeCall_enumerate_1 _) (F.newCall_enumerate_1 _) (fun obj => F.args_object_init_2 obj _) F.entry_enumerate_new (new_tup l items n dct sl) ⟨at0, ?_⟩
  have ez : (s.heap.push { cls := .type "tuple_iterator", data := .fields #[.ref l, .int 0 0] }).objs.size = s.heap.objs.size + 1 := Heap.size_push ..
  have en : IsEnum ((s.heap.push { cls := .type "tuple_iterator", data := .fields #[.ref l, .int 0 0] }).push { cls := .type "enumerate", data := .fields #[.none, .bool false, .ref s.heap.objs.size, rawInt 0, .none, .none] }) (s.heap.objs.size + 1) s.heap.objs.size 0 .none := by
    rw [← ez]; exact Heap.get?_push_size _ rfl
  exact ⟨⟨_, en, rfl⟩, h _ en ⟨_, Heap.get?_push_of_some _ (Heap.get?_push_size _ rfl), rfl, rfl⟩ fun b o x => Heap.get?_push_of_some _ (Heap.get?_push_of_some _ x)⟩
/-- the tuple at a, its items numbered -/
def ItE (K : PySem.W.Frag) (a : Addr) : It :=
  ⟨fun i H => ∃ xs x, SqT K H a xs ∧ xs[i]? = some x, fun i H y H' => ∃ T x, y = .ref T ∧ H T = none ∧ H' = upd H T (.tup [.int (i : Nat), x]) ∧ ∀ xs, SqT K H a xs → xs[i]? = some x, fun i H => ∃ xs, SqT K H a xs ∧ xs.length ≤ i⟩
theorem apart {s : Shared} {a e it : Addr} {i : Nat} {k : Int} {old : Value} {its : List Value} (he : IsEnum s.heap e it k old) (hi : s.heap.IsTupleIter it a i) (p : IsTup s.heap a its.toArray) : a ≠ e ∧ a ≠ it := by
  obtain ⟨o, h1, h2, _⟩ := p
  obtain ⟨oi, i1, i2, _⟩ := hi
  have he : s.heap.get? e = some _ := he
  refine ⟨fun z => ?_, fun z => ?_⟩
  · rw [z, he] at h1; cases h1; exact absurd (show Value.type "enumerate" = Value.type "tuple" from h2) (by decide)
  · rw [z, i1] at h1; cases h1; rw [i2] at h2; exact absurd h2 (by decide)
theorem turn {P : Program} {w : World} {K : PySem.W.Frag} {elts : List Expr} {kk : Nat} {tpos : Pos} (a e it : Addr) :
    Turn P w K (.Tuple elts kk tpos) (ItE K a) [e, it] e (fun i h => (∃ old, IsEnum h e it ((i : Nat) : Int) old) ∧ h.IsTupleIter it a i ∧ e ≠ it) where
  mem := by simp
  obj := fun i h st b hb => by
    obtain ⟨⟨old, he⟩, ⟨o, ho, hc, hd⟩, _⟩ := st
    rcases (show b = e ∨ b = it by simpa using hb) with z | z
    · rw [z]; exact ⟨_, he, fun v q => nomatch q⟩
    · rw [z]; exact ⟨o, ho, fun v q => by rw [hd] at q; cases q⟩
  keep := fun i h h' st k => let ⟨⟨old, he⟩, hi, ne⟩ := st; ⟨⟨old, k e (by simp) _ he⟩, hi.at fun o q => k it (by simp) o q, ne⟩
  item := by
    intro X hP hw hK hc i pins s σ H E I hf st hg
    subst hP hw hK
    obtain ⟨⟨old, he⟩, hit, ne⟩ := st
    obtain ⟨xs, x, hq, hx⟩ := hg
    obtain ⟨its, rv, p, hz⟩ := I.tuple hq
    obtain ⟨u, hu, ru⟩ := rv.get hx
    obtain ⟨ae, ai⟩ := apart he hit p
    have tup : s.heap.IsTuple a its.toArray := p
    have D := Draws.tuple (prog := X.prog) (w := X.w) (A := X.A.in1) (by show X.A.in1.handled = none; exact I.ok.hd hc) it a ai its.toArray
    have le : e < s.heap.objs.size := Heap.lt_size he
    have li : it < s.heap.objs.size := by obtain ⟨_, q, _⟩ := hit; exact Heap.lt_size q
    have lt : i < its.toArray.size := by
      have := (List.getElem?_eq_some_iff.mp hu).1
      rw [List.size_toArray]; exact this
    refine wpAny_pyNext_enum_itemD D he ⟨hit, tup⟩ lt ne (by simp [ne, Ne.symm ae]) fun z h' tk hz2 ho hst hT hsz hk => ?_
    have ez : z = u := by
      have q : its.toArray[i]? = some z := hz2
      rw [List.getElem?_toArray, hu] at q
      exact (Option.some.inj q).symm
    subst ez
    refine ⟨_, rfl, wpAny_letOwnedTupleGo_enum (s := { s with heap := h', toks := tk + 1 }) ho fun h2 he2 sb => ?_⟩
    have hT2 : h2.get? s.heap.objs.size = some { cls := .type "tuple", data := .seq #[.int i tk, z] } := (sb.2 _ (Nat.ne_of_gt le)).trans hT
    have new : ObjOk X.prog X.w (upd H s.heap.objs.size (.tup [.int (i : Nat), x])) h2 s.heap.objs.size (.tup [.int (i : Nat), x]) :=
      ⟨by show 2 ≤ sizeLine; decide, [.int i tk, z], .cons ⟨_, rfl⟩ (.cons ru .nil), ⟨_, hT2, rfl, _, rfl⟩⟩
    have J : Inv X pins σ (upd H s.heap.objs.size (.tup [.int (i : Nat), x])) { s with heap := h2, toks := tk + 1 } :=
      I.turnedNew (ch := [e, it]) (fun b ob hb q => (sb.2 b (fun z => hb (by simp [z]))).trans (hk b ob (fun z => hb (by simp [z])) (fun z => hb (by simp [z])) q)) hf (Nat.le_refl _) new
    refine ⟨.ref s.heap.objs.size, _, J, rfl, ⟨_, x, rfl, I.hok.fresh (Nat.le_refl _), rfl, fun ys hy => by rw [I.tuple_inj hy hq]; exact hx⟩, ⟨⟨z, ?_⟩, hst.1.at fun o q => (sb.2 it (Ne.symm ne)).trans q, ne⟩, fun b hb => ?_⟩
    · have e1 : ((i + 1 : Nat) : Int) = (i : Int) + 1 := by omega
      rw [e1]; exact he2
    · have hb' : b < s.heap.objs.size := by
        rcases (show b = e ∨ b = it by simpa using hb) with z | z
        · rw [z]; exact le
        · rw [z]; exact li
      rw [upd_ne (Nat.ne_of_lt hb')]
      exact (hf b hb).1
  done := by
    intro X hP hw hK hc i pins s σ H E I hf st hg
    subst hP hw hK
    obtain ⟨⟨old, he⟩, hit, ne⟩ := st
    obtain ⟨xs, hq, hx⟩ := hg
    obtain ⟨its, rv, p, hz⟩ := I.tuple hq
    obtain ⟨ae, ai⟩ := apart he hit p
    obtain ⟨f0, f1, f2, f3, f4, f5⟩ := hf it (by simp)
    have tup : s.heap.IsTuple a its.toArray := p
    have hd := I.ok.hd hc
    have hT : s.TypeIs (.ref e) "enumerate" := ⟨_, he, rfl⟩
    unfold pyNext
    refine wpAny_bind (wpAny_attempt (wpAny_callSpecial?_slot (name := Str.ofString "__next__") hT F.slot_enumerate_next (wpAny_call_entry F.slot_enumerate_next hT F.entry_enumerate_next ?_ (F.args_enumerate_next_1 _))))
    show wpAny _ _ (field (.ref e) 2 >>= _) _ _ _
    refine wpAny_bind (wpAny_field he rfl (x := .ref it) rfl ?_)
    refine wpAny_bind (wpAny_nextOf_tuple_end hd hit tup (by have := rv.length; rw [List.getElem?_toArray]; exact List.getElem?_eq_none (by omega)) fun h' y ex hy => ?_)
    obtain ⟨o, ho, hc'⟩ := hy
    refine wpAny_bind (wpAny_isInstance (T := "StopIteration") (b := true) ⟨o, ho, hc'⟩ isSubtype_stop ?_)
    exact wpAny_pure ⟨rfl, I.turned (t' := s.toks) (fun b o hb q => ex b o hb q) f0 f1 f3 f4 f5⟩
  self := fun A i s Q E st h => let ⟨⟨_, he⟩, _⟩ := st; wpAny_pyIter_enum he h
def iEnT (K : PySem.W.Frag) (ta : TA) : TI := fun σ H R => ta σ H fun vs H1 => ∃ a xs, vs = [.ref a] ∧ SqT K H1 a xs ∧ R (ItE K a) H1
theorem pi_enT {X : Cx} {e : Expr} {ta : TA} {p pos tpos : Pos} {elts : List Expr} {kk : Nat} (hg : Gl X "enumerate") (hm : X.mg "enumerate" = none) (ha : PA X [e] ta) (hs : starEach [e] X.env = [(false, eval e X.env)] := by rfl) :
    PI X (.Tuple elts kk tpos) (.Call (.Name "enumerate" p) [e] [] pos) (iEnT X.K ta) := by
  refine ⟨fun pins s σ H R I h => ?_⟩
  refine Call_ (ld_blt I hg hm boot_enumerate (PyProof.Rows.callWith_type1 (thn (ha.run pos pins s σ H _ I h) fun us s1 ⟨vs, H1, I1, r1, a, xs, ex, hq, q⟩ => ?_) hs rfl))
  subst ex
  obtain ⟨u, rfl, ru⟩ := vals1 r1
  cases ru
  obtain ⟨its, rv, p', hz⟩ := I1.tuple hq
  refine call_tup (show s1.heap.IsTuple a its.toArray from p') fun h' he hit hk => wpAny_pyIter_enum he ?_
  refine ⟨s1.heap.objs.size + 1, [s1.heap.objs.size + 1, s1.heap.objs.size], _, _, H1, rfl, I1.kept (t' := s1.toks) hk, turn a (s1.heap.objs.size + 1) s1.heap.objs.size, ⟨⟨.none, he⟩, hit, Nat.succ_ne_self _⟩, fun b hb => ?_, q⟩
  have hle : s1.heap.objs.size ≤ b := by
    rcases (show b = s1.heap.objs.size + 1 ∨ b = s1.heap.objs.size by simpa using hb) with z | z
    · rw [z]; exact Nat.le_add_right _ _
    · rw [z]; exact Nat.le_refl _
  exact I1.fpOk hle (I1.hok.fresh hle)
end L2.EnT

/-! Deep layer V: enumerate(a tuple), comprehensions of two clauses, texts, t * k: by content. -/
namespace DL
open PySem PySem.Spec PyProof.Rows L2 Builtin
section
variable {X : Cx} {pos : Pos}
/-! ### enumerate(t) -/
def enD (ds : List DV) : List DV := zipD (rangeD 0 ds.length) ds
theorem rangeD_len' (n : Nat) : (rangeD 0 n).length = n := by simp only [rangeD, List.length_map, List.length_range]
theorem rangeD_at' {n j : Nat} {d : DV} (h : (rangeD 0 n)[j]? = some d) : d = .int (j : Int) := by
  have hl := (List.getElem?_eq_some_iff.mp h).1
  rw [rangeD_len'] at hl
  simp only [rangeD, List.getElem?_map, List.getElem?_range hl] at h
  have z := Option.some.inj h
  rw [← z]
  show DV.int (0 + (j : Int)) = _
  rw [Int.zero_add]
theorem enD_len (ds : List DV) : (enD ds).length = ds.length := by
  unfold enD
  rw [zipD_len, rangeD_len', Nat.min_self]
theorem dwalk_enT {K : Fg} {H : Hp} {a : Addr} {xs : List DV} {vs : List V} (ha : SqT K H a vs) (ra : RDs K H xs vs) : DWalk K (EnT.ItE K a) (enD xs) H := by
  have l1 := ra.length
  have hl := enD_len xs
  refine ⟨fun i H' hi k => ?_, fun H' k => ⟨vs, k.sqT ha, by omega⟩, fun i H1 x H' d hd k y => ?_⟩
  · have h1 : i < vs.length := by omega
    exact ⟨vs, vs[i], k.sqT ha, by simp [h1]⟩
  · obtain ⟨T, v, h1, h2, h3, h4⟩ := y
    obtain ⟨x', y', e1, e2, rfl⟩ := zipD_get hd
    have ex := rangeD_at' e1
    subst ex
    have q1 := h4 vs (k.sqT ha)
    obtain ⟨v', e1', r1⟩ := ra.get e2
    rw [q1] at e1'; cases e1'
    have kk : Kp H1 H' := by rw [h3]; exact Kp.fresh h2
    refine ⟨.inr ⟨T, _, h2, h3⟩, ?_⟩
    rw [h1]
    exact .tup (by rw [h3]; exact upd_same) (.cons (.int _) (.cons ((r1.mono k).mono kk) .nil))
def enK (R : List DV → DG → Prop) (xs : List DV) (g : DG) : Prop := match xs with | [.tup ds] => R (enD ds) g | _ => False
def wEnT (ta : TDA) : TDI := fun δ g R => ta δ g fun xs g1 => enK R xs g1
theorem pid_enT {e : Expr} {ta : TDA} {p pos tpos : Pos} {elts : List Expr} {kk : Nat} (hm : X.mg "enumerate" = none) (ha : PA X [e] (upA X.K ta)) (hg : Gl X "enumerate" := by rfl) (hs : starEach [e] X.env = [(false, eval e X.env)] := by rfl) :
    PI X (.Tuple elts kk tpos) (.Call (.Name "enumerate" p) [e] [] pos) (upI X.K (wEnT ta)) := by
  refine PI_weak (EnT.pi_enT hg hm ha hs) fun σ H R ⟨δ, g, P, rs, rg, h, k⟩ => ⟨δ, g, _, rs, rg, h, fun xs g1 vs H1 e1 rg1 rd1 h1 => ?_⟩
  unfold enK at h1
  split at h1
  · obtain ⟨v, rfl, rx⟩ := rd1.inj1
    cases rx with
    | tup hs hr => exact ⟨_, _, rfl, SqT.of hs, k _ _ _ _ e1 rg1 (dwalk_enT (SqT.of hs) hr) h1⟩
  · exact h1.elim
/-! ### [e for x in .. for y in ..] -/
variable {elt iter iter1 tgx tgx1 : Expr} {ifs ifs1 : List Expr} {scope : Scope} {own : List (Str × Nat)} {vs1 : List Nat} {wi wi1 : TDI} {tg tg1 : Tg} {tt tt1 : TDT} {tel : TDE}
/-! ### texts -/
variable {e : Expr} {es : List Expr} {te : TDE} {ta : TDA}
/-! ### t * k -/
end
end DL

/-! Deep layer W: sep.join(xs), str(x) of an instance, t * 1. -/
namespace L2.MulT
open PySem PySem.Spec PyProof.Rows
open PySem.AutoSeq1 (wpAny_loadPart')
theorem mul_one (l : Addr) (items : Array Value) (n : Nat) (dd : Option Addr) (sl : Array (Option Value)) (u : Tok) :
    Meets (Builtin.«tuple.__mul__» ⟨[.ref l, .int 1 u], []⟩) (fun _ R s => s.heap.get? l = some { cls := .type "tuple", dict := dd, data := .seq items n, slots := sl } ∧ R (.ok (.ret (Value.ref l))) s) :=
  .of_wp fun prog w A R s h => by
    obtain ⟨hp, g, d, tk, os⟩ := s
    obtain ⟨at0, h⟩ := h
    have f1 := AutoSeq1.idx_int
    have c : (items.isEmpty || (1 : Int) == 1) = true := by simp
    wp_walk using wpAny_loadPart' at0
    repeat (first
      | (refine wpAny_ite_false (by decide) ?_; wp_walk using wpAny_loadPart' at0)
      | (refine wpAny_ite_true (by simp) ?_; wp_walk using wpAny_loadPart' at0))
    all_goals exact ⟨_, rfl, h⟩
section
variable {X : Cx}
end
end L2.MulT
namespace DL
open PySem PySem.Spec PyProof.Rows L2 Builtin
section
variable {X : Cx} {pos apos cpos : Pos} {o e : Expr} {to te : TDE} {t : TDA}
/-! ### t * k, k at least 1 -/
/-! ### sep.join(xs) -/
/-! ### str(x) by its own __str__ -/
end
end DL

/-! Deep layer X: reading what has to do with instances, dicts of tuples, texts; what a class and its methods must be. -/
namespace DL
open PySem L2
/-- a class of the text -/
structure ClsF (K : Fg) (C : Addr) : Prop where
  sc : SlX.SCls K C
  si : SlX.SIsi K C
  no : NoSub K C
  ni : NoIsi K C
  ms : PySem.W.makesIn K C = true
  kp : PySem.W.keepIn K (.ref C) = true
def tyMro (a : String) : Bool := match PySem.fastBuiltinMro a with | some l => l.all (fun v => match v with | .type _ => true | _ => false) | none => false
theorem tyMro_all : tyNames.all tyMro = true := by decide +kernel
theorem sub_no {K : Fg} {C : Addr} {a : String} (h : a ∈ tyNames) : PySem.W.subIn K (.type a) (.ref C) = some false := by
  have e := List.all_eq_true.mp tyMro_all a h
  unfold tyMro at e
  show (PySem.fastBuiltinMro a).map (·.contains (.ref C)) = some false
  split at e
  · rename_i l el
    rw [el]
    show some (l.contains (.ref C)) = some false
    congr 1
    rw [Bool.eq_false_iff]
    intro q
    have := List.all_eq_true.mp e _ (List.contains_iff_mem.mp q)
    cases this
  · cases e
theorem noSub_all {K : Fg} {C : Addr} : NoSub K C := List.all_eq_true.mpr fun a h => by
  unfold PySem.W.notFirst
  rw [sub_no h]
  simp
theorem noIsi_of {K : Fg} {C : Addr} (ic : PySem.W.isClsIn K C = true) (ty : PySem.W.typeIn K (.ref C) = some (.type "type")) : NoIsi K C := List.all_eq_true.mpr fun a h => by
  have e : PySem.W.kitOne K (.type a) (.ref C) = some false := by
    unfold PySem.W.kitOne
    rw [if_neg (by simp)]
    unfold PySem.W.kitCls
    dsimp only
    have ic' : (PySem.W.clsIn K C).isSome = true := ic
    rw [ic', ty, if_pos (by simp)]
    exact sub_no h
  rw [e]
  rfl
theorem kit_me {K : Fg} {C : Addr} : PySem.W.kitOne K (.ref C) (.ref C) = some true := by unfold PySem.W.kitOne; rw [if_pos (by simp)]
/-- a method of the class at C -/
structure Mtd (K : Fg) (C : Addr) (x qual : Str) (st : Stmt) (ps : List Str) (f : Addr) (fd : FuncData) : Prop where
  fn : Fun K x qual st f fd
  bd : Binds K fd ps []
  at_ : PySem.W.findIn K (.ref C) x = some (some (.ref f))
  isf : PySem.W.isFn K (.ref f) = true
theorem mtd_mk {K : Fg} {C : Addr} {qual : Str} {st : Stmt} {ps : List Str} {f : Addr} {fd : FuncData} (D : Mtd K C "__init__" qual st ps f fd) (c : ClsF K C) : Mk K C f := ⟨c.ms, D.at_, D.isf, c.kp⟩
section
variable {δ : DS} {g : DG} {E : DEnds} {Q : DV → DG → Prop} {QA : List DV → DG → Prop} {P : DV → Prop} {a b : TDE} {ta : TDA} {x y d : DV} {ds es : List DV} {C p : Addr} {i : Nat} {sp : SpD}
def flK (C : Addr) (i : Nat) (Q : DV → DG → Prop) (x : DV) (g1 : DG) : Prop := match slD g1 C x with | some ds => (match nth ds i with | some d => Q d g1 | none => False) | none => False
theorem rd_fld (h : a δ g fun x g1 => flK C i Q x g1) : dFld C i a δ g Q := h
theorem rd_flI (e : nth (ds.map some) i = some d) (h : Q d g) : flK C i Q (.ins C ds) g := by unfold flK; rw [slD_ins]; dsimp only; rw [e]; exact h
theorem rd_flR {os : List (Option DV)} (e : g p = some (.ins C os)) (e2 : nth os i = some d) (h : Q d g) : flK C i Q (.ref p) g := by unfold flK; rw [slD_ref e]; dsimp only; rw [e2]; exact h
theorem rd_sto (h : b δ g fun y g1 => a δ g1 fun x g2 => stoK C i x y g2 fun g3 => E.nx δ g3) : dSto C i a b E δ g := h
theorem rd_stoK {os : List (Option DV)} {R : DG → Prop} (e : g p = some (.ins C os)) (h : R (gup g p (.ins C (putO i y os)))) : stoK C i (.ref p) y g R := by unfold stoK; dsimp only; rw [e]; exact ⟨rfl, h⟩
theorem rd_mk (h : ta δ g fun ds g1 => ∀ p, g1 p = none → sp (.ref p :: ds) (gup g1 p (.ins C [])) (mkK C p Q)) : dMk C sp ta δ g Q := h
theorem rd_isiCI (h : P (.bl true)) : rrIsiC C [.ins C ds, .ref C] g P := ⟨rfl, .inl ⟨by rw [slD_ins]; rfl, h⟩⟩
theorem rd_isiCT (h : P (.bl false)) : rrIsiC C [.tup ds, .ref C] g P := ⟨rfl, .inr ⟨rfl, h⟩⟩
theorem rd_dcT {wi : TDI} {tg : Tg} {own : List Nat} {tt : TDT} {tk tv : TDE} (h : wi δ g fun ds g1 => zK (fun ds g1 => dDcC tg own tt tk tv δ ds [] [] g1 fun ks vs g2 => Q (.dT ks vs) g2) ds g1) : dDcT wi tg own tt tk tv δ g Q := h
theorem rd_sk {kf : List Int → Int} (h : a δ g fun x g1 => skK kf Q x g1) : dSK kf a δ g Q := h
theorem rd_skK {kf : List Int → Int} {L : List (List Int)} (i : ItT g x L) (c : L.length ≤ 16777216) (h : Q (.lst ((L.mergeSort (leK kf)).map tuI)) g) : skK kf Q x g := ⟨L, i, by rw [sizeLine_eq]; exact c, h⟩
theorem rd_sts (h : a δ g fun x g1 => stsK Q x g1) : dSTs a δ g Q := h
theorem rd_wenT (h : ta δ g fun xs g1 => enK QA xs g1) : wEnT ta δ g QA := h
theorem rd_enK (h : QA (enD ds) g) : enK QA [.tup ds] g := h
end
/-- a dict comprehension {f d: v for d in ..} whose parts change nothing -/
theorem dc_map {tg : Tg} {own : List Nat} {tk tv : TDE} {δ : DS} {g : DG} {kf : DV → List Key} {v : DV} : ∀ {ds : List DV} {ks : List (List Key)} {vs : List DV} {R : List (List Key) → List DV → DG → Prop},
    (∀ d ∈ ds, ∃ δ2 y, bindT tg d (wipeD δ own) = some δ2 ∧ keyT y = some (kf d) ∧ ∀ Q2 : DV → DG → Prop, Q2 y g → tk δ2 g Q2) → (∀ d ∈ ds, ∀ δ2, bindT tg d (wipeD δ own) = some δ2 → ∀ Q2 : DV → DG → Prop, Q2 v g → tv δ2 g Q2) →
    (∀ vs', R ((ds.map kf).foldl putKs ks) vs' g) → dDcC tg own dYes tk tv δ ds ks vs g R
  | [], ks, vs, R, _, _, h => h vs
  | d :: ds, ks, vs, R, hk, hv, h => by
    obtain ⟨δ2, y, e, ek, q⟩ := hk d List.mem_cons_self
    unfold dDcC
    rw [e]
    dsimp only
    refine rd_yes (rd_itet (q _ (hv d List.mem_cons_self δ2 e _ ?_)))
    rw [ek]
    exact dc_map (fun d hd => hk d (List.mem_cons_of_mem _ hd)) (fun d hd => hv d (List.mem_cons_of_mem _ hd)) h
end DL

/-! Deep layer Y: max, sum of a list or a tuple of ints. -/
namespace DL
open PySem PySem.Spec PyProof.Rows L2
section
variable {prog : Program} {w : World} {A : Around} {E : Value → Shared → Prop} {s : Shared} {l : Addr} {its : List Value} {ns : List Int} {Q : Value → Shared → Prop}
theorem max_tup (hh : A.handled = none) (ht : s.heap.IsTuple l its.toArray) (hi : IntsAre its ns) (hne : 0 < ns.length)
    (h : ∀ h' tk M t', (∀ b o, s.heap.get? b = some o → h'.get? b = some o) → M ∈ ns → (∀ a, a ∈ ns → a ≤ M) → Q (.int M t') { s with heap := h', toks := tk }) : wpAny (model prog w) A (call (.builtin "max") [.ref l]) Q E s := by
  obtain ⟨xs, e⟩ := hi.allInts.items
  have hn : numsOf (intItems xs).toList = ns := by rw [← e]; exact hi.numsOf
  rw [nums_intItems] at hn
  subst hn
  rw [e] at ht
  have hsz : 0 < xs.size := by simpa using hne
  obtain ⟨o, ho, hc, n, hd⟩ := id ht
  have ne : l ≠ s.heap.objs.size := Nat.ne_of_lt (Heap.lt_size ho)
  refine call_max_walk (wpAny_pyIter_tuple ht ?_)
  refine ⟨s.heap.objs.size, _, _, _, _, _, _, rfl, Walks.tuple (prog := prog) (w := w) (A := A.in1) hh s.heap.objs.size l ne (intItems xs), ⟨⟨_, Heap.get?_push_size _ rfl, rfl, rfl⟩, ht.at fun o e => Heap.get?_push_of_some _ e⟩, fun b hb => ?_, by simpa [intItems] using hsz, CmpOf.ints_gt (numAt xs) (fun _ _ => intItems_at), fun v h' tk hP hk => ?_⟩
  · rcases List.mem_cons.mp hb with rfl | hb
    · exact Heap.lt_size (Heap.get?_push_size _ rfl)
    · obtain rfl := List.mem_singleton.mp hb
      exact Heap.lt_size (Heap.get?_push_of_some _ ho)
  · have hv : (intItems xs)[argBest (fun i j => decide (numAt xs i > numAt xs j)) (xs.size - 1)]? = some v := by simpa [intItems] using hP
    obtain ⟨t, rfl⟩ := intItems_at hv
    obtain ⟨h1, h2⟩ := argBest_gt (numAt xs) (xs.size - 1)
    refine h h' tk _ t (fun b o e => hk b o (fun hb => absurd (Heap.lt_size e) ((List.mem_singleton.mp hb) ▸ Nat.lt_irrefl _)) (Heap.get?_push_of_some _ e)) ?_ fun a ha => ?_
    · rw [numAt_eq]; exact PySem.getD_mem (by rw [List.length_map, Array.length_toList]; omega)
    · obtain ⟨j, hj, rfl⟩ := mem_getD ha
      rw [List.length_map, Array.length_toList] at hj
      rw [← numAt_eq]; exact h2 j (by omega)
end
section
variable {X : Cx} {K : Fg}
def rMaxS (K : Fg) : List V → Hp → VK → Prop := fun vs H Q => ∃ (a : Addr) (ns : List Int), vs = [V.ref a] ∧ (SqL K H a (ns.map V.int) ∨ SqT K H a (ns.map V.int)) ∧ 0 < ns.length ∧ ∀ m, m ∈ ns → (∀ y, y ∈ ns → y ≤ m) → Q (.int m) H
theorem cr_maxS (hc : X.calm = true) : CallR X (.builtin "max") (rMaxS X.K) := by
  intro pins s σ H vs us Q I r h
  obtain ⟨a, ns, rfl, hs, hne, q⟩ := h
  rcases hs with hs | hs
  · exact cr_max hc pins s σ H [.ref a] us Q I r ⟨a, ns, rfl, hs, hne, q⟩
  · obtain ⟨its, rv, hl, _⟩ := I.tuple hs
    rw [Vals.ref1 r]
    exact max_tup (I.ok.hd hc) (show s.heap.IsTuple a its.toArray from hl) rv.ints hne fun h' tk m t' hk h1 h2 => ⟨.int _, H, I.kept hk, ⟨_, rfl⟩, q m h1 h2⟩
def rrMaxS : RRs := rr1 fun x g P => ∃ ns : List Int, (∃ ds, seqD g x = some ds ∧ intsD ds = some ns) ∧ 0 < ns.length ∧ ∀ m, m ∈ ns → (∀ y, y ∈ ns → y ≤ m) → P (.int m)
theorem ref_maxS : RefCall K rrMaxS (rMaxS K) := by
  intro xs P vs H g Q rg r k h
  obtain ⟨x, v, rfl, rfl, rx, ns, ⟨ds, e, e2⟩, hne, h⟩ := rr1_of r h
  obtain ⟨a, us, rfl, hq, hr⟩ := seqD_of rg rx e
  rw [intsD_of e2] at hr
  rw [hr.ints] at hq
  exact ⟨a, ns, rfl, hq, hne, fun m h1 h2 => .inl (k _ _ H Ext.refl rg (.int _) (h m h1 h2))⟩
theorem rd_maxS {x : DV} {g : DG} {P : DV → Prop} {ns : List Int} (e : seqD g x = some (ns.map DV.int)) (c : 0 < ns.length) (h : ∀ m, m ∈ ns → (∀ y, y ∈ ns → y ≤ m) → P (.int m)) : rrMaxS [x] g P := ⟨ns, ⟨_, e, intsD_map ns⟩, c, h⟩
end
end DL

/-! Deep layer AA: a comprehension over a list that may change but stays as it is while walked; reading lemmas for comprehensions. -/
namespace DL
open PySem PySem.Spec PyProof.Rows L2
def dCompR (q : Addr) (all : List DV) (tg : Tg) (own : List Nat) (tt : TDT) (te : TDE) (δ : DS) : List DV → DG → (List DV → DG → Prop) → Prop
  | [], g, Q => g q = some (.lst all) ∧ Q [] g
  | d :: ds, g, Q => g q = some (.lst all) ∧ match bindT tg d (wipeD δ own) with
    | some δ2 => tt δ2 g fun b g3 => if b = true then te δ2 g3 fun y g4 => dCompR q all tg own tt te δ ds g4 fun ys g5 => Q (y :: ys) g5 else dCompR q all tg own tt te δ ds g3 Q
    | none => False
def lrC (tg : Tg) (own : List Nat) (tt : TDT) (te : TDE) (δ : DS) (P : List DV → DG → Prop) (x : DV) (g1 : DG) : Prop := match x with
  | .ref q => (match g1 q with | some (.lst ds) => ds.length ≤ sizeLine ∧ dCompR q ds tg own tt te δ ds g1 P | _ => False)
  | _ => False
theorem lrC_of {tg : Tg} {own : List Nat} {tt : TDT} {te : TDE} {δ : DS} {P : List DV → DG → Prop} {x : DV} {g1 : DG} (h : lrC tg own tt te δ P x g1) : ∃ q ds, x = .ref q ∧ g1 q = some (.lst ds) ∧ ds.length ≤ sizeLine ∧ dCompR q ds tg own tt te δ ds g1 P := by
  cases x <;> first | exact h.elim | skip
  rename_i q
  unfold lrC at h
  dsimp only at h
  split at h
  · rename_i ds e
    exact ⟨q, ds, rfl, e, h⟩
  · exact h.elim
def dLcR (ti : TDE) (tg : Tg) (own : List Nat) (tt : TDT) (te : TDE) : TDE := fun δ g Q => ti δ g fun x g1 => lrC tg own tt te δ (fun ys g2 => Q (.lst ys) g2) x g1
section
variable {X : Cx} {pos : Pos}
variable {elt iter tgx : Expr} {ifs : List Expr} {scope : Scope} {own : List (Str × Nat)} {ti : TDE} {tg : Tg} {tt : TDT} {tel : TDE}
theorem lcR_up {K : Fg} {ti : TDE} {tg : Tg} {own : List Nat} {tt : TDT} {tel : TDE} {δ : DS} {g : DG} {σ : L2.St} {H : Hp} {P : List DV → DG → Prop} {Q : VK} (hix : ∀ i ∈ tg.ix, i ∈ own) (rs : RS K H δ σ) (rg : RG K H g)
    (h : ti δ g fun x g1 => lrC tg own tt tel δ P x g1)
    (k : ∀ D ys vs g' H', Ext g H g' H' → RG K H' g' → g' D = none → (∀ o, H D = some o → g D = none → ¬ OwnO o → False) → H' D = some (.lst vs) → RDs K H' ys vs → P ys g' → Q (.ref D) H') :
    tLc (iSeq K (upE K ti)) (tgG K tg) (upT K tt) (upE K tel) own σ H Q := by
  refine ⟨δ, g, _, rs, rg, h, fun x g1 v H1 e1 rg1 rd1 p => ?_⟩
  obtain ⟨q, ds, ex, eg, hlen, p'⟩ := lrC_of p
  subst ex
  cases rd1
  obtain ⟨us, hq, _⟩ := rg1 q _ eg
  refine ⟨q, rfl, .inl ⟨⟨us, .inl (.inl hq)⟩, fun D hD => ?_⟩⟩
  have hD0 : ∀ o, H D = some o → g D = none → ¬ OwnO o → False := fun o q1 n w => by
    have := (e1 D o q1 n w).1
    rw [hD] at this; cases this
  have k1 : Kp H1 (upd H1 D (.lst [])) := Kp.fresh hD
  refine ⟨fun i m H' => m = ds.length - i ∧ i ≤ ds.length ∧ Kp H1 H' ∧ ∃ (acc : List DV) (accV : List V) (g' : DG), Ext g H g' H' ∧ RG K H' g' ∧ g' D = none ∧ H' D = some (.lst accV) ∧ RDs K H' acc accV ∧ acc.length ≤ i ∧
    dCompR q ds tg own tt tel δ (ds.drop i) g' fun ys g2 => P (acc ++ ys) g2, ⟨ds.length, rfl, Nat.zero_le _, k1, [], [], g1, e1.trans (Ext.fresh rg1 hD), rg1.fresh hD, rg1.none hD, upd_same, .nil, Nat.le_refl _, p'⟩, ?_⟩
  rintro i m H2 ⟨rfl, hi, kp2, acc, accV, g2, e2, rg2, gD, hD2, ra, hacc, qq⟩
  by_cases hlt : i < ds.length
  · have hd : ds.drop i = ds[i] :: ds.drop (i + 1) := List.drop_eq_getElem_cons hlt
    rw [hd] at qq
    have q0 : g2 q = some (.lst ds) := qq.1
    obtain ⟨vs, hv, rv⟩ := rg2 q _ q0
    have hl := rv.length
    have q' : (match bindT tg ds[i] (wipeD δ own) with
      | some δ2 => tt δ2 g2 fun b g3 => if b = true then tel δ2 g3 fun y g4 => dCompR q ds tg own tt tel δ (ds.drop (i + 1)) g4 fun ys g5 => P (acc ++ (y :: ys)) g5 else dCompR q ds tg own tt tel δ (ds.drop (i + 1)) g3 fun ys g2 => P (acc ++ ys) g2
      | none => False) := qq.2
    refine .inr ⟨⟨vs, vs[i], .inl (.inl hv), by simp [show i < vs.length by omega]⟩, fun H' => Kp H1 H' ∧ ∃ (acc : List DV) (accV : List V) (g' : DG), Ext g H g' H' ∧ RG K H' g' ∧ g' D = none ∧ H' D = some (.lst accV) ∧ RDs K H' acc accV ∧ acc.length ≤ i + 1 ∧
      dCompR q ds tg own tt tel δ (ds.drop (i + 1)) g' fun ys g2 => P (acc ++ ys) g2, fun H' z => ⟨ds.length - (i + 1), by omega, rfl, hlt, z⟩, fun x H3 y => ?_⟩
    obtain ⟨ey, y⟩ := y
    subst ey
    obtain ⟨v, hvi, rd⟩ := rv.get (show ds[i]? = some ds[i] by simp [hlt])
    have z1 := y vs (.inl (.inl hv))
    rw [hvi] at z1
    cases z1
    have st : Grw H3 H3 := .inl rfl
    split at q'
    · rename_i δ3 eb
      have rg3 := step_rg st rg2
      have e3 := step_ext st rg2
      have rs3 : RS K H3 (wipeD δ own) (wipe σ own) := ((rs.mono (e2.kp rg)).mono (step_kp st)).wipe own
      refine tg_run rd rs3 eb fun σ3 rsT hw => ⟨?_, ?_⟩
      · rw [hw own hix]
        exact wipe_wipe σ own
      · have hD3 : H3 D = some (.lst accV) := (e3 D _ hD2 gD fun z => z).1
        refine ⟨δ3, g2, _, rsT, rg3, q', fun b g4 H4 e4 rg4 z => ?_⟩
        have hD4 := e4 D _ hD3 gD fun z => z
        cases b with
        | false =>
          dsimp only
          rw [if_neg Bool.false_ne_true] at z ⊢
          exact ⟨(kp2.trans (step_kp st)).trans (e4.kp rg3), acc, accV, g4, (e2.trans e3).trans e4, rg4, hD4.2, hD4.1, (ra.mono (step_kp st)).mono (e4.kp rg3), by omega, z⟩
        | true =>
          dsimp only
          rw [if_pos rfl] at z ⊢
          refine ⟨δ3, g4, _, rsT.mono (e4.kp rg3), rg4, z, fun y g5 v H5 e5 rg5 rd5 w => ?_⟩
          have hD5 := e5 D _ hD4.1 hD4.2 fun z => z
          have la := ra.length
          refine ⟨accV, hD5.1, by omega, ?_⟩
          have km : Kp H5 (upd H5 D (.lst (accV ++ [v]))) := Kp.mut (by rw [hD5.1]; exact True.intro)
          refine ⟨(((kp2.trans (step_kp st)).trans (e4.kp rg3)).trans (e5.kp rg4)).trans km, acc ++ [y], accV ++ [v], g5, fun a o ha hn hw => ?_, fun a o ha => ?_, hD5.2, upd_same, ?_, by rw [List.length_append, List.length_singleton]; omega, ?_⟩
          · obtain ⟨z1, z2⟩ := ((e2.trans e3).trans (e4.trans e5)) a o ha hn hw
            refine ⟨?_, z2⟩
            rw [upd_ne (fun q => by subst q; exact hD0 o ha hn hw)]
            exact z1
          · have na : a ≠ D := fun q => by subst q; rw [hD5.2] at ha; cases ha
            exact (rg5 a o ha).keep km (upd_ne na)
          · exact ((((ra.mono (step_kp st)).mono (e4.kp rg3)).mono (e5.kp rg4)).mono km).append (.one (rd5.mono km))
          · have hw2 : (fun ys g2 => P (acc ++ [y] ++ ys) g2) = (fun ys g5 => P (acc ++ (y :: ys)) g5) := by
              funext ys g5
              rw [List.append_assoc]
              rfl
            rw [hw2]
            exact w
    · exact q'.elim
  · have ei : i = ds.length := by omega
    subst ei
    rw [List.drop_length] at qq
    have q0 : g2 q = some (.lst ds) := qq.1
    obtain ⟨vs, hv, rv⟩ := rg2 q _ q0
    have hl := rv.length
    have q' : P (acc ++ []) g2 := qq.2
    rw [List.append_nil] at q'
    exact .inl ⟨⟨vs, .inl (.inl hv), by omega⟩, k D acc accV g2 H2 e2 rg2 gD hD0 hD2 ra q'⟩
theorem pd_lcR (hc : X.calm = true) (hN : X.N.Nodup) (hi : PE X iter (upE X.K ti)) (ok : BlkOk X.N X.env.scope scope own)
    (hg : ∀ (s : Shared) (H : Hp) (C : Addr) (cl : List (Str × Addr)) (fp : List Addr), PG (X.blk s H scope (compEnvC scope cl C X.env) fp) tgx (tgG X.K tg)) (ht : ∀ (s : Shared) (H : Hp) (C : Addr) (cl : List (Str × Addr)) (fp : List Addr), PTs (X.blk s H scope (compEnvC scope cl C X.env) fp) ifs (upT X.K tt))
    (he : ∀ (s : Shared) (H : Hp) (C : Addr) (cl : List (Str × Addr)) (fp : List Addr), PE (X.blk s H scope (compEnvC scope cl C X.env) fp) elt (upE X.K tel)) (hix : ∀ i ∈ tg.ix, i ∈ own.map (·.2) := by decide) (hs : ∀ x, foldedSetIterable iter X.env x = pure x := by intro _; rfl) :
    PE X (.ListComp elt [⟨tgx, iter, ifs, 0⟩] scope pos) (upE X.K (dLcR ti tg (own.map (·.2)) tt tel)) :=
  PE_weak (PE_fz (pe_lc hc hN (pi_seq hi) ok hg ht he hs)) fun σ H Q ⟨δ, g, P, rs, rg, h, k⟩ => lcR_up (P := fun ys g2 => P (.lst ys) g2) hix rs rg h fun D ys vs g' H' e rg' gD hD0 hD rd p =>
    .inr ⟨D, .lst vs, rfl, hD, trivial, fun o => k _ g' _ _ (lock_ext e hD0) (lock_rg rg' gD hD) (.lst ⟨o, upd_same⟩ (rd.mono (Kp.mut (by rw [hD]; exact True.intro)))) p⟩
end
section
variable {δ : DS} {g : DG} {Q : DV → DG → Prop} {a : TDE}
theorem rd_lcR {tg : Tg} {own : List Nat} {tt : TDT} {te : TDE} (h : a δ g fun x g1 => lrC tg own tt te δ (fun ys g2 => Q (.lst ys) g2) x g1) : dLcR a tg own tt te δ g Q := h
theorem rd_lrC {tg : Tg} {own : List Nat} {tt : TDT} {te : TDE} {P : List DV → DG → Prop} {p : Addr} {ds : List DV} (e : g p = some (.lst ds)) (c : ds.length ≤ 16777216) (h : dCompR p ds tg own tt te δ ds g P) : lrC tg own tt te δ P (.ref p) g := by
  unfold lrC; dsimp only; rw [e]; exact ⟨by rw [sizeLine_eq]; exact c, h⟩
theorem compR_map {q : Addr} {all : List DV} {tg : Tg} {own : List Nat} {te : TDE} {f : DV → DV} (e : g q = some (.lst all)) : ∀ {ds : List DV} {P : List DV → DG → Prop},
    (∀ d ∈ ds, ∃ δ2, bindT tg d (wipeD δ own) = some δ2 ∧ ∀ Q2 : DV → DG → Prop, Q2 (f d) g → te δ2 g Q2) → P (ds.map f) g → dCompR q all tg own dYes te δ ds g P
  | [], P, _, hq => ⟨e, hq⟩
  | d :: ds, P, h, hq => by
    obtain ⟨δ2, eb, he⟩ := h d List.mem_cons_self
    unfold dCompR
    refine ⟨e, ?_⟩
    rw [eb]
    dsimp only [dYes]
    rw [if_pos rfl]
    exact he _ (compR_map e (fun d hd => h d (List.mem_cons_of_mem _ hd)) hq)
theorem rd_wsB {ds : List DV} {x : DV} {QA : List DV → DG → Prop} (e : x = .tup ds ∨ x = .lst ds) (h : QA ds g) : wsK QA x g := by rcases e with rfl | rfl <;> exact h
theorem rd_isiT {ds : List DV} {P : DV → Prop} (h : P (.bl true)) : rrIsi [.tup ds, .ty "tuple"] g P := rd_isi (s := "tuple") rfl rfl h
end
end DL

/-! Deep layer AB: bool(x), y in xs, str(i), isinstance of an instance. -/
namespace DL
open PySem PySem.Spec PyProof.Rows L2
/-! ### bool(x) -/
section
variable {X : Cx} {K : Fg} {C f : Addr} {n : Nat} {sp : Sp} {sd : SpD} {EX : XK} {CX : CXT}
/-! ### y in xs, xs a list of content -/
theorem py_any (x : DV) : ∀ ds : List DV, ((pyAll ds).any fun z => PyData.eqv z x.py) = ds.any fun d => eqD d x
  | [] => rfl
  | d :: ds => by
    show (PyData.eqv d.py x.py || (pyAll ds).any _) = _
    rw [py_any x ds]
    rfl
/-! ### str(i) -/
/-! ### isinstance(x, T), T built in, x an instance too -/
end
end DL

/-! Deep layer AC: list(x), x an instance with its own __iter__ (a tuple's iterator) and its own __len__. -/
namespace DL
open PySem PySem.Spec PyProof.Rows L2
theorem RG.more {K : Fg} {H H' : Hp} {g : DG} (k : ∀ b o, H b = some o → H' b = some o) (r : RG K H g) : RG K H' g := fun a o e => by
  have kp : Kp H H' := ⟨fun b xs q => k _ _ q, fun b o u q => k _ _ q, fun b fs q => k _ _ q, fun b n q => k _ _ q⟩
  obtain ⟨u, q, _⟩ := (r a o e).some
  exact (r a o e).keep kp (by rw [q]; exact k _ _ q)
section
variable {X : Cx} {K : Fg} {C f fl : Addr} {n nl i : Nat} {spl : Sp} {sd : SpD}
end
/-! ### reading -/
section
variable {C : Addr} {ds es : List DV} {x y d : DV} {g : DG} {P : DV → Prop} {sd : SpD} {i : Nat}
end
/-! ### sum(xs) of a list or a tuple -/
section
variable {X : Cx} {K : Fg}
def rSumS (K : Fg) : List V → Hp → VK → Prop := fun vs H Q => ∃ (a : Addr) (ns : List Int), vs = [V.ref a] ∧ (SqL K H a (ns.map V.int) ∨ SqT K H a (ns.map V.int)) ∧ Q (.int ns.sum) H
theorem cr_sumS (hc : X.calm = true) : CallR X (.builtin "sum") (rSumS X.K) := by
  intro pins s σ H vs us Q I r h
  obtain ⟨a, ns, rfl, hs, q⟩ := h
  rcases hs with hs | hs
  · exact cr_sum hc pins s σ H [.ref a] us Q I r ⟨a, ns, rfl, hs, q⟩
  · obtain ⟨its, rv, ⟨o, h1, h2, n, h3⟩, hz⟩ := I.tuple hs
    rw [Vals.ref1 r]
    have hi := rv.ints
    have hl : s.heap.IsTuple a its.toArray := ⟨o, h1, h2, n, h3⟩
    obtain ⟨xs, hx⟩ := hi.allInts.items
    have hn : numsOf its.toArray.toList = ns := by rw [show its.toArray.toList = its from rfl, hi.numsOf]
    rw [hx] at hl hn
    rw [nums_intItems] at hn
    refine PySem.W.ktm_sumG (I.ok.hd hc) hl fun h' tk t' hk => ⟨.int ns.sum, H, I.kept hk, ⟨t', ?_⟩, q⟩
    rw [preSum_eq, List.take_of_length_le (by simp), hn]
def rrSumS : RRs := rr1 fun x g P => ∃ ns : List Int, (∃ ds, seqD g x = some ds ∧ intsD ds = some ns) ∧ P (.int ns.sum)
theorem ref_sumS : RefCall K rrSumS (rSumS K) := by
  intro xs P vs H g Q rg r k h
  obtain ⟨x, v, rfl, rfl, rx, ns, ⟨ds, es, ei⟩, h2⟩ := rr1_of r h
  obtain ⟨a, ws, rfl, hq, hr⟩ := seqD_of rg rx es
  rw [intsD_of ei] at hr
  rw [RDs.ints hr] at hq
  exact ⟨a, ns, rfl, hq, .inl (k _ _ H Ext.refl rg (.int _) h2)⟩
theorem rd_sumS {x : DV} {g : DG} {P : DV → Prop} {ns : List Int} (e : seqD g x = some (ns.map DV.int)) (h : P (.int ns.sum)) : rrSumS [x] g P := ⟨ns, ⟨_, e, intsD_map ns⟩, h⟩
end
theorem units65 {k : Nat} {A : Around} (r : Room k A) : A.units + 65 < cLine := by have := r.un; omega
end DL

namespace DL
open PySem L2
abbrev tI (ns : List Int) : DV := .tup (ns.map DV.int)
def leD : DV → Bool
  | .tup [.int i, .int j] => decide (i ≤ j)
  | _ => false
theorem blsD_fun (p : DV → Bool) : ∀ ds : List DV, blsD (ds.map fun d => .bl (p d)) = some (ds.map p)
  | [] => rfl
  | d :: ds => by rw [List.map_cons, blsD, blsD_fun p ds]; rfl
theorem cutD_from (ds : List DV) (k : Nat) : cutD ds (some (k : Int)) none = ds.drop k := by
  unfold cutD
  rw [HT.sIx_nat, HT.sIx_none]
  by_cases h : k ≤ ds.length
  · rw [Nat.min_eq_left h]
    exact List.take_of_length_le (by rw [List.length_drop]; exact Nat.le_refl _)
  · rw [Nat.min_eq_right (by omega), List.drop_eq_nil_of_le (Nat.le_refl _), List.drop_eq_nil_of_le (by omega), List.take_nil]
theorem all_id_map (p : DV → Bool) (ds : List DV) : (ds.map p).all id = ds.all p := by rw [List.all_map]; rfl
theorem zip_ints : ∀ xs ys : List Int, zipD (xs.map DV.int) (ys.map DV.int) = (xs.zip ys).map fun p => .tup [.int p.1, .int p.2]
  | [], _ => rfl
  | _ :: _, [] => rfl
  | x :: xs, y :: ys => by
    show DV.tup [.int x, .int y] :: zipD (xs.map DV.int) (ys.map DV.int) = _
    rw [zip_ints xs ys]
    rfl
theorem pl_ints : ∀ xs : List Int, plAll (xs.map DV.int) = true
  | [] => rfl
  | x :: xs => by rw [List.map_cons, plAll, pl_ints xs]; rfl
theorem pl_tI (xs : List Int) : (tI xs).pl = true := pl_ints xs
theorem zipD_ints_all {f : DV → Bool} {r : Int → Int → Bool} (hf : ∀ i j, f (.tup [.int i, .int j]) = r i j) (xs ys : List Int) : (zipD (xs.map DV.int) (ys.map DV.int)).all f = (xs.zip ys).all fun p => r p.1 p.2 := by
  rw [zip_ints, List.all_map]
  congr 1
  funext p
  exact hf p.1 p.2
/-- 0 ≤ v, so many draws -/
def PotL (n : Nat) (L : List DV) : Prop := ∃ u v k : Int, L = [.int u, .int v, .int k] ∧ 0 ≤ v ∧ v < 2305843009213693952 ∧ 0 ≤ k ∧ k ≤ n
theorem mulW {i j : Int} (h1 : -18446744073709551616 < i) (h2 : i < 18446744073709551616) (h3 : -18446744073709551616 < j) (h4 : j < 18446744073709551616) : CMulW i j :=
  wide_mul (a := 64) (b := 64) (by omega) (by omega) (by decide) (by decide) (by decide)
theorem divW {i j : Int} (h1 : 0 < j) (h2 : j < 18446744073709551616) : CDivW i j := wide_div (b := 64) h1 (by omega) (by decide) (by decide)
theorem atI_ints {ns : List Int} {i : Nat} (h : i < ns.length) : atI (ns.map DV.int) (i : Int) = some (.int ns[i]) := atI_nat (by rw [List.getElem?_map, List.getElem?_eq_getElem h]; rfl)
theorem zipW_map (f : Int → Int → Int) (F : DV → DV) (h : ∀ i j, F (.tup [.int i, .int j]) = .int (f i j)) : ∀ xs ys : List Int, (zipD (xs.map DV.int) (ys.map DV.int)).map F = (List.zipWith f xs ys).map DV.int
  | [], _ => rfl
  | _ :: _, [] => rfl
  | x :: xs, y :: ys => by
    show F (.tup [.int x, .int y]) :: (zipD (xs.map DV.int) (ys.map DV.int)).map F = _
    rw [zipW_map f F h xs ys, h]
    rfl
end DL

namespace DL
open PySem L2
theorem py_ints : ∀ ns : List Int, pyAll (ns.map DV.int) = ns.map PyData.int
  | [] => rfl
  | n :: ns => by rw [List.map_cons, pyAll, py_ints ns]; rfl
theorem lay_is : ∀ ns : List Int, PyData.canLayAll0 (ns.map PyData.int) = true
  | [] => rfl
  | _ :: ns => by simp [PyData.canLayAll0, PyData.canLay0, lay_is ns]
theorem dep_is : ∀ ns : List Int, PyData.depthAll (ns.map PyData.int) = 0
  | [] => rfl
  | _ :: ns => by simp [PyData.depthAll, PyData.depth, dep_is ns]
theorem eqv_is : ∀ ns ms : List Int, PyData.eqvAll (ns.map PyData.int) (ms.map PyData.int) = decide (ns = ms)
  | [], [] => by simp [PyData.eqvAll]
  | [], _ :: _ => by simp [PyData.eqvAll]
  | _ :: _, [] => by simp [PyData.eqvAll]
  | n :: ns, m :: ms => by
    simp only [List.map_cons, PyData.eqvAll, PyData.eqv, eqv_is ns ms]
    by_cases h : n = m <;> by_cases h' : ns = ms <;> simp [h, h']
theorem okD_tI (ns : List Int) : okD (tI ns) = true := by
  unfold okD
  rw [pl_tI, Bool.true_and]
  show SeqAt.shaped (.tuple (pyAll (ns.map DV.int))) = true
  rw [py_ints]
  simp [SeqAt.shaped, PyData.canLay0, PyData.depth, lay_is, dep_is]
theorem eqD_tI (ns ms : List Int) : eqD (tI ns) (tI ms) = decide (ns = ms) := by
  show PyData.eqv (.tuple (pyAll (ns.map DV.int))) (.tuple (pyAll (ms.map DV.int))) = _
  rw [py_ints, py_ints, ← eqv_is]
  simp only [PyData.eqv]
theorem okD_lI (ns : List Int) : okD (.lst (ns.map DV.int)) = true := by
  unfold okD
  rw [show (DV.lst (ns.map DV.int)).pl = true from pl_ints ns, Bool.true_and]
  show SeqAt.shaped (.list (pyAll (ns.map DV.int))) = true
  rw [py_ints]
  simp [SeqAt.shaped, PyData.canLay0, PyData.depth, lay_is, dep_is]
theorem eqD_lI (ns ms : List Int) : eqD (.lst (ns.map DV.int)) (.lst (ms.map DV.int)) = decide (ns = ms) := by
  show PyData.eqv (.list (pyAll (ns.map DV.int))) (.list (pyAll (ms.map DV.int))) = _
  rw [py_ints, py_ints, ← eqv_is]
  simp only [PyData.eqv]
theorem okD_int (i : Int) : okD (.int i) = true := by
  simp [okD, DV.pl, DV.py, SeqAt.shaped, PyData.canLay0, PyData.depth]
theorem eqD_int (i j : Int) : eqD (.int i) (.int j) = decide (i = j) := by
  simp only [eqD, DV.py, PyData.eqv]
  by_cases h : i = j <;> simp [h]
theorem alike_is : ∀ ns ms : List Int, W.alikeAll (ns.map PyData.int) (ms.map PyData.int) = true
  | [], _ => by simp [W.alikeAll]
  | _ :: _, [] => by simp [W.alikeAll]
  | _ :: ns, _ :: ms => by simp [W.alikeAll, W.alike, alike_is ns ms]
theorem py_tI (ns : List Int) : (tI ns).py = .tuple (ns.map PyData.int) := by
  show PyData.tuple (pyAll (ns.map DV.int)) = _
  rw [py_ints]
theorem pl_tIs : ∀ ws : List (List Int), plAll (ws.map tI) = true
  | [] => rfl
  | w :: ws => by rw [List.map_cons, plAll, pl_tIs ws, pl_tI]; rfl
theorem sort_tIs {ws : List (List Int)} (h : ∀ w ∈ ws, w ≠ []) : SortOk (ws.map tI) := by
  refine ⟨pl_tIs ws, ?_, .inl fun d hd => ?_, fun d hd => ?_⟩
  · rw [List.map_map]
    exact W.AllAlike.of fun a b => by
      show W.alike (tI a).py (tI b).py = true
      rw [py_tI, py_tI]
      simp only [W.alike]
      exact alike_is a b
  · obtain ⟨d', h1, e⟩ := List.mem_map.mp hd
    obtain ⟨w, h2, e2⟩ := List.mem_map.mp h1
    subst e e2
    cases w with
    | nil => exact absurd rfl (h _ h2)
    | cons x r => exact ⟨.int x, r.map PyData.int, py_tI _⟩
  · obtain ⟨w, h2, e2⟩ := List.mem_map.mp hd
    subst e2
    rw [py_tI]
    show PyData.depth (.tuple (w.map PyData.int)) ≤ 60
    rw [PyData.depth, dep_is]
    omega
def shortD : DV → Bool
  | .tup ds => decide ((ds.length : Int) ≤ 3)
  | _ => false
def addD (e : DV) : DV → DV
  | .tup ds => .tup (ds ++ [e])
  | d => d
theorem grown (ws : List (List Int)) (i : Int) : ((ws.map tI).filter shortD).map (addD (.int i)) = ((ws.filter fun w => decide (w.length ≤ 3)).map fun w => w ++ [i]).map tI := by
  induction ws with
  | nil => rfl
  | cons w ws ih =>
    rw [List.map_cons, List.filter_cons, List.filter_cons]
    have e : shortD (tI w) = decide (w.length ≤ 3) := by
      show decide (((w.map DV.int).length : Int) ≤ 3) = _
      rw [List.length_map]
      exact decide_eq_decide.mpr (by omega)
    rw [e]
    by_cases c : w.length ≤ 3
    · rw [if_pos (decide_eq_true c), if_pos (decide_eq_true c), List.map_cons, List.map_cons, List.map_cons, ih]
      congr 1
      show DV.tup (w.map DV.int ++ [.int i]) = .tup ((w ++ [i]).map DV.int)
      rw [List.map_append]
      rfl
    · rw [if_neg (by simpa using c), if_neg (by simpa using c)]
      exact ih
end DL

/-! k07, plain: products, lots by their least members. -/
namespace DL
open PySem L2
/-! ### products -/
def dvB (xs ys : List Int) : Bool := (xs.zip ys).all fun p => decide (p.1 ≤ p.2)
def jn (xs ys : List Int) : List Int := List.zipWith max xs ys
def ad (xs ys : List Int) : List Int := List.zipWith (· + ·) xs ys
theorem dvB_cons (x y : Int) (xs ys : List Int) : dvB (x :: xs) (y :: ys) = (decide (x ≤ y) && dvB xs ys) := rfl
theorem dvB_refl : ∀ xs : List Int, dvB xs xs = true
  | [] => rfl
  | x :: xs => by rw [dvB_cons, dvB_refl xs, decide_eq_true (Int.le_refl x)]; rfl
theorem dvB_trans : ∀ {xs ys zs : List Int}, xs.length = ys.length → ys.length = zs.length → dvB xs ys = true → dvB ys zs = true → dvB xs zs = true
  | [], _, _, _, _, _, _ => rfl
  | _ :: _, [], _, h, _, _, _ => by cases h
  | _ :: _, _ :: _, [], _, h, _, _ => by cases h
  | x :: xs, y :: ys, z :: zs, h1, h2, h3, h4 => by
    rw [dvB_cons, Bool.and_eq_true, decide_eq_true_eq] at h3 h4 ⊢
    exact ⟨Int.le_trans h3.1 h4.1, dvB_trans (by simpa using h1) (by simpa using h2) h3.2 h4.2⟩
theorem sum_le_of_dv : ∀ {xs ys : List Int}, xs.length = ys.length → dvB xs ys = true → xs.sum ≤ ys.sum
  | [], [], _, _ => Int.le_refl _
  | [], _ :: _, h, _ => by cases h
  | _ :: _, [], h, _ => by cases h
  | x :: xs, y :: ys, h, h1 => by
    rw [dvB_cons, Bool.and_eq_true, decide_eq_true_eq] at h1
    have := sum_le_of_dv (by simpa using h) h1.2
    rw [List.sum_cons, List.sum_cons]
    omega
theorem sum_lt_of_dv : ∀ {xs ys : List Int}, xs.length = ys.length → dvB xs ys = true → xs ≠ ys → xs.sum < ys.sum
  | [], [], _, _, h => absurd rfl h
  | [], _ :: _, h, _, _ => by cases h
  | _ :: _, [], h, _, _ => by cases h
  | x :: xs, y :: ys, h, h1, h2 => by
    rw [dvB_cons, Bool.and_eq_true, decide_eq_true_eq] at h1
    rw [List.sum_cons, List.sum_cons]
    have hl : xs.length = ys.length := by simpa using h
    by_cases e : xs = ys
    · have : x ≠ y := fun z => h2 (by rw [z, e])
      rw [e]; omega
    · have := sum_lt_of_dv hl h1.2 e
      omega
theorem sum_nonneg' : ∀ {xs : List Int}, (∀ x ∈ xs, 0 ≤ x) → 0 ≤ xs.sum
  | [], _ => Int.le_refl _
  | x :: xs, h => by
    rw [List.sum_cons]
    have := h x List.mem_cons_self
    have := sum_nonneg' fun y hy => h y (List.mem_cons_of_mem _ hy)
    omega
/-- products in n letters -/
def Prods (n : Nat) (B : Int) (L : List (List Int)) : Prop := ∀ m ∈ L, m.length = n ∧ ∀ x ∈ m, 0 ≤ x ∧ x ≤ B
theorem Prods.mono {n : Nat} {B B' : Int} {L : List (List Int)} (h : Prods n B L) (hb : B ≤ B') : Prods n B' L := fun m hm => ⟨(h m hm).1, fun x hx => ⟨((h m hm).2 x hx).1, Int.le_trans ((h m hm).2 x hx).2 hb⟩⟩
theorem Prods.sub {n : Nat} {B : Int} {L M : List (List Int)} (h : Prods n B L) (s : ∀ m ∈ M, m ∈ L) : Prods n B M := fun m hm => h m (s m hm)
theorem Prods.append {n : Nat} {B : Int} {L M : List (List Int)} (h : Prods n B L) (h' : Prods n B M) : Prods n B (L ++ M) := fun m hm => (List.mem_append.mp hm).elim (h m) (h' m)
/-! ### least members -/
def Up (L : List (List Int)) (p : List Int) : Prop := ∃ m ∈ L, dvB m p = true
def Lst (L : List (List Int)) (m : List Int) : Prop := m ∈ L ∧ ∀ k ∈ L, dvB k m = true → k = m
structure IsLeast (L M : List (List Int)) : Prop where
  asc : M.Pairwise (· < ·)
  mem : ∀ m, m ∈ M ↔ Lst L m
theorem lt_irr (a : List Int) : ¬ a < a := List.lt_irrefl a
theorem asc_unique : ∀ {M N : List (List Int)}, M.Pairwise (· < ·) → N.Pairwise (· < ·) → (∀ x, x ∈ M ↔ x ∈ N) → M = N
  | [], [], _, _, _ => rfl
  | [], b :: N, _, _, h => by have := (h b).mpr List.mem_cons_self; cases this
  | a :: M, [], _, _, h => by have := (h a).mp List.mem_cons_self; cases this
  | a :: M, b :: N, h1, h2, h => by
    obtain ⟨a1, a2⟩ := List.pairwise_cons.mp h1
    obtain ⟨b1, b2⟩ := List.pairwise_cons.mp h2
    have e : a = b := by
      rcases List.mem_cons.mp ((h a).mp List.mem_cons_self) with e | ha
      · exact e
      · rcases List.mem_cons.mp ((h b).mpr List.mem_cons_self) with e | hb
        · exact e.symm
        · exact absurd (List.lt_trans (a1 b hb) (b1 a ha)) (lt_irr a)
    subst e
    congr 1
    refine asc_unique a2 b2 fun x => ⟨fun hx => ?_, fun hx => ?_⟩
    · rcases List.mem_cons.mp ((h x).mp (List.mem_cons_of_mem _ hx)) with e | hx'
      · subst e; exact absurd (a1 x hx) (lt_irr x)
      · exact hx'
    · rcases List.mem_cons.mp ((h x).mpr (List.mem_cons_of_mem _ hx)) with e | hx'
      · subst e; exact absurd (b1 x hx) (lt_irr x)
      · exact hx'
theorem IsLeast.uniq {L M N : List (List Int)} (h : IsLeast L M) (h' : IsLeast L N) : M = N := asc_unique h.asc h'.asc fun x => (h.mem x).trans (h'.mem x).symm
theorem IsLeast.sub {L M : List (List Int)} (h : IsLeast L M) : ∀ m ∈ M, m ∈ L := fun m hm => ((h.mem m).mp hm).1
theorem IsLeast.prods {n : Nat} {B : Int} {L M : List (List Int)} (h : IsLeast L M) (hp : Prods n B L) : Prods n B M := hp.sub h.sub
/-- below each product of L stands a least one -/
theorem least_below {n : Nat} {B : Int} {L : List (List Int)} (hp : Prods n B L) : ∀ (k : Nat) (m : List Int), m ∈ L → m.sum.toNat ≤ k → ∃ x, Lst L x ∧ dvB x m = true
  | k, m, hm, hk => by
    by_cases h : ∀ j ∈ L, dvB j m = true → j = m
    · exact ⟨m, ⟨hm, h⟩, dvB_refl m⟩
    · obtain ⟨j, hj⟩ := Classical.not_forall.mp h
      obtain ⟨hjL, h2⟩ := Classical.not_imp.mp hj
      obtain ⟨hd, hne⟩ := Classical.not_imp.mp h2
      have hlt := sum_lt_of_dv ((hp j hjL).1.trans (hp m hm).1.symm) hd hne
      have h0 := sum_nonneg' fun x hx => ((hp j hjL).2 x hx).1
      cases k with
      | zero => omega
      | succ k =>
        obtain ⟨x, hx, hxd⟩ := least_below hp k j hjL (by omega)
        exact ⟨x, hx, dvB_trans ((hp x hx.1).1.trans (hp j hjL).1.symm) ((hp j hjL).1.trans (hp m hm).1.symm) hxd hd⟩
theorem least_up {n : Nat} {B : Int} {L M : List (List Int)} (h : IsLeast L M) (hp : Prods n B L) {p : List Int} (hl : p.length = n) : Up M p ↔ Up L p := by
  constructor
  · rintro ⟨m, hm, hd⟩; exact ⟨m, h.sub m hm, hd⟩
  · rintro ⟨m, hm, hd⟩
    obtain ⟨x, hx, hxd⟩ := least_below hp _ m hm (Nat.le_refl _)
    exact ⟨x, (h.mem x).mpr hx, dvB_trans ((hp x hx.1).1.trans (hp m hm).1.symm) ((hp m hm).1.trans hl.symm) hxd hd⟩
/-- a lot's least members are their own -/
theorem least_self {L M : List (List Int)} (h : IsLeast L M) : IsLeast M M := ⟨h.asc, fun m => ⟨fun hm => ⟨hm, fun k hk => ((h.mem m).mp hm).2 k (h.sub k hk)⟩, fun hm => hm.1⟩⟩
/-! ### sums, meets, products -/
def pairs (f : List Int → List Int → List Int) (L M : List (List Int)) : List (List Int) := L.flatMap fun l => M.map fun m => f l m
end DL

/-! k07, plain: the order of products, how least members are found. -/
namespace DL
open PySem L2
theorem dle_tuI (a b : List Int) : dleD (tuI a) (tuI b) = decide (a ≤ b) := by
  unfold dleD
  rw [show (tuI b).py = .tuple (b.map PyData.int) from py_tI b, show (tuI a).py = .tuple (a.map PyData.int) from py_tI a, W.dataLt_tuple]
  have e := W.dataLt_ints b a
  unfold W.rowLt at e
  rw [e]
  by_cases h : b < a
  · rw [decide_eq_true h, decide_eq_false (fun z => z h)]; rfl
  · rw [decide_eq_false h, decide_eq_true (show a ≤ b from h)]; rfl
/-- sorted without twins: strictly -/
theorem asc_of_sort {L : List (List Int)} (nd : L.Nodup) : (L.mergeSort fun a b => decide (a ≤ b)).Pairwise (· < ·) := by
  have hs : (L.mergeSort fun a b => decide (a ≤ b)).Pairwise fun a b => decide (a ≤ b) = true :=
    List.pairwise_mergeSort (fun a b c h1 h2 => by
      rw [decide_eq_true_eq] at h1 h2 ⊢; exact List.le_trans h1 h2) (fun a b => by
      rw [Bool.or_eq_true, decide_eq_true_eq, decide_eq_true_eq]; exact List.le_total a b) L
  have hn : (L.mergeSort fun a b => decide (a ≤ b)).Nodup := (List.mergeSort_perm L _).nodup_iff.mpr nd
  refine (hs.and hn).imp fun {a b} h => ?_
  have h1 := of_decide_eq_true h.1
  rcases Classical.em (a < b) with q | q
  · exact q
  · exact absurd (List.le_antisymm h1 q) h.2
theorem sort_tuI (L : List (List Int)) : (L.map tuI).mergeSort dleD = (L.mergeSort fun a b => decide (a ≤ b)).map tuI :=
  (List.map_mergeSort (r := fun a b => decide (a ≤ b)) (s := dleD) (f := tuI) (l := L) fun a _ b _ => (dle_tuI a b).symm).symm
theorem code_lt_of {B : Int} : ∀ {a b : List Int}, a.length = b.length → TS.Bd B a → TS.Bd B b → a < b → TS.code B a < TS.code B b
  | [], [], _, _, _, h => absurd h (lt_irr [])
  | [], _ :: _, h, _, _, _ => by cases h
  | _ :: _, [], h, _, _, _ => by cases h
  | x :: a, y :: b, hl, ha, hb, h => by
    have hl' : a.length = b.length := by simpa using hl
    rcases List.cons_lt_cons_iff.mp h with h1 | ⟨h0, h1⟩
    · exact TS.code_lt hl' ha.tail hb.tail h1
    · have := code_lt_of hl' ha.tail hb.tail h1
      rw [h0]
      show y * B ^ a.length + TS.code B a < y * B ^ b.length + TS.code B b
      rw [hl']
      omega
theorem asc_of_code {B : Int} {n : Nat} {M : List (List Int)} (nd : M.Nodup) (hB : ∀ k ∈ M, k.length = n ∧ TS.Bd B k) (h : M.Pairwise fun p q => TS.code B p ≤ TS.code B q) : M.Pairwise (· < ·) := by
  have h2 : M.Pairwise fun p q => TS.code B p ≤ TS.code B q ∧ p ≠ q := h.and nd
  refine List.Pairwise.imp_of_mem (fun {a b} ha hb hab => ?_) h2
  rcases Classical.em (a < b) with q | q
  · exact q
  · have hba : b < a := by
      rcases Classical.em (b < a) with z | z
      · exact z
      · exact absurd (List.le_antisymm z q) hab.2
    have := code_lt_of ((hB b hb).1.trans (hB a ha).1.symm) (hB b hb).2 (hB a ha).2 hba
    omega
/-- as many as that, without twins -/
theorem nodup_len {α : Type} [DecidableEq α] : ∀ {M L : List α}, M.Nodup → (∀ m ∈ M, m ∈ L) → M.length ≤ L.length
  | [], _, _, _ => Nat.zero_le _
  | a :: M, L, nd, s => by
    obtain ⟨h1, h2⟩ := List.nodup_cons.mp nd
    have ha := s a List.mem_cons_self
    have := nodup_len (M := M) (L := L.erase a) h2 fun m hm => (List.mem_erase_of_ne (fun e => h1 (by rw [← e]; exact hm))).mpr (s m (List.mem_cons_of_mem _ hm))
    rw [List.length_erase_of_mem ha] at this
    have := List.length_pos_of_mem ha
    rw [List.length_cons]
    omega
/-! ### a lot -/
/-! ### once, found -/
def minB (L : List (List Int)) (m : List Int) : Bool := L.all fun k => !dvB k m || decide (k = m)
theorem minB_iff {L : List (List Int)} {m : List Int} : minB L m = true ↔ ∀ k ∈ L, dvB k m = true → k = m := by
  unfold minB
  rw [List.all_eq_true]
  refine forall_congr' fun k => forall_congr' fun _ => ?_
  cases dvB k m <;> simp
/-- the next one is taken if no one taken divides it -/
theorem greedy {n : Nat} {B : Int} {O : List (List Int)} (hp : Prods n B O) (nd : O.Nodup) (hs : O.Pairwise fun a b => a.sum ≤ b.sum) {i : Nat} {x : List Int} (hx : O[i]? = some x) :
    (((O.take i).filter (minB O)).any fun f => dvB f x) = !minB O x := by
  have hxO : x ∈ O := List.mem_of_getElem? hx
  have hi : i < O.length := (List.getElem?_eq_some_iff.mp hx).1
  have hxe : O[i] = x := by rw [List.getElem?_eq_getElem hi] at hx; exact Option.some.inj hx
  cases hm : minB O x with
  | true =>
    rw [Bool.not_true, List.any_eq_false]
    intro f hf hd
    obtain ⟨h1, _⟩ := List.mem_filter.mp hf
    have e := minB_iff.mp hm f (List.mem_of_mem_take h1) hd
    subst e
    obtain ⟨j, hj, ej⟩ := List.getElem_of_mem h1
    rw [List.getElem_take] at ej
    rw [List.length_take] at hj
    have := (List.pairwise_iff_getElem.mp nd) j i (by omega) hi (by omega)
    exact this (ej.trans hxe.symm)
  | false =>
    rw [Bool.not_false, List.any_eq_true]
    have h : ¬ ∀ k ∈ O, dvB k x = true → k = x := fun z => by rw [minB_iff.mpr z] at hm; cases hm
    obtain ⟨k, hk⟩ := Classical.not_forall.mp h
    obtain ⟨hkO, h2⟩ := Classical.not_imp.mp hk
    obtain ⟨hd, hne⟩ := Classical.not_imp.mp h2
    obtain ⟨y, hy, hyd⟩ := least_below hp _ k hkO (Nat.le_refl _)
    have ly := (hp y hy.1).1
    have lk := (hp k hkO).1
    have lx := (hp x hxO).1
    have hyx := dvB_trans (ly.trans lk.symm) (lk.trans lx.symm) hyd hd
    have s1 := sum_le_of_dv (ly.trans lk.symm) hyd
    have s2 := sum_lt_of_dv (lk.trans lx.symm) hd hne
    refine ⟨y, List.mem_filter.mpr ⟨?_, minB_iff.mpr hy.2⟩, hyx⟩
    obtain ⟨j, hj, ej⟩ := List.getElem_of_mem hy.1
    have hji : j < i := by
      rcases Nat.lt_trichotomy j i with q | q | q
      · exact q
      · subst q; rw [hxe] at ej; subst ej; omega
      · have := (List.pairwise_iff_getElem.mp hs) i j hi hj q
        rw [hxe, ej] at this
        omega
    rw [← ej]
    exact List.mem_take_iff_getElem.mpr ⟨j, by omega, rfl⟩
theorem found_least {L O : List (List Int)} (nd : O.Nodup) (e : ∀ k, k ∈ O ↔ k ∈ L) : IsLeast L ((O.filter (minB O)).mergeSort fun a b => decide (a ≤ b)) := by
  refine ⟨asc_of_sort (nd.sublist List.filter_sublist), fun m => ?_⟩
  rw [(List.mergeSort_perm _ _).mem_iff, List.mem_filter, minB_iff]
  constructor
  · rintro ⟨h1, h2⟩; exact ⟨(e m).mp h1, fun k hk => h2 k ((e k).mpr hk)⟩
  · rintro ⟨h1, h2⟩; exact ⟨(e m).mpr h1, fun k hk => h2 k ((e k).mp hk)⟩
/-! ### {one: True for one in products} -/
theorem putKs_nodup {α : Type} [DecidableEq α] {ks : List α} {k : α} (h : ks.Nodup) : (putKs ks k).Nodup := by
  unfold putKs
  split
  · exact h
  · rename_i q
    rw [List.nodup_append]
    exact ⟨h, by simp, fun a ha b hb e => by rw [List.mem_singleton.mp hb] at e; subst e; exact q ha⟩
theorem putKs_mem {α : Type} [DecidableEq α] {ks : List α} {k x : α} : x ∈ putKs ks k ↔ x ∈ ks ∨ x = k := by
  unfold putKs
  split
  · rename_i q
    exact ⟨.inl, fun h => h.elim id fun e => by rw [e]; exact q⟩
  · rw [List.mem_append, List.mem_singleton]
theorem putKs_len {α : Type} [DecidableEq α] (ks : List α) (k : α) : (putKs ks k).length ≤ ks.length + 1 := by
  unfold putKs
  split
  · omega
  · rw [List.length_append, List.length_singleton]; omega
theorem foldK {α : Type} [DecidableEq α] : ∀ (L ks : List α), ks.Nodup → (L.foldl putKs ks).Nodup ∧ (∀ x, x ∈ L.foldl putKs ks ↔ x ∈ ks ∨ x ∈ L) ∧ (L.foldl putKs ks).length ≤ ks.length + L.length
  | [], ks, h => ⟨h, fun x => by simp, by simp⟩
  | a :: L, ks, h => by
    obtain ⟨h1, h2, h3⟩ := foldK L (putKs ks a) (putKs_nodup h)
    refine ⟨h1, fun x => ?_, ?_⟩
    · rw [List.foldl_cons, h2, putKs_mem, List.mem_cons, or_assoc]
    · rw [List.foldl_cons, List.length_cons]
      have := putKs_len ks a
      omega
theorem keyI_inj {a b : List Int} (h : a.map (Sum.inl : Int → Key) = b.map Sum.inl) : a = b := by
  have := congrArg (List.map fun k : Key => match k with | .inl i => i | .inr _ => 0) h
  rw [List.map_map, List.map_map] at this
  simpa [Function.comp_def] using this
theorem foldK_map : ∀ (L ks : List (List Int)), (L.map (·.map (Sum.inl : Int → Key))).foldl putKs (ks.map (·.map Sum.inl)) = (L.foldl putKs ks).map (·.map Sum.inl)
  | [], _ => rfl
  | a :: L, ks => by
    rw [List.map_cons, List.foldl_cons, List.foldl_cons, ← foldK_map L]
    congr 1
    unfold putKs
    have e : (a.map (Sum.inl : Int → Key) ∈ ks.map (·.map Sum.inl)) ↔ a ∈ ks := by
      rw [List.mem_map]
      exact ⟨fun ⟨b, hb, he⟩ => by rw [← keyI_inj he]; exact hb, fun h => ⟨a, h, rfl⟩⟩
    by_cases q : a ∈ ks
    · rw [if_pos (e.mpr q), if_pos q]
    · rw [if_neg (fun z => q (e.mp z)), if_neg q, List.map_append]; rfl
def onceL (L : List (List Int)) : List (List Int) := (L.foldl putKs []).mergeSort (leK List.sum)
theorem onceL_mem (L : List (List Int)) (k : List Int) : k ∈ onceL L ↔ k ∈ L := by
  unfold onceL
  rw [(List.mergeSort_perm _ _).mem_iff, (foldK L [] List.nodup_nil).2.1]
  simp
theorem onceL_nodup (L : List (List Int)) : (onceL L).Nodup := (List.mergeSort_perm _ _).nodup_iff.mpr (foldK L [] List.nodup_nil).1
theorem onceL_len (L : List (List Int)) : (onceL L).length ≤ L.length := by
  unfold onceL
  rw [List.length_mergeSort]
  have := (foldK L [] List.nodup_nil).2.2
  simpa using this
theorem onceL_sorted (L : List (List Int)) : (onceL L).Pairwise fun a b => a.sum ≤ b.sum := by
  have h : (onceL L).Pairwise fun a b => leK List.sum a b = true := List.pairwise_mergeSort (fun a b c h1 h2 => by
      unfold leK at *
      rw [decide_eq_true_eq] at *; omega) (fun a b => by
      unfold leK
      rw [Bool.or_eq_true, decide_eq_true_eq, decide_eq_true_eq]; omega) _
  exact h.imp fun {a b} h => of_decide_eq_true h
def leastL (L : List (List Int)) : List (List Int) := ((onceL L).filter (minB (onceL L))).mergeSort fun a b => decide (a ≤ b)
theorem leastL_is (L : List (List Int)) : IsLeast L (leastL L) := found_least (onceL_nodup L) (onceL_mem L)
end DL

/-! Deep layer AD: dicts with tuples as keys: looks, stores, walks. -/
namespace DL
open PySem PySem.Spec PyProof.Rows L2
/-! ### keys -/
def keyD : Key → DV
  | .inl i => .int i
  | .inr x => .str x
theorem keyD_rd {K : Fg} {H : Hp} : ∀ k : Key, RD K H (keyD k) (kV k)
  | .inl i => .int i
  | .inr x => .str x
/-! ### what a dict holds -/
def valD {κ : Type} [DecidableEq κ] : List κ → List DV → κ → Option DV
  | k' :: ks, d :: ds, k => if k' = k then some d else valD ks ds k
  | _, _, _ => none
theorem valD_rd {κ : Type} [DecidableEq κ] {K : Fg} {H : Hp} {k : κ} : ∀ {kvs : List (κ × V)} {ds : List DV}, RDs K H ds (kvs.map (·.2)) →
    (∀ d, valD (kvs.map (·.1)) ds k = some d → ∃ v, valV kvs k = some v ∧ RD K H d v) ∧ (valD (kvs.map (·.1)) ds k = none → valV kvs k = none)
  | [], _, h => by
    cases h
    exact ⟨fun d e => (by simp [valD] at e), fun _ => rfl⟩
  | p :: t, _, h => by
    cases h with
    | cons h1 h2 =>
      obtain ⟨i1, i2⟩ := valD_rd (k := k) h2
      rw [List.map_cons]
      unfold valD
      by_cases z : p.1 = k
      · rw [if_pos z, valV_pos z]
        exact ⟨fun d e => by cases e; exact ⟨_, rfl, h1⟩, fun e => by cases e⟩
      · rw [if_neg z, valV_neg z]
        exact ⟨i1, i2⟩
def dctT (g : DG) : DV → Option (List (List Key) × List DV)
  | .dT ks ds => some (ks, ds)
  | .ref p => match g p with | some (.dT ks ds) => some (ks, ds) | _ => none
  | _ => none
theorem dctT_of {K : Fg} {H : Hp} {g : DG} {d : DV} {v : V} {ks : List (List Key)} {ds : List DV} (rg : RG K H g) (r : RD K H d v) (h : dctT g d = some (ks, ds)) :
    ∃ a kvs, v = .ref a ∧ Rd H a (.dT kvs) ∧ kvs.map (·.1) = ks ∧ RDs K H ds (kvs.map (·.2)) := by
  cases r with
  | dT hs hr =>
    cases h
    obtain ⟨o, kvs, e, e1, e2⟩ := hs
    exact ⟨_, kvs, rfl, .inr ⟨o, e⟩, e1, by rw [e2]; exact hr⟩
  | ref a =>
    unfold dctT at h
    split at h <;> first | cases h | skip
    all_goals (try (rename_i q; cases q))
    all_goals (split at h <;> first | (cases h; rename_i e; obtain ⟨kvs, q, e1, rd⟩ := rg _ _ e; exact ⟨_, kvs, rfl, .inl q, e1, rd⟩) | cases h)
  | _ => cases h
/-- x's entry at y -/
def atD (g : DG) (x y : DV) : Option (Option DV) := match dctT g x with
  | some (ks, ds) => (match keyT y with | some k => some (valD ks ds k) | none => none)
  | none => (match dctK g x with | some (ks, ds) => (match keyK y with | some k => some (valD ks ds k) | none => none) | none => none)
theorem atD_of {K : Fg} {H : Hp} {g : DG} {x y : DV} {v u : V} {o : Option DV} (rg : RG K H g) (rx : RD K H x v) (ry : RD K H y u) (h : atD g x y = some o) :
    ∃ a w, v = .ref a ∧ DGet H a u w ∧ (∀ d, o = some d → ∃ z, w = some z ∧ RD K H d z) ∧ (o = none → w = none) := by
  unfold atD at h
  cases e1 : dctT g x with
  | some p =>
    obtain ⟨ks, ds⟩ := p
    rw [e1] at h
    dsimp only at h
    cases e2 : keyT y with
    | none => rw [e2] at h; cases h
    | some k =>
      rw [e2] at h; cases h
      obtain ⟨a, kvs, rfl, hd, ek, rd⟩ := dctT_of rg rx e1
      obtain ⟨b, rfl, hb⟩ := keyT_of ry e2
      subst ek
      obtain ⟨i1, i2⟩ := valD_rd (k := k) rd
      exact ⟨a, valV kvs k, rfl, .inr ⟨kvs, k, b, hd, rfl, hb, rfl⟩, i1, i2⟩
  | none =>
    rw [e1] at h
    dsimp only at h
    cases e3 : dctK g x with
    | none => rw [e3] at h; cases h
    | some p =>
      obtain ⟨ks, ds⟩ := p
      rw [e3] at h
      dsimp only at h
      cases e2 : keyK y with
      | none => rw [e2] at h; cases h
      | some k =>
        rw [e2] at h; cases h
        obtain ⟨a, kvs, rfl, hd, ek, rd⟩ := dctK_of rg rx e3
        subst ek
        obtain ⟨i1, i2⟩ := valD_rd (k := k) rd
        exact ⟨a, valV kvs k, rfl, .inl ⟨kvs, k, hd, keyK_of ry e2, rfl⟩, i1, i2⟩
section
variable {X : Cx} {K : Fg} {pos : Pos} {o i e f value : Expr} {td ty tv tx : TDE}
/-! ### d[k], d.get(k, x), k in d -/
def dGet (td ty : TDE) : TDE := fun δ g Q => td δ g fun x g1 => ty δ g1 fun y g2 => ∃ d, atD g2 x y = some (some d) ∧ Q d g2
theorem pd_dget (hu : X.A.units + 64 < cLine) (ho : PE X o (upE X.K td)) (hi : PE X i (upE X.K ty)) (hs : NoSl i := by intro _ _; rfl) : PE X (.Subscript o i pos) (upE X.K (dGet td ty)) := by
  refine PE_weak (pe_dget (by omega) ho hi hs) fun σ H Q ⟨δ, g, P, rs, rg, h, k⟩ => ⟨δ, g, _, rs, rg, h, fun x g1 v H1 e1 rg1 rx h1 => ⟨δ, g1, _, rs.mono (e1.kp rg), rg1, h1, fun y g2 u H2 e2 rg2 ry ⟨d, ed, h2⟩ => ?_⟩⟩
  obtain ⟨a, w, ev, hg, i1, _⟩ := atD_of rg2 (rx.mono (e2.kp rg1)) ry ed
  obtain ⟨z, ew, rz⟩ := i1 d rfl
  subst ew
  exact ⟨a, z, ev, hg, k _ _ _ _ (e1.trans e2) rg2 rz h2⟩
def isDct (g : DG) (x : DV) : Bool := (dctT g x).isSome || (dctK g x).isSome
theorem isDct_of {H : Hp} {g : DG} {x : DV} {v : V} (rg : RG K H g) (rx : RD K H x v) (h : isDct g x = true) : ∃ a, v = .ref a ∧ IsD H a := by
  unfold isDct at h
  rw [Bool.or_eq_true] at h
  rcases h with h | h
  · obtain ⟨⟨ks, ds⟩, e⟩ := Option.isSome_iff_exists.mp h
    obtain ⟨a, kvs, rfl, hd, _⟩ := dctT_of rg rx e
    exact ⟨a, rfl, .inr ⟨kvs, hd⟩⟩
  · obtain ⟨⟨ks, ds⟩, e⟩ := Option.isSome_iff_exists.mp h
    obtain ⟨a, kvs, rfl, hd, _⟩ := dctK_of rg rx e
    exact ⟨a, rfl, .inl ⟨kvs, hd⟩⟩
def dGet2 (td ty tx : TDE) : TDE := fun δ g Q => td δ g fun x g1 => isDct g1 x = true ∧ ty δ g1 fun y g2 => tx δ g2 fun z g3 => ∃ r, atD g3 x y = some r ∧ Q (r.getD z) g3
theorem pd_dget2 {apos cpos : Pos} (hu : X.A.units + 64 < cLine) (ho : PE X o (upE X.K td)) (he : PE X e (upE X.K ty)) (hf : PE X f (upE X.K tx)) 
    (m1 : attributeBase o "get" X.env (eval o X.env) = eval o X.env := by rfl) (m2 : ((backTo cpos (starEach [e, f] X.env)).all (fun x => !x.1) && (backToKw cpos (keywordEach [] X.env)).all (fun x => x.1.isSome) && decide (([e, f] : List Expr).length + ([] : List Keyword).length + (if ([] : List Keyword).isEmpty then 0 else 1) < 30)) = true := by rfl)
    (m3 : (apos.endLine == cpos.line) = true := by rfl) (m4 : backTo cpos (starEach [e, f] X.env) = [(false, eval e X.env), (false, eval f X.env)] := by rfl) :
    PE X (.Call (.Attribute o "get" apos) [e, f] [] cpos) (upE X.K (dGet2 td ty tx)) := by
  refine PE_weak (pe_dget2 (by omega) ho he hf ⟨m1, m2, m3, m4⟩) fun σ H Q ⟨δ, g, P, rs, rg, h, k⟩ => ⟨δ, g, _, rs, rg, h, fun x g1 v H1 e1 rg1 rx ⟨hd, h1⟩ => ?_⟩
  obtain ⟨a, rfl, isd⟩ := isDct_of rg1 rx hd
  refine ⟨a, rfl, isd, δ, g1, _, rs.mono (e1.kp rg), rg1, h1, fun y g2 u H2 e2 rg2 ry h2 => ⟨δ, g2, _, rs.mono ((e1.trans e2).kp rg), rg2, h2, fun z g3 t H3 e3 rg3 rz ⟨r, er, h3⟩ => ?_⟩⟩
  obtain ⟨a', w, ev, hg, i1, i2⟩ := atD_of rg3 ((rx.mono (e2.kp rg1)).mono (e3.kp rg2)) (ry.mono (e3.kp rg2)) er
  cases ev
  refine ⟨w, hg, ?_⟩
  cases r with
  | none => rw [i2 rfl]; exact k _ _ _ _ ((e1.trans e2).trans e3) rg3 rz h3
  | some d =>
    obtain ⟨q, ew, rq⟩ := i1 d rfl
    rw [ew]
    exact k _ _ _ _ ((e1.trans e2).trans e3) rg3 rq h3
/-! ### d[k] = v -/
/-! ### {} -/
/-! ### for k in d -/
/-! ### list(d), len(d) -/
/-! ### gcd -/
/-! ### bool(d) -/
end
end DL

/-! Deep layer AE: == of dicts with tuples as keys, alone or in tuples and lists. -/
namespace DL
open PySem PySem.Spec PyProof.Rows L2
open PySem.SeqAt (EqIn EqAt rcIn_lists rcIn_tuples)
section
variable {prog : Program} {w : World} {K : Type} [DecidableEq K] {knd : HeapKind prog w K} {A : Around} {E : Value → Shared → Prop} {s : Shared}
end
end DL

/-! Deep layer AF: sorted(..) of tuples of ints of any lengths, () too. -/
namespace PySem.W
open PySem PySem.SeqAt PySem.Calls PyProof.Rows
section
variable {prog : Program} {w : World} {A : Around} {E : Value → Shared → Prop} {s : Shared}
end
end PySem.W

namespace DL
open PySem PySem.Spec PyProof.Rows L2
section
variable {X : Cx} {pinz : List (Addr × Obj)} {σ : L2.St} {H : Hp} {s : Shared} {a : Addr} {L : List (List Int)} {K : Fg}
end
end DL

/-! Deep layer AG: == and != where dicts with tuples as keys stand, alone or in tuples and lists; bool, len, copies of such dicts. -/
namespace DL
open PySem PySem.Spec PyProof.Rows L2
open PySem.SeqAt (EqIn EqAt rcIn_lists rcIn_tuples)
/-- the number at a key -/
def lookI {κ : Type} [DecidableEq κ] : List κ → List Int → κ → Option Int
  | k' :: ks, n :: ns, k => if k' = k then some n else lookI ks ns k
  | _, _, _ => none
theorem lookI_val {κ : Type} [DecidableEq κ] {k : κ} : ∀ {kvs : List (κ × V)} {ns : List Int}, kvs.map (·.2) = ns.map V.int → valV kvs k = (lookI (kvs.map (·.1)) ns k).map V.int
  | [], ns, h => by cases ns <;> rfl
  | p :: t, [], h => by cases h
  | p :: t, n :: ns, h => by
    rw [List.map_cons, List.map_cons] at h
    obtain ⟨h1, h2⟩ := List.cons.inj h
    rw [List.map_cons]
    unfold lookI
    by_cases z : p.1 = k
    · rw [if_pos z, valV_pos z, h1]; rfl
    · rw [if_neg z, valV_neg z, lookI_val h2]
section
variable {K : Fg} {H : Hp}
end
section
variable {X : Cx} {pins : List (Addr × Obj)} {σ : L2.St} {H : Hp} {s : Shared}
/-! ### d != e -/
end
end DL

/-! Deep layer AH: dict(d), dict(pairs), bool(d), max(xs, default=d), -x of an instance, defaults. -/
namespace DL
open PySem PySem.Spec PyProof.Rows L2
section
variable {prog : Program} {w : World} {A : Around} {E : Value → Shared → Prop} {s : Shared}
end
section
variable {X : Cx} {K : Fg} {pins : List (Addr × Obj)} {σ : L2.St} {H : Hp} {s : Shared}
/-! ### dict(pairs) -/
/-! ### bool(d), len(d) -/
end
section
variable {prog : Program} {w : World} {A : Around} {E : Value → Shared → Prop} {s : Shared}
end
section
variable {X : Cx} {K : Fg}
end
end DL

/-! Deep layer AI: max(xs, default=d), -x of an instance, defs with a default. -/
namespace DL
open PySem PySem.Spec PyProof.Rows L2 He
section
variable {X : Cx} {K : Fg} {pinz : List (Addr × Obj)} {σ : L2.St} {H : Hp} {s : Shared}
def dMaxD (te td : TDE) : TDE := fun δ g Q => te δ g fun x g1 => td δ g1 fun z g2 => ∃ ns : List Int, lstD g2 x = some (ns.map DV.int) ∧ (ns = [] → Q z g2) ∧ ∀ m, m ∈ ns → (∀ y, y ∈ ns → y ≤ m) → Q (.int m) g2
theorem rd_maxD {te td : TDE} {δ : DS} {g : DG} {Q : DV → DG → Prop} (h : te δ g fun x g1 => td δ g1 fun z g2 => ∃ ns : List Int, lstD g2 x = some (ns.map DV.int) ∧ (ns = [] → Q z g2) ∧ ∀ m, m ∈ ns → (∀ y, y ∈ ns → y ≤ m) → Q (.int m) g2) : dMaxD te td δ g Q := h
/-! ### -x by its own __neg__ -/
variable {C f : Addr} {n : Nat} {sp : Sp} {sd : SpD} {EX : XK} {CX : CXT} {a : Expr} {ta : TDE} {pos : Pos}
/-! ### defs with defaults that are ints -/
end
end DL

/-! Deep layer AJ: displays of dicts with tuples as keys; readings. -/
namespace DL
open PySem PySem.Spec PyProof.Rows L2
section
variable {X : Cx} {K : Fg}
def dPairs : List (TDE × TDE) → DS → DG → (List (DV × DV) → DG → Prop) → Prop
  | [], _, g, Q => Q [] g
  | t :: r, δ, g, Q => t.1 δ g fun x g1 => t.2 δ g1 fun y g2 => dPairs r δ g2 fun ps g3 => Q ((x, y) :: ps) g3
abbrev RPs (K : Fg) (H : Hp) : List (DV × DV) → List (V × V) → Prop := Paired fun p q => RD K H p.1 q.1 ∧ RD K H p.2 q.2
abbrev upPs (K : Fg) (trs : List (TDE × TDE)) : List (TE × TE) := trs.map fun t => (upE K t.1, upE K t.2)
theorem dPairs_up : ∀ {trs : List (TDE × TDE)} {δ : DS} {g : DG} {σ : L2.St} {H : Hp} {P : List (DV × DV) → DG → Prop} {Q : List (V × V) → Hp → Prop}, RS K H δ σ → RG K H g → dPairs trs δ g P →
    (∀ ps g' vs H', Ext g H g' H' → RG K H' g' → RPs K H' ps vs → P ps g' → Q vs H') → tPairs (upPs K trs) σ H Q
  | [], δ, g, σ, H, P, Q, rs, rg, h, k => k [] g [] H Ext.refl rg .nil h
  | t :: r, δ, g, σ, H, P, Q, rs, rg, h, k => ⟨δ, g, _, rs, rg, h, fun x g1 v H1 e1 rg1 rx h1 => ⟨δ, g1, _, rs.mono (e1.kp rg), rg1, h1, fun y g2 u H2 e2 rg2 ry h2 =>
      dPairs_up (rs.mono ((e1.trans e2).kp rg)) rg2 h2 fun ps g3 vs H3 e3 rg3 rp h3 => k _ _ _ _ ((e1.trans e2).trans e3) rg3 (.cons ⟨(rx.mono (e2.kp rg1)).mono (e3.kp rg2), ry.mono (e3.kp rg2)⟩ rp) h3⟩⟩
theorem ppd_nil {pos : Pos} : PPs X pos [] [] (upPs X.K []) := pps_nil
theorem ppd_cons {pos : Pos} {k v : Expr} {ks : List (Option Expr)} {vs : List Expr} {tk tv : TDE} {trs : List (TDE × TDE)} (hk : PE X k (upE X.K tk)) (hv : PE X v (upE X.K tv)) (hr : PPs X pos ks vs (upPs X.K trs)) :
    PPs X pos (some k :: ks) (v :: vs) (upPs X.K ((tk, tv) :: trs)) := pps_cons hk hv hr
end
/-! ### readings -/
section
variable {δ : DS} {g : DG} {E : DEnds} {Q : DV → DG → Prop} {P : DV → Prop} {a b c : TDE} {x y v z d : DV} {ds es : List DV} {ks ls : List (List Key)} {ns ms : List Int} {p C : Addr} {k : List Key} {sp : SpD} {R : DG → Prop} {RL : List DV → DG → Prop}
theorem rd_dget (h : a δ g fun x g1 => b δ g1 fun y g2 => ∃ d, atD g2 x y = some (some d) ∧ Q d g2) : dGet a b δ g Q := h
theorem rd_dget2 (h : a δ g fun x g1 => isDct g1 x = true ∧ b δ g1 fun y g2 => c δ g2 fun z g3 => ∃ r, atD g3 x y = some r ∧ Q (r.getD z) g3) : dGet2 a b c δ g Q := h
theorem rd_isd {W : Prop} (h : W) : isDct g (.dT ks ds) = true ∧ W := ⟨rfl, h⟩
end
end DL

/-! Deep layer AK: // by any divisor but 0. -/
namespace DL
open PySem PySem.Spec PyProof.Rows L2
section
variable {X : Cx} {pos : Pos} {a b : Expr} {ta tb : TDE}
end
end DL
namespace DL
open PySem PySem.Spec PyProof.Rows L2
end DL

/-! Deep layer AL: {k: v for x in .. for y in ..}. -/
namespace DL
open PySem PySem.Spec PyProof.Rows L2

section
variable {prog : Program} {w : World} {A : Around} {R : Result → Shared → Prop} {s : Shared} {kx vx t0 i0 t1 i1 : Expr} {ifs0 ifs1 : List Expr} {scope : Scope} {pos : Pos} {it : Value} {D : Addr} {env : Env}
end
section
variable {X : Cx}
/-! ### the same by content -/
variable {kx vx iter iter1 tgx tgx1 : Expr} {ifs ifs1 : List Expr} {scope : Scope} {own : List (Str × Nat)} {vs1 : List Nat} {wi wi1 : TDI} {tg tg1 : Tg} {tt tt1 : TDT} {tk tv : TDE} {pos : Pos}
/-! ### {k: v for x in ..}, to be changed -/
/-! ### readings -/
end
end DL

/-! Deep layer AM: y in t, t a tuple of content. -/
namespace DL
open PySem PySem.Spec PyProof.Rows L2
section
variable {X : Cx}
def rInTp (neg : Bool) (K : PySem.W.Frag) : R2 := fun x y H Q => ∃ d ds, Dp K H x d ∧ Dp K H y (.tuple ds) ∧ SeqAt.shaped d = true ∧ SeqAt.shaped (.tuple ds) = true ∧ Q (.bl (if neg then !ds.any fun z => PyData.eqv z d else ds.any fun z => PyData.eqv z d)) H
theorem op_notInTp (hu : X.A.units + 65 < cLine) : OpR X (compareOp .NotIn) (rInTp true X.K) := by
  intro pins s σ H x y v u Q I rx ry h
  obtain ⟨d, ds, hd, he, sd, se, q⟩ := h
  obtain ⟨as, r1⟩ := Dp.reads I d x v hd rx
  obtain ⟨bs, r2⟩ := Dp.reads I (.tuple ds) y u he ry
  exact SeqAt.notIn_tuple_reads r2 r1 (SeqAt.canLay_of_shaped se) (SeqAt.canLay_of_shaped sd) (room_in_shaped sd hu) ⟨.bl _, H, I, rfl, q⟩
def rrInTp (neg : Bool) : RR2 := fun x y _ P => okD x = true ∧ ∃ ds, y = .tup ds ∧ okD y = true ∧ P (.bl (if neg then !ds.any fun d => eqD d x else ds.any fun d => eqD d x))
theorem ref_inTp {K : Fg} {neg : Bool} : RefCmp K (rrInTp neg) (rInTp neg K) := by
  intro x y P v u H g Q rg rx ry k ⟨h1, ds, ey, h2, h⟩
  unfold okD at h1 h2
  rw [Bool.and_eq_true] at h1 h2
  subst ey
  refine ⟨_, _, rx.dp h1.1, ry.dp h2.1, h1.2, h2.2, ?_⟩
  rw [py_any]
  exact k _ h
theorem rd_inTp {g : DG} {x : DV} {ds : List DV} {P : DV → Prop} {neg : Bool} (c : okD x = true) (c2 : okD (.tup ds) = true) (h : P (.bl (if neg then !ds.any fun d => eqD d x else ds.any fun d => eqD d x))) : rrInTp neg x (.tup ds) g P := ⟨c, ds, rfl, c2, h⟩
end
end DL

/-! Deep layer AN: walks over instances, list(x): __iter__ that hands out a list's iterator; what is changed on the left of a comparison. -/
namespace DL
open PySem PySem.Spec PyProof.Rows L2
/-! ### a list's iterator at its start -/
section
variable {X : Cx} {C f : Addr} {i n : Nat} {tgx e : Expr} {te : TE}
end
section
variable {X : Cx} {K : Fg} {C f fl : Addr} {n nl i : Nat} {spl : Sp} {sd : SpD}
end
/-! ### reading -/
section
variable {C : Addr} {ds es : List DV} {x y d : DV} {g : DG} {P : DV → Prop} {sd : SpD} {i : Nat}
variable {δ : DS} {a : TDE} {QA : List DV → DG → Prop}
end
/-! ### a changed list on the left of == and != -/
end DL

/-! Deep layer AO: name = {k: v for ..} on one line, the name a local. -/
namespace DL
open PySem PySem.Spec PyProof.Rows L2
section
variable {X : Cx}
variable {kx vx iter tgx : Expr} {ifs : List Expr} {scope : Scope} {own : List (Str × Nat)} {wi : TDI} {tg : Tg} {tt : TDT} {tk tv : TDE} {pos spos : Pos}
end
end DL

/-! Deep layer AP: sorted(set(xs)), xs a tuple of ints. -/
namespace L2
open PyProof.Rows PySem.Spec PySem
section
variable {P : Program} {u : World} {A : Around} {E : Value → Shared → Prop} {s : Shared}
end
end L2
namespace DL
open PyProof.Rows PySem.Spec PySem L2
section
variable {X : Cx} {pos : Pos} {a : Expr} {ta : TDE}
end
/-! ### sorted(xs), xs a list or a tuple -/
section
open PySem.W (EachIs)
variable {X : Cx}
end
end DL

/-! Deep layer AQ: dicts of tuple keys: values(), items(), update(pairs), == with any values, displays to be changed. -/
namespace DL
open PySem PySem.Spec PyProof.Rows L2
open PySem.SeqAt (EqIn EqAt)
/-! ### walks -/
section
variable {P : Program} {w : World} {K : PySem.W.Frag} {tg : Expr} {d : Addr} {o : Obj} {es : Array DictEntry} {ep : Nat}
end
section
variable {X : Cx} {tg e : Expr} {td : TE} {apos cpos : Pos}
end
section
variable {X : Cx} {K : Fg} {e : Expr} {td : TDE} {apos cpos : Pos}
end
/-! ### d.update(pairs), all keys new -/
section
variable {X : Cx} {K : Fg}
end
end DL

/-! Deep layer AR: update, == and != of dicts with any values, displays to be changed; readings. -/
namespace DL
open PySem PySem.Spec PyProof.Rows L2
open PySem.SeqAt (EqIn EqAt)
section
variable {X : Cx} {K : Fg} {pos apos cpos : Pos} {o e : Expr} {to : TDE} {t : TDA}
end
/-! ### == and != -/
section
variable {X : Cx} {pins : List (Addr × Obj)} {σ : L2.St} {H : Hp} {s : Shared}
end
/-! ### a display to be changed -/
section
variable {X : Cx} {K : Fg} {pos : Pos}
end
/-! ### readings of walks -/
section
variable {δ : DS} {g : DG} {a : TDE} {RL : List DV → DG → Prop} {ks : List (List Key)} {ds : List DV}
end
end DL

/-! Deep layer AS: walks and `in` over what is a tuple, a list or a dict of tuple keys. -/
namespace L2.MulT
open PySem PySem.Spec PyProof.Rows
open PySem.AutoSeq1 (wpAny_loadPart')
theorem mul_zero (l : Addr) (items : Array Value) (n : Nat) (dd : Option Addr) (sl : Array (Option Value)) (u : Tok) (hi : items.isEmpty = false) :
    Meets (Builtin.«tuple.__mul__» ⟨[.ref l, .int 0 u], []⟩) (fun _ R s => s.heap.get? l = some { cls := .type "tuple", dict := dd, data := .seq items n, slots := sl } ∧
      R (.ok (.ret (Value.ref s.heap.objs.size))) { s with heap := s.heap.push { cls := Value.type "tuple", data := Data.seq #[] }, toks := s.toks }) :=
  .of_wp fun prog w A R s h => by
    obtain ⟨hp, g, d, tk, os⟩ := s
    obtain ⟨at0, h⟩ := h
    have f1 := AutoSeq1.idx_int
    have c1 : ¬ (items.isEmpty || (0 : Int) == 1) = true := by rw [hi]; decide
    have c2 : (decide ((0 : Int) ≤ 0) || items.isEmpty) = true := by simp
    wp_walk using wpAny_loadPart' at0
    repeat (first
      | (refine wpAny_ite_false (by decide) ?_; wp_walk using wpAny_loadPart' at0)
      | (refine wpAny_ite_false (decide_eq_false c1) ?_; wp_walk using wpAny_loadPart' at0)
      | (refine wpAny_ite_true (by simp) ?_; wp_walk using wpAny_loadPart' at0))
    all_goals exact ⟨_, rfl, h⟩
section
variable {X : Cx}
end
end L2.MulT
namespace DL
open PySem PySem.Spec PyProof.Rows L2
section
variable {X : Cx}
/-! ### t * k, k at least 0 -/
end
section
variable {X : Cx} {tgx : Expr}
end
/-! ### enumerate of a tuple or a list -/
section
variable {X : Cx} {pos : Pos}
theorem dwalk_enL {K : Fg} {H : Hp} {a : Addr} {xs : List DV} {vs : List V} (ha : FzL K H a vs) (ra : RDs K H xs vs) : DWalk K (Ite K a) (enD xs) H := by
  have l1 := ra.length
  have hl := enD_len xs
  refine ⟨fun i H' hi k => ?_, fun H' k => ⟨vs, (k.fz ha).sq, by omega⟩, fun i H1 x H' d hd k y => ?_⟩
  · have h1 : i < vs.length := by omega
    exact ⟨vs, vs[i], (k.fz ha).sq, by simp [h1]⟩
  · obtain ⟨T, v, h1, h2, h3, h4⟩ := y
    obtain ⟨x', y', e1, e2, rfl⟩ := zipD_get hd
    have ex := rangeD_at' e1
    subst ex
    have q1 := h4 vs (k.fz ha).sq
    obtain ⟨v', e1', r1⟩ := ra.get e2
    rw [q1] at e1'; cases e1'
    have kk : Kp H1 H' := by rw [h3]; exact Kp.fresh h2
    refine ⟨.inr ⟨T, _, h2, h3⟩, ?_⟩
    rw [h1]
    exact .tup (by rw [h3]; exact upd_same) (.cons (.int _) (.cons ((r1.mono k).mono kk) .nil))
def enKL (R : List DV → DG → Prop) (xs : List DV) (g : DG) : Prop := match xs with | [.lst ds] => R (enD ds) g | _ => False
def wEnL (ta : TDA) : TDI := fun δ g R => ta δ g fun xs g1 => enKL R xs g1
theorem pid_enL {e : Expr} {ta : TDA} {p pos tpos : Pos} {elts : List Expr} {kk : Nat} (hm : X.mg "enumerate" = none) (ha : PA X [e] (upA X.K ta)) (hg : Gl X "enumerate" := by rfl) (hs : starEach [e] X.env = [(false, eval e X.env)] := by rfl) :
    PI X (.Tuple elts kk tpos) (.Call (.Name "enumerate" p) [e] [] pos) (upI X.K (wEnL ta)) := by
  refine PI_weak (pi_enum hg hm ha hs) fun σ H R ⟨δ, g, P, rs, rg, h, k⟩ => ⟨δ, g, _, rs, rg, h, fun xs g1 vs H1 e1 rg1 rd1 h1 => ?_⟩
  unfold enKL at h1
  split at h1
  · obtain ⟨v, rfl, rx⟩ := rd1.inj1
    cases rx with
    | lst hs hr => exact ⟨_, _, rfl, hs.sq, k _ _ _ _ e1 rg1 (dwalk_enL hs hr) h1⟩
  · exact h1.elim
end
end DL

/-! Deep layer AT: zip of a list and a tuple; a list times a number. -/
namespace L2.ZM
open PySem PySem.Spec PyProof.Rows
end L2.ZM
namespace DL
open PySem PySem.Spec PyProof.Rows L2
section
variable {X : Cx} {e e2 : Expr} {t : TDA}
/-! ### [..] * k -/
def rlK (Q : DV → DG → Prop) (ds : List DV) (y : DV) (g : DG) : Prop := ∃ k : Int, y = .int k ∧ 0 ≤ k ∧ k ≤ 1000 ∧ Q (.lst (List.replicate k.toNat ds).flatten) g
def dRepL (ta : TDA) (tb : TDE) : TDE := fun δ g Q => ta δ g fun ds g1 => ds.length ≤ 1000 ∧ tb δ g1 fun y g2 => rlK Q ds y g2
theorem rds_repL {K : Fg} {H : Hp} {ds : List DV} {vs : List V} (r : RDs K H ds vs) : ∀ n : Nat, RDs K H (List.replicate n ds).flatten (List.replicate n vs).flatten
  | 0 => .nil
  | n + 1 => by
    rw [List.replicate_succ, List.replicate_succ, List.flatten_cons, List.flatten_cons]
    exact r.append (rds_repL r n)
theorem rd_repL {es : TDA} {b : TDE} {δ : DS} {g : DG} {Q : DV → DG → Prop} (h : es δ g fun ds g1 => ds.length ≤ 1000 ∧ b δ g1 fun y g2 => rlK Q ds y g2) : dRepL es b δ g Q := h
end
end DL

/-! Deep layer AU: list(enumerate(a tuple)). -/
namespace L2.EnL
open PySem PySem.Spec PyProof.Rows L2
section
variable {prog : Program} {w : World} {A : Around} {E : Value → Shared → Prop} {s : Shared}
end
theorem FpOk.at {X : Cx} {pins : List (Addr × Obj)} {H H' : Hp} {b : Addr} (h : FpOk X pins H b) (hn : H' b = none) : FpOk X pins H' b := ⟨hn, h.2⟩
section
variable {X : Cx} {pins : List (Addr × Obj)} {σ : St} {J : It} {S it : Addr} {fp : List Addr} {tn : Nat → Heap → Prop} {A : Around}
end
/-! ### enumerate of a tuple -/
/-! ### the expression -/
end L2.EnL
namespace DL
open PySem PySem.Spec PyProof.Rows L2 Builtin
section
variable {X : Cx} {pos : Pos}
end
end DL

/-! Deep layer AV: dict(zip(a list of tuples, a list)). -/
namespace DL
open PySem PySem.Spec PyProof.Rows L2
section
variable {X : Cx} {K : Fg} {H : Hp} {pins : List (Addr × Obj)} {σ : L2.St} {s : Shared}
end
end DL

/-! Deep layer AW: list(a dict's items). -/
namespace L2.ItL
open PySem PySem.Spec PyProof.Rows L2 DL
section
variable {X : Cx} {pins : List (Addr × Obj)} {σ : L2.St} {H H' : Hp} {s : Shared} {h' : Heap}
end
section
variable {X : Cx} {e : Expr} {td : TE} {p apos cpos pos : Pos}
end
end L2.ItL
namespace DL
open PySem PySem.Spec PyProof.Rows L2 Builtin L2.ItL
section
variable {K : Fg} {g : DG}
end
section
variable {X : Cx} {pos : Pos} {δ : DS} {g : DG} {Q : DV → DG → Prop}
end
end DL
namespace DL
open PySem PySem.Spec PyProof.Rows L2 Builtin
section
variable {X : Cx} {K : Fg}
end
end DL

/-! k07, plain: what the readings need. -/
namespace DL
open PySem L2
theorem tIs (L : List (List Int)) : L.map tuI = L.map tI := rfl
theorem dv_zip (xs ys : List Int) : (zipD (xs.map DV.int) (ys.map DV.int)).all leD = dvB xs ys := zipD_ints_all (r := fun i j => decide (i ≤ j)) (fun _ _ => rfl) xs ys
theorem zip_mem {xs ys : List Int} {d : DV} (h : d ∈ zipD (xs.map DV.int) (ys.map DV.int)) : ∃ i j, d = .tup [.int i, .int j] := by
  rw [zip_ints] at h
  obtain ⟨p, _, e⟩ := List.mem_map.mp h
  exact ⟨p.1, p.2, e.symm⟩
theorem zip_len (xs ys : List Int) : (zipD (xs.map DV.int) (ys.map DV.int)).length ≤ xs.length := by
  rw [zip_ints, List.length_map, List.length_zip]
  omega
def upB (M : List (List Int)) (p : List Int) : Bool := M.any fun m => dvB m p
def dvsD (p : List Int) : DV → Bool
  | .tup ds => (zipD ds (p.map DV.int)).all leD
  | _ => false
theorem dvsD_at (m p : List Int) : dvsD p (tI m) = dvB m p := dv_zip m p
theorem any_dvs (M : List (List Int)) (p : List Int) : (M.map tI).any (dvsD p) = upB M p := by
  rw [List.any_map]
  unfold upB
  congr 1
  funext m
  exact dvsD_at m p
theorem any_id_map (p : DV → Bool) (ds : List DV) : (ds.map p).any id = ds.any p := by rw [List.any_map]; rfl
theorem all_tt (ds : List DV) : (ds.map fun _ => true).all id = true := by rw [List.all_map]; exact List.all_eq_true.mpr fun _ _ => rfl
theorem any_ff (ds : List DV) : (ds.map fun _ => false).any id = false := by rw [List.any_map]; exact List.any_eq_false.mpr fun _ _ => by simp
abbrev lotD (c : Addr) (n : Nat) (M : List (List Int)) : DV := .ins c [.int (n : Int), .tup (M.map tI)]
theorem tI_mem {L : List (List Int)} {d : DV} (h : d ∈ L.map tI) : ∃ m ∈ L, d = tI m := by
  obtain ⟨m, hm, e⟩ := List.mem_map.mp h
  exact ⟨m, hm, e.symm⟩
theorem filter_take {O : List (List Int)} {q : List Int → Bool} {i : Nat} {x : List Int} (h : O[i]? = some x) : (O.take (i + 1)).filter q = (O.take i).filter q ++ if q x = true then [x] else [] := by
  rw [List.take_succ, h, List.filter_append]
  congr 1
  show List.filter q [x] = _
  rw [List.filter_cons]
  rfl
theorem flt_len {O : List (List Int)} {q : List Int → Bool} (i : Nat) : ((O.take i).filter q).length ≤ O.length := by
  refine Nat.le_trans (List.length_filter_le _ _) ?_
  rw [List.length_take]
  omega
theorem rd_neN {i j : Int} {g : DG} {P : DV → Prop} (h : i = j) (k : P (.bl false)) : rrNe (.int i) (.int j) g P := ⟨okD_int _, okD_int _, by rw [eqD_int, decide_eq_true h]; exact k⟩
theorem gdel_ne {g : DG} {p b : Addr} (h : b ≠ p) : gdel g p b = g b := by unfold gdel; rw [if_neg h]
theorem py_tIs : ∀ ws : List (List Int), pyAll (ws.map tI) = ws.map fun w => PyData.tuple (w.map PyData.int)
  | [] => rfl
  | w :: ws => by rw [List.map_cons, pyAll, py_tIs ws, py_tI]; rfl
theorem lay_tIs : ∀ ws : List (List Int), PyData.canLayAll0 (ws.map fun w => PyData.tuple (w.map PyData.int)) = true
  | [] => rfl
  | w :: ws => by simp [PyData.canLayAll0, PyData.canLay0, lay_is, lay_tIs ws]
theorem dep_tIs : ∀ ws : List (List Int), PyData.depthAll (ws.map fun w => PyData.tuple (w.map PyData.int)) ≤ 1
  | [] => by simp [PyData.depthAll]
  | w :: ws => by
    have := dep_tIs ws
    simp only [List.map_cons, PyData.depthAll, PyData.depth, dep_is]
    omega
theorem okD_tIs (ws : List (List Int)) : okD (.tup (ws.map tI)) = true := by
  unfold okD
  rw [show (DV.tup (ws.map tI)).pl = true from pl_tIs ws, Bool.true_and]
  show SeqAt.shaped (.tuple (pyAll (ws.map tI))) = true
  rw [py_tIs]
  have := dep_tIs ws
  simp only [SeqAt.shaped, PyData.canLay0, PyData.depth, lay_tIs, Bool.true_and]
  exact decide_eq_true (by omega)
/-- a new instance, made up -/
theorem mkK_mk {C p : Addr} {Q : DV → DG → Prop} {ds : List DV} {g : DG} {o : DO} (hp : g p = none) (ne : ds ≠ []) (h : Q (.ins C ds) g) : mkK C p Q .non (gup (gup g p o) p (.ins C (ds.map some))) := by
  refine ⟨rfl, ds, gup_same, ne, ?_⟩
  rw [gup_gup, gdel_gup hp]
  exact h
def Told (cK : Addr) (n : Nat) (b : DV) (M : List (List Int)) : Prop := b = .ins cK [.tup (M.map tI)] ∨ ∃ L, b = .tup (L.map tI) ∧ Prods n 8 L ∧ L.length ≤ 24 ∧ M = leastL L
end DL

/-! k07, plain: texts of products and lots. -/
namespace DL
open PySem L2
end DL

/-! k07, plain: the law's own sums, and lots put together. -/
namespace DL
open PySem L2
theorem PotL.more {m n : Nat} {L : List DV} (h : PotL m L) (k : m ≤ n) : PotL n L := by
  obtain ⟨u, v, kk, e, v0, v1, k0, k1⟩ := h
  exact ⟨u, v, kk, e, v0, v1, k0, by omega⟩
theorem cut1 (ns : List Int) : intsD (cutD (ns.map DV.int) none (some 1)) = some (ns.take 1) := by
  cases ns with
  | nil => rfl
  | cons x r =>
    have e : cutD ((x :: r).map DV.int) none (some 1) = [DV.int x] := by
      unfold cutD
      rw [show (some (1 : Int)) = some ((1 : Nat) : Int) from rfl, HT.sIx_nat, HT.sIx_none, Nat.min_eq_left (by rw [List.length_map, List.length_cons]; omega)]
      rfl
    rw [e]
    rfl
/-- as comp_inv, with the bound of the place -/
theorem comp_invJ {tg : Tg} {own : List Nat} {te : TDE} {δ : DS} {Pd : DV → Prop} (I : Nat → DG → Prop) : ∀ {ds : List DV} {m : Nat} {g : DG} {P : List DV → DG → Prop}, I m g →
    (∀ d ∈ ds, ∀ (j : Nat) (g' : DG), j < m + ds.length → I j g' → ∃ δ2, bindT tg d (wipeD δ own) = some δ2 ∧ ∀ Q2 : DV → DG → Prop, (∀ y g2, Pd y → I (j + 1) g2 → Q2 y g2) → te δ2 g' Q2) →
    (∀ ys g', ys.length = ds.length → (∀ y ∈ ys, Pd y) → I (m + ds.length) g' → P ys g') → dComp tg own dYes te δ ds g P
  | [], m, g, P, h0, _, he => he [] g rfl (fun _ h => by cases h) h0
  | d :: ds, m, g, P, h0, hs, he => by
    obtain ⟨δ2, eb, h⟩ := hs d List.mem_cons_self m g (by rw [List.length_cons]; omega) h0
    unfold dComp
    rw [eb]
    dsimp only [dYes]
    rw [if_pos rfl]
    refine h _ fun y g2 hy h2 => comp_invJ I h2 (fun d hd j g' hj => hs d (List.mem_cons_of_mem _ hd) j g' (by rw [List.length_cons]; omega)) fun ys g' hl hp hI => he (y :: ys) g' (by rw [List.length_cons, List.length_cons, hl]) (fun z hz => ?_) (by rw [List.length_cons, show m + (ds.length + 1) = m + 1 + ds.length by omega]; exact hI)
    rcases List.mem_cons.mp hz with e | hz
    · subst e; exact hy
    · exact hp z hz
/-! ### the law's way to divide -/
theorem getD_at (xs : List Int) {i : Nat} (h : i < xs.length) : xs.getD i 0 = xs[i] := by
  rw [List.getD_eq_getElem?_getD, List.getElem?_eq_getElem h]
  rfl
/-! ### the law's least members -/
theorem eqD_nilL (ds : List DV) : eqD (.lst ds) (.lst []) = ds.isEmpty := by
  cases ds <;> simp [eqD, DV.py, PyData.eqv, pyAll, PyData.eqvAll]
theorem okD_lIs' (ws : List (List Int)) : okD (.lst (ws.map tI)) = true := okD_tIs ws
def dvT (e d : DV) : Bool := match e, d with | .tup xs, .tup ys => (zipD xs ys).all leD | _, _ => false
theorem dvT_at (x y : List Int) : dvT (tI x) (tI y) = dvB x y := dv_zip x y
def lwP (d e : DV) : Bool := !eqD e d && dvT e d
theorem lwP_at (x y : List Int) : lwP (tI y) (tI x) = (!decide (x = y) && dvB x y) := by unfold lwP; rw [dvT_at, eqD_tI]
theorem lw_map (m : List Int) (M : List (List Int)) : ((M.map tI).filter (lwP (tI m))).map (fun d => d) = (M.filter fun x => !decide (x = m) && dvB x m).map tI := by
  rw [List.map_id', List.filter_map]
  congr 1
  exact List.filter_congr fun x _ => lwP_at x m
theorem lw_min (m : List Int) (M : List (List Int)) : ((M.filter fun x => !decide (x = m) && dvB x m).map tI).isEmpty = minB M m := by
  rw [List.isEmpty_map]
  unfold minB
  induction M with
  | nil => rfl
  | cons x r ih =>
    rw [List.all_cons, ← ih]
    by_cases c : (!decide (x = m) && dvB x m) = true
    · rw [List.filter_cons_of_pos (p := fun x => !decide (x = m) && dvB x m) c]
      rw [Bool.and_eq_true, Bool.not_eq_true'] at c
      rw [c.1, c.2]
      rfl
    · rw [List.filter_cons_of_neg (p := fun x => !decide (x = m) && dvB x m) c]
      have : (!dvB x m || decide (x = m)) = true := by
        revert c
        cases dvB x m <;> cases decide (x = m) <;> simp
      rw [this, Bool.true_and]
theorem asc_least {L M : List (List Int)} (asc : M.Pairwise (· < ·)) (e : ∀ k, k ∈ M ↔ k ∈ L) : M.filter (minB M) = leastL L := by
  refine IsLeast.uniq (L := L) ⟨asc.filter _, fun m => ?_⟩ (leastL_is L)
  rw [List.mem_filter, minB_iff, e]
  exact and_congr_right fun _ => forall_congr' fun k => by rw [e]
/-! ### lots put together -/
/-! ### what is in the lots -/
theorem tIs_of {l : Nat} {m : Int} : ∀ {ys : List DV}, (∀ y ∈ ys, ∃ xs : List Int, y = tI xs ∧ xs.length = l ∧ ∀ x ∈ xs, 0 ≤ x ∧ x ≤ m) → ∃ G : List (List Int), ys = G.map tI ∧ Prods l m G
  | [], _ => ⟨[], rfl, fun _ h => (List.not_mem_nil h).elim⟩
  | y :: ys, h => by
    obtain ⟨xs, rfl, h1, h2⟩ := h y List.mem_cons_self
    obtain ⟨G, rfl, hG⟩ := tIs_of fun z hz => h z (List.mem_cons_of_mem _ hz)
    refine ⟨xs :: G, rfl, fun m hm => ?_⟩
    rcases List.mem_cons.mp hm with e | hm
    · subst e; exact ⟨h1, h2⟩
    · exact hG m hm
theorem gup_self {g : DG} {p : Addr} {o : DO} (h : g p = some o) : gup g p o = g := by
  funext b
  unfold gup
  split
  · rename_i e; rw [e, h]
  · rfl
/-! ### lots of given products, reckoned -/
def ascB : List (List Int) → Bool
  | [] => true
  | [_] => true
  | x :: y :: r => decide (x < y) && ascB (y :: r)
theorem asc_of_ascB : ∀ {M : List (List Int)}, ascB M = true → M.Pairwise (· < ·)
  | [], _ => .nil
  | [_], _ => List.pairwise_singleton _ _
  | x :: y :: r, h => by
    unfold ascB at h
    rw [Bool.and_eq_true, decide_eq_true_eq] at h
    have ih := asc_of_ascB h.2
    refine List.pairwise_cons.mpr ⟨fun z hz => ?_, ih⟩
    rcases List.mem_cons.mp hz with e | hz
    · subst e; exact h.1
    · exact List.lt_trans h.1 ((List.pairwise_cons.mp ih).1 z hz)
def leastIs (L M : List (List Int)) : Bool := ascB M && ((M.all fun m => decide (m ∈ L) && minB L m) && L.all fun k => !minB L k || decide (k ∈ M))
theorem leastL_eq {L M : List (List Int)} (h : leastIs L M = true) : leastL L = M := by
  unfold leastIs at h
  rw [Bool.and_eq_true, Bool.and_eq_true, List.all_eq_true, List.all_eq_true] at h
  obtain ⟨h1, h2, h3⟩ := h
  refine (leastL_is L).uniq ⟨asc_of_ascB h1, fun m => ⟨fun hm => ?_, fun hm => ?_⟩⟩
  · have := h2 m hm
    rw [Bool.and_eq_true, decide_eq_true_eq, minB_iff] at this
    exact this
  · have := h3 m hm.1
    rw [minB_iff.mpr hm.2] at this
    simpa using this
abbrev cE : List (List Int) := [[1, 1, 0, 0], [0, 1, 1, 0], [0, 0, 1, 1]]
abbrev cR : List (List Int) := [[1, 0, 1, 0], [0, 1, 0, 1]]
abbrev cS : List (List Int) := [[2, 0], [1, 1], [0, 3]]
theorem cE_is : leastL cE = [[0, 0, 1, 1], [0, 1, 1, 0], [1, 1, 0, 0]] := leastL_eq (by decide +kernel)
theorem cR_is : leastL cR = [[0, 1, 0, 1], [1, 0, 1, 0]] := leastL_eq (by decide +kernel)
theorem cS_is : leastL cS = [[0, 3], [1, 1], [2, 0]] := leastL_eq (by decide +kernel)
theorem cX_is : leastL [[1, 0]] = [[1, 0]] := leastL_eq (by decide +kernel)
theorem c1 : (leastL (leastL cE ++ leastL cR)).length = 5 := by
  rw [cE_is, cR_is, leastL_eq (M := [[0, 0, 1, 1], [0, 1, 0, 1], [0, 1, 1, 0], [1, 0, 1, 0], [1, 1, 0, 0]]) (by decide +kernel)]
  rfl
theorem c2 : (leastL (pairs ad (leastL cE) (leastL cE))).length = 6 := by
  rw [cE_is, leastL_eq (M := [[0, 0, 2, 2], [0, 1, 2, 1], [0, 2, 2, 0], [1, 1, 1, 1], [1, 2, 1, 0], [2, 2, 0, 0]]) (by decide +kernel)]
  rfl
theorem c3 : leastL (pairs jn (leastL cS) (leastL [[1, 0]])) = [[1, 1], [2, 0]] := by
  rw [cS_is, cX_is]
  exact leastL_eq (by decide +kernel)
end DL

/-! k06, plain: what may be compared, texts, lots told in several ways. -/
namespace DL
open PySem L2
/-! ### what may be compared -/
theorem eqv_tIs2 : ∀ ws vs : List (List Int), PyData.eqvAll (ws.map fun w => PyData.tuple (w.map PyData.int)) (vs.map fun w => PyData.tuple (w.map PyData.int)) = decide (ws = vs)
  | [], [] => by simp [PyData.eqvAll]
  | [], _ :: _ => by simp [PyData.eqvAll]
  | _ :: _, [] => by simp [PyData.eqvAll]
  | w :: ws, v :: vs => by
    simp only [List.map_cons, PyData.eqvAll, PyData.eqv, eqv_is, eqv_tIs2 ws vs]
    by_cases h : w = v <;> by_cases h' : ws = vs <;> simp [h, h']
theorem eqD_tIs2 (ws vs : List (List Int)) : eqD (.tup (ws.map tI)) (.tup (vs.map tI)) = decide (ws = vs) := by
  show PyData.eqv (.tuple (pyAll (ws.map tI))) (.tuple (pyAll (vs.map tI))) = _
  rw [py_tIs, py_tIs, ← eqv_tIs2]
  simp only [PyData.eqv]
/-! ### sorted ints -/
theorem sort_is (ns : List Int) : SortOk (ns.map DV.int) := by
  refine ⟨pl_ints ns, ?_, .inr ?_, fun d hd => ?_⟩
  · rw [List.map_map]
    exact W.AllAlike.of fun a b => rfl
  · intro d hd
    obtain ⟨d', h1, e⟩ := List.mem_map.mp hd
    obtain ⟨i, _, e2⟩ := List.mem_map.mp h1
    subst e e2
    exact ⟨fun z => PyData.noConfusion z, fun xs z => PyData.noConfusion z⟩
  · obtain ⟨i, _, e⟩ := List.mem_map.mp hd
    subst e
    show PyData.depth (.int i) ≤ 60
    simp [PyData.depth]
theorem sortI_map (ns : List Int) : (ns.map DV.int).mergeSort dleD = (ns.mergeSort fun a b => decide (a ≤ b)).map DV.int := by
  refine (List.map_mergeSort (r := fun a b => decide (a ≤ b)) (s := dleD) (f := DV.int) (l := ns) fun a _ b _ => ?_).symm
  exact (congrFun (congrFun (W.dataLe_int (fun i : Int => i)) a) b).symm
/-! ### ints and truth values -/
/-! ### texts -/
/-! ### lots by their members -/
def isAllB : List (List Int) → Bool
  | [m] => m.all fun x => decide (x = 0)
  | _ => false
theorem max_zero {m : List Int} {x : Int} (h0 : ∀ y ∈ m, 0 ≤ y) (hx : x ∈ m) (h : ∀ y ∈ m, y ≤ x) : decide (x = 0) = m.all fun y => decide (y = 0) := by
  rw [Bool.eq_iff_iff, decide_eq_true_eq, List.all_eq_true]
  constructor
  · intro h1 y hy
    have h2 := h y hy
    have h3 := h0 y hy
    exact decide_eq_true (by omega)
  · intro h1
    exact of_decide_eq_true (h1 x hx)
/-! ### values that are no products -/
/-! ### the told lots -/
end DL

/-! k14, plain: sets of letters, free sets, dimensions. -/
namespace DL
open PySem L2
/-- all ascending tuples of letters below n, in the sequence of the law -/
def setsL : Nat → List (List Int)
  | 0 => [[]]
  | n + 1 => setsL n ++ (setsL n).map fun s => s ++ [(n : Int)]
/-- those with at most k letters, as the package makes them -/
def setsK (k : Nat) : Nat → List (List Int)
  | 0 => [[]]
  | n + 1 => setsK k n ++ ((setsK k n).filter fun s => decide (s.length < k)).map fun s => s ++ [(n : Int)]
theorem setsL_len : ∀ n, (setsL n).length = 2 ^ n
  | 0 => rfl
  | n + 1 => by rw [setsL, List.length_append, List.length_map, setsL_len n, Nat.pow_succ]; omega
theorem filter_map' {α β : Type} (f : α → β) (p : β → Bool) : ∀ L : List α, (L.map f).filter p = (L.filter fun x => p (f x)).map f
  | [] => rfl
  | x :: L => by
    rw [List.map_cons, List.filter_cons, List.filter_cons, filter_map' f p L]
    cases p (f x) <;> rfl
theorem setsK_is (k : Nat) : ∀ n, setsK k n = (setsL n).filter fun s => decide (s.length ≤ k)
  | 0 => by simp [setsK, setsL]
  | n + 1 => by
    rw [setsK, setsL, List.filter_append, filter_map', setsK_is k n, List.filter_filter]
    congr 2
    refine List.filter_congr fun s _ => ?_
    rw [List.length_append, List.length_singleton]
    by_cases c : s.length < k
    · rw [decide_eq_true c, decide_eq_true (by omega : s.length ≤ k), decide_eq_true (by omega : s.length + 1 ≤ k)]; rfl
    · rw [decide_eq_false c, decide_eq_false (by omega : ¬s.length + 1 ≤ k)]; rfl
theorem setsK_len {k n : Nat} : (setsK k n).length ≤ 2 ^ n := by
  rw [setsK_is, ← setsL_len n]
  exact List.length_filter_le _ _
/-- those with k letters -/
def setsE (n k : Nat) : List (List Int) := (setsL n).filter fun s => decide (s.length = k)
theorem setsE_is (n k : Nat) : ((setsK k n).filter fun s => decide (s.length = k)) = setsE n k := by
  rw [setsK_is, List.filter_filter]
  refine List.filter_congr fun s _ => ?_
  by_cases c : s.length = k
  · rw [decide_eq_true c, decide_eq_true (by omega : s.length ≤ k)]; rfl
  · rw [decide_eq_false c]; rfl
def ascI : List Int → Bool
  | x :: y :: r => decide (x < y) && ascI (y :: r)
  | _ => true
theorem ascI_snoc : ∀ (s : List Int) (x : Int), ascI (s ++ [x]) = (ascI s && s.all fun y => decide (y < x))
  | [], x => rfl
  | [a], x => by simp [ascI]
  | a :: b :: r, x => by
    have ih := ascI_snoc (b :: r) x
    have e1 : ascI (a :: b :: r ++ [x]) = (decide (a < b) && ascI (b :: r ++ [x])) := rfl
    have e2 : ascI (a :: b :: r) = (decide (a < b) && ascI (b :: r)) := rfl
    rw [e1, e2, ih, List.all_cons, List.all_cons, List.all_cons]
    by_cases h1 : a < b
    · by_cases h2 : b < x
      · rw [decide_eq_true h1, decide_eq_true h2, decide_eq_true (by omega : a < x)]; simp
      · rw [decide_eq_false h2]; simp
    · rw [decide_eq_false h1]; simp
/-- an ascending tuple of letters below n -/
def isSet (n : Nat) (s : List Int) : Bool := (s.all fun x => decide (0 ≤ x) && decide (x ≤ (n : Int) - 1)) && ascI s
theorem asc_le : ∀ {s : List Int} {x y : Int}, ascI (x :: s) = true → y ∈ s → x < y
  | b :: r, x, y, h, hy => by
    rw [ascI, Bool.and_eq_true, decide_eq_true_eq] at h
    rcases List.mem_cons.mp hy with e | hy
    · rw [e]; exact h.1
    · exact Int.lt_trans h.1 (asc_le h.2 hy)
theorem mem_sets : ∀ {n : Nat} {s : List Int}, s ∈ setsL n ↔ isSet n s = true
  | 0, s => by
    rw [setsL, List.mem_singleton]
    constructor
    · intro e; subst e; rfl
    · intro h
      cases s with
      | nil => rfl
      | cons x r =>
        unfold isSet at h
        rw [List.all_cons, Bool.and_eq_true, Bool.and_eq_true, Bool.and_eq_true, decide_eq_true_eq, decide_eq_true_eq] at h
        omega
  | n + 1, s => by
    rw [setsL, List.mem_append, List.mem_map]
    constructor
    · rintro (h | ⟨t, h, e⟩)
      · have h := mem_sets.mp h
        unfold isSet at h ⊢
        rw [Bool.and_eq_true, List.all_eq_true] at h ⊢
        refine ⟨fun x hx => ?_, h.2⟩
        have := h.1 x hx
        rw [Bool.and_eq_true, decide_eq_true_eq, decide_eq_true_eq] at this ⊢
        omega
      · have h := mem_sets.mp h
        subst e
        unfold isSet at h ⊢
        rw [Bool.and_eq_true, List.all_eq_true] at h
        have hb : ∀ x ∈ t, 0 ≤ x ∧ x ≤ (n : Int) - 1 := fun x hx => by
          have := h.1 x hx
          rw [Bool.and_eq_true, decide_eq_true_eq, decide_eq_true_eq] at this
          exact this
        rw [Bool.and_eq_true, List.all_eq_true, ascI_snoc, h.2]
        refine ⟨fun x hx => ?_, ?_⟩
        · rw [Bool.and_eq_true, decide_eq_true_eq, decide_eq_true_eq]
          rcases List.mem_append.mp hx with hx | hx
          · have := hb x hx; omega
          · rw [List.mem_singleton] at hx; omega
        · rw [Bool.true_and, List.all_eq_true]
          intro x hx
          rw [decide_eq_true_eq]
          have := hb x hx; omega
    · intro h
      unfold isSet at h
      rw [Bool.and_eq_true, List.all_eq_true] at h
      have hb : ∀ x ∈ s, 0 ≤ x ∧ x ≤ ((n + 1 : Nat) : Int) - 1 := fun x hx => by
        have := h.1 x hx
        rw [Bool.and_eq_true, decide_eq_true_eq, decide_eq_true_eq] at this
        exact this
      by_cases c : (n : Int) ∈ s
      · right
        have hs : s ≠ [] := fun z => by rw [z] at c; cases c
        have e := List.dropLast_concat_getLast hs
        have ha := h.2
        rw [← e, ascI_snoc, Bool.and_eq_true, List.all_eq_true] at ha
        have hl : s.getLast hs = n := by
          have h1 := hb _ (List.getLast_mem hs)
          rw [← e] at c
          rcases List.mem_append.mp c with c | c
          · have := ha.2 _ c
            rw [decide_eq_true_eq] at this
            omega
          · rw [List.mem_singleton] at c; exact c.symm
        refine ⟨s.dropLast, mem_sets.mpr ?_, by rw [← hl]; exact e⟩
        unfold isSet
        rw [Bool.and_eq_true, List.all_eq_true]
        refine ⟨fun x hx => ?_, ha.1⟩
        have h2 := ha.2 x hx
        have h3 := hb x (List.dropLast_subset s hx)
        rw [decide_eq_true_eq] at h2
        rw [Bool.and_eq_true, decide_eq_true_eq, decide_eq_true_eq]
        omega
      · left
        refine mem_sets.mpr ?_
        unfold isSet
        rw [Bool.and_eq_true, List.all_eq_true]
        refine ⟨fun x hx => ?_, h.2⟩
        have h3 := hb x hx
        have h4 : x ≠ n := fun z => c (z ▸ hx)
        rw [Bool.and_eq_true, decide_eq_true_eq, decide_eq_true_eq]
        omega
theorem sets_len_le : ∀ {n : Nat} {s : List Int}, s ∈ setsL n → s.length ≤ n
  | 0, s, h => by rw [setsL, List.mem_singleton] at h; subst h; exact Nat.le_refl _
  | n + 1, s, h => by
    rw [setsL, List.mem_append, List.mem_map] at h
    rcases h with h | ⟨t, h, e⟩
    · exact Nat.le_succ_of_le (sets_len_le h)
    · subst e
      rw [List.length_append, List.length_singleton]
      exact Nat.succ_le_succ (sets_len_le h)
theorem nil_sets : ∀ n, [] ∈ setsL n
  | 0 => List.mem_singleton.mpr rfl
  | n + 1 => List.mem_append_left _ (nil_sets n)
/-! ### free sets -/
/-- no member is made of the letters s alone; at: the first place's number -/
def freeM (s : List Int) (m : List Int) : Bool := (List.range m.length).any fun i => decide (0 < m.getD i 0) && !decide ((i : Int) ∈ s)
def freeB (M : List (List Int)) (s : List Int) : Bool := M.all (freeM s)
/-- the first free one of the greatest size below k -/
def fsK (n : Nat) (M : List (List Int)) : Nat → Option (List Int)
  | 0 => none
  | k + 1 => ((setsE n k).find? (freeB M)).or (fsK n M k)
def fsI (n : Nat) (M : List (List Int)) : Option (List Int) := fsK n M (n + 1)
def dimI (n : Nat) (M : List (List Int)) : Int := (fsI n M).elim (-1) fun s => (s.length : Int)
theorem find_E {n k : Nat} {M : List (List Int)} {s : List Int} (h : (setsE n k).find? (freeB M) = some s) : s ∈ setsL n ∧ s.length = k ∧ freeB M s = true := by
  have h1 := List.mem_of_find?_eq_some h
  have h2 := List.find?_some h
  unfold setsE at h1
  rw [List.mem_filter, decide_eq_true_eq] at h1
  exact ⟨h1.1, h1.2, h2⟩
theorem find_N {n k : Nat} {M : List (List Int)} (h : (setsE n k).find? (freeB M) = none) {t : List Int} (ht : t ∈ setsL n) (hk : t.length = k) : freeB M t = false := by
  have := List.find?_eq_none.mp h t (List.mem_filter.mpr ⟨ht, decide_eq_true hk⟩)
  cases e : freeB M t with
  | true => exact absurd e this
  | false => rfl
theorem fsK_some {n : Nat} {M : List (List Int)} {s : List Int} : ∀ {k : Nat}, fsK n M k = some s → s ∈ setsL n ∧ freeB M s = true ∧ s.length < k ∧ ∀ t ∈ setsL n, t.length < k → freeB M t = true → t.length ≤ s.length
  | 0, h => by cases h
  | k + 1, h => by
    rw [fsK] at h
    cases e : (setsE n k).find? (freeB M) with
    | some t =>
      rw [e] at h
      have h : t = s := Option.some.inj h
      subst h
      obtain ⟨h1, h2, h3⟩ := find_E e
      exact ⟨h1, h3, by omega, fun t ht hk _ => by omega⟩
    | none =>
      rw [e] at h
      obtain ⟨h1, h2, h3, h4⟩ := fsK_some (k := k) h
      refine ⟨h1, h2, by omega, fun t ht hk hf => ?_⟩
      by_cases c : t.length = k
      · rw [find_N e ht c] at hf; cases hf
      · exact h4 t ht (by omega) hf
theorem fsK_none {n : Nat} {M : List (List Int)} : ∀ {k : Nat}, fsK n M k = none → ∀ t ∈ setsL n, t.length < k → freeB M t = false
  | 0, h => fun t ht hk => absurd hk (Nat.not_lt_zero _)
  | k + 1, h => fun t ht hk => by
    rw [fsK] at h
    cases e : (setsE n k).find? (freeB M) with
    | some t => rw [e] at h; cases h
    | none =>
      rw [e] at h
      by_cases c : t.length = k
      · exact find_N e ht c
      · exact fsK_none (k := k) h t ht (by omega)
theorem fsI_some {n : Nat} {M : List (List Int)} {s : List Int} (h : fsI n M = some s) : s ∈ setsL n ∧ freeB M s = true ∧ ∀ t ∈ setsL n, freeB M t = true → t.length ≤ s.length := by
  obtain ⟨h1, h2, _, h4⟩ := fsK_some h
  exact ⟨h1, h2, fun t ht hf => h4 t ht (Nat.lt_succ_of_le (sets_len_le ht)) hf⟩
theorem fsI_none {n : Nat} {M : List (List Int)} (h : fsI n M = none) : ∀ t ∈ setsL n, freeB M t = false := fun t ht => fsK_none h t ht (Nat.lt_succ_of_le (sets_len_le ht))
theorem free_nil {n : Nat} {B : Int} {M : List (List Int)} (hp : Prods n B M) : freeB M [] = !decide (List.replicate n 0 ∈ M) := by
  by_cases c : List.replicate n 0 ∈ M
  · rw [decide_eq_true c]
    unfold freeB
    rw [Bool.not_true, ← Bool.not_eq_true, List.all_eq_true]
    intro h
    have := h _ c
    unfold freeM at this
    rw [List.any_eq_true] at this
    obtain ⟨i, hi, h2⟩ := this
    rw [Bool.and_eq_true, decide_eq_true_eq] at h2
    have h3 := h2.1
    rw [List.getD_eq_getElem?_getD, List.getElem?_replicate] at h3
    split at h3 <;> simp at h3
  · rw [decide_eq_false c]
    unfold freeB
    rw [Bool.not_false, List.all_eq_true]
    intro m hm
    obtain ⟨h1, h2⟩ := hp m hm
    unfold freeM
    by_cases z : ∃ i, i < m.length ∧ 0 < m.getD i 0
    · obtain ⟨i, hi, h3⟩ := z
      rw [List.any_eq_true]
      exact ⟨i, List.mem_range.mpr hi, by rw [decide_eq_true h3]; simp⟩
    · exfalso
      apply c
      have : m = List.replicate n 0 := by
        rw [← h1]
        refine List.eq_replicate_iff.mpr ⟨rfl, fun x hx => ?_⟩
        obtain ⟨i, hi⟩ := List.mem_iff_getElem?.mp hx
        have hl := (List.getElem?_eq_some_iff.mp hi).1
        have h4 : m.getD i 0 = x := by rw [List.getD_eq_getElem?_getD, hi]; rfl
        have h5 := (h2 x hx).1
        by_cases h6 : 0 < x
        · exact absurd ⟨i, hl, by rw [h4]; exact h6⟩ z
        · omega
      rw [← this]
      exact hm
end DL

/-! k12, plain: rests of products (the same as in K04M). -/
namespace DL
open PySem L2
def ls (xs ys : List Int) : List Int := List.zipWith (fun x y => max 0 (x - y)) xs ys
def df (xs ys : List Int) : List Int := List.zipWith (· - ·) xs ys
def lsD : DV → DV
  | .tup [.int i, .int j] => .int (if i - j > 0 then i - j else 0)
  | d => d
theorem ls_zip (xs ys : List Int) : (zipD (xs.map DV.int) (ys.map DV.int)).map lsD = (ls xs ys).map DV.int := zipW_map (fun x y => max 0 (x - y)) lsD (fun i j => by show DV.int (if i - j > 0 then i - j else 0) = .int (max 0 (i - j)); congr 1; split <;> omega) xs ys
theorem zw_all {f : Int → Int → Int} {R : Int → Prop} : ∀ {xs ys : List Int}, (∀ x ∈ xs, ∀ y ∈ ys, R (f x y)) → ∀ z ∈ List.zipWith f xs ys, R z
  | [], _, _, z, hz => by cases hz
  | _ :: _, [], _, z, hz => by cases hz
  | x :: xs, y :: ys, h, z, hz => by
    rcases List.mem_cons.mp hz with e | e
    · rw [e]; exact h x List.mem_cons_self y List.mem_cons_self
    · exact zw_all (fun a ha b hb => h a (List.mem_cons_of_mem _ ha) b (List.mem_cons_of_mem _ hb)) z e
theorem zw_len {f : Int → Int → Int} {xs ys : List Int} (e : ys.length = xs.length) : (List.zipWith f xs ys).length = xs.length := by rw [List.length_zipWith]; omega
theorem ls_df : ∀ {xs ys : List Int}, dvB ys xs = true → ls xs ys = df xs ys
  | [], _, _ => rfl
  | _ :: _, [], _ => rfl
  | x :: xs, y :: ys, h => by
    rw [dvB_cons, Bool.and_eq_true, decide_eq_true_eq] at h
    show max 0 (x - y) :: ls xs ys = (x - y) :: df xs ys
    rw [ls_df h.2]
    congr 1
    omega
theorem df_nn : ∀ {xs ys : List Int}, dvB ys xs = true ↔ ∀ z ∈ df xs ys, 0 ≤ z
  | [], ys => by
    refine ⟨fun _ z hz => ?_, fun _ => ?_⟩
    · cases hz
    · cases ys <;> rfl
  | _ :: _, [] => ⟨fun _ z hz => (by cases hz), fun _ => rfl⟩
  | x :: xs, y :: ys => by
    rw [dvB_cons, Bool.and_eq_true, decide_eq_true_eq, df_nn]
    show y ≤ x ∧ _ ↔ ∀ z ∈ (x - y) :: df xs ys, 0 ≤ z
    rw [List.forall_mem_cons]
    constructor
    · exact fun h => ⟨by omega, h.2⟩
    · exact fun h => ⟨by have := h.1; omega, h.2⟩
theorem df_len {xs ys : List Int} (e : ys.length = xs.length) : (df xs ys).length = xs.length := zw_len e
theorem ls_len {xs ys : List Int} (e : ys.length = xs.length) : (ls xs ys).length = xs.length := zw_len e
def ch : Nat → Nat → Nat
  | _, 0 => 1
  | 0, _ + 1 => 0
  | n + 1, k + 1 => ch n k + ch n (k + 1)
theorem ch_0 (n : Nat) : ch n 0 = 1 := by cases n <;> rfl
theorem ch_step : ∀ (n k : Nat), (ch n (k + 1) : Int) * (k + 1) = ch n k * ((n : Int) - k)
  | 0, 0 => by simp [ch]
  | 0, k + 1 => by simp [ch]
  | n + 1, 0 => by
    have h := ch_step n 0
    simp only [ch] at h ⊢
    grind
  | n + 1, k + 1 => by
    have h1 := ch_step n (k + 1)
    have h2 := ch_step n k
    simp only [ch]
    push_cast at *
    grind
theorem ch_sym : ∀ (s a b : Nat), a + b = s → ch (a + b) a = ch (a + b) b
  | s, 0, b, _ => by
    rw [ch_0]
    have : ∀ b, ch (0 + b) b = 1 := by
      intro b
      rw [Nat.zero_add]
      have z : ∀ b, ch b b = 1 ∧ ch b (b + 1) = 0 ∧ ∀ j, ch b (b + 1 + j) = 0 := by
        intro b
        induction b with
        | zero => exact ⟨rfl, rfl, fun j => by rw [show 0 + 1 + j = j + 1 by omega]; rfl⟩
        | succ b ih =>
          obtain ⟨h1, h2, h3⟩ := ih
          refine ⟨by rw [ch, h1, h2], by rw [ch, h2]; have := h3 1; rw [show b + 1 + 1 = b + 1 + 1 from rfl] at this; rw [this], fun j => ?_⟩
          rw [show b + 1 + 1 + j = (b + 1 + j) + 1 by omega, ch]
          have h4 := h3 j
          have h5 := h3 (j + 1)
          rw [show b + 1 + (j + 1) = b + 1 + j + 1 by omega] at h5
          omega
      exact (z b).1
    exact (this b).symm
  | s, a + 1, 0, h => by
    have := ch_sym s 0 (a + 1) (by omega)
    rw [Nat.zero_add] at this
    rw [Nat.add_zero]
    exact this.symm
  | 0, a + 1, b + 1, h => by omega
  | s + 1, a + 1, b + 1, h => by
    have h1 := ch_sym s a (b + 1) (by omega)
    have h2 := ch_sym s (a + 1) b (by omega)
    rw [show a + 1 + (b + 1) = (a + (b + 1)) + 1 by omega, ch, ch, h1]
    rw [show a + (b + 1) = (a + 1) + b by omega, h2]
    omega
theorem ch_big {n k : Nat} (h : n < k) : ch n k = 0 := by
  have : ∀ n j, ch n (n + 1 + j) = 0 := by
    intro n
    induction n with
    | zero => intro j; rw [show 0 + 1 + j = j + 1 by omega]; rfl
    | succ n ih =>
      intro j
      rw [show n + 1 + 1 + j = (n + 1 + j) + 1 by omega, ch, ih j]
      have := ih (j + 1)
      rw [show n + 1 + (j + 1) = n + 1 + j + 1 by omega] at this
      omega
  have := this n (k - (n + 1))
  rwa [show n + 1 + (k - (n + 1)) = k by omega] at this
open PySem PySem.W in
theorem fp_up (m : Int) : ∀ k : Nat, Builtin.Math.fallingProduct (m + 1) (k + 1) = (m + 1) * Builtin.Math.fallingProduct m k
  | 0 => by rw [mc_fp_succ, mc_fp_zero, mc_fp_zero]; simp
  | k + 1 => by
    rw [mc_fp_succ, fp_up m k, mc_fp_succ]
    push_cast
    grind
open PySem PySem.W in
theorem fp_ch (n : Nat) : ∀ k : Nat, Builtin.Math.fallingProduct (n : Int) k = (ch n k : Int) * Builtin.Math.fallingProduct (k : Int) k
  | 0 => by rw [mc_fp_zero, mc_fp_zero, ch_0]; rfl
  | k + 1 => by
    have h := ch_step n k
    have e : Builtin.Math.fallingProduct ((k + 1 : Nat) : Int) (k + 1) = ((k : Int) + 1) * Builtin.Math.fallingProduct (k : Int) k := by
      have := fp_up (k : Int) k
      push_cast
      exact this
    rw [mc_fp_succ, fp_ch n k, e]
    grind
open PySem PySem.W in
theorem mcComb_ch {n k : Nat} (h : k ≤ n) : mcComb (n : Int) (k : Int) = (ch n k : Int) := by
  have key : ∀ m : Nat, ch n m = ch n k → Builtin.Math.fallingProduct (n : Int) m / Builtin.Math.fallingProduct (m : Int) m = (ch n k : Int) := by
    intro m e
    have hp := mc_fp_pos (n := (m : Int)) m (Int.le_refl _)
    rw [fp_ch n m, e]
    exact Int.mul_ediv_cancel _ (by omega)
  by_cases c : k ≤ n - k
  · rw [mcComb_at (m := (k : Int)) (by omega) (by omega) (by omega), Int.toNat_natCast]
    exact key k rfl
  · rw [mcComb_at (m := ((n - k : Nat) : Int)) (by omega) (by omega) (by omega), Int.toNat_natCast]
    refine key (n - k) ?_
    have := ch_sym n k (n - k) (by omega)
    rw [show k + (n - k) = n by omega] at this
    exact this.symm
theorem ch_le {n : Nat} (hn : n < 2 ^ 21) : ∀ k, ch n k ≤ 2 ^ (21 * k)
  | 0 => by rw [ch_0]; exact Nat.le_refl _
  | k + 1 => by
    have ih := ch_le hn k
    by_cases c : n < k + 1
    · rw [ch_big c]; exact Nat.zero_le _
    · have h := ch_step n k
      have h2 : ch n (k + 1) * (k + 1) = ch n k * (n - k) := by
        have e : ((n - k : Nat) : Int) = (n : Int) - k := by omega
        have : ((ch n (k + 1) * (k + 1) : Nat) : Int) = ((ch n k * (n - k) : Nat) : Int) := by
          push_cast
          rw [e]
          exact h
        exact Int.ofNat.inj this
      have h3 : ch n (k + 1) ≤ ch n k * (n - k) := by rw [← h2]; exact Nat.le_mul_of_pos_right _ (by omega)
      refine Nat.le_trans h3 ?_
      rw [show 21 * (k + 1) = 21 * k + 21 from rfl, Nat.pow_add]
      exact Nat.mul_le_mul ih (by omega)
end DL

/-! k12, the plain law: the numerator of a lot, by one more product at a time. -/
namespace DL
open PySem L2
abbrev KF := Int → Int
def kz : KF := fun d => if d = 0 then 1 else 0
def lsl (M : List (List Int)) (m : List Int) : List (List Int) := M.map fun x => ls x m
/-- the numerator: members taken one by one -/
def kp : List (List Int) → KF
  | [] => kz
  | m :: M => fun d => kp M d - kp (lsl M m) (d - m.sum)
termination_by M => M.length
decreasing_by
  all_goals simp [lsl]
theorem kp_nil : kp [] = kz := by rw [kp]
theorem kp_cons (m : List Int) (M : List (List Int)) (d : Int) : kp (m :: M) d = kp M d - kp (lsl M m) (d - m.sum) := by rw [kp]
/-- members of so many letters, none below 0 -/
def Nnn (n : Nat) (M : List (List Int)) : Prop := ∀ m ∈ M, m.length = n ∧ ∀ x ∈ m, 0 ≤ x
theorem Nnn.of {n : Nat} {B : Int} {M : List (List Int)} (h : Prods n B M) : Nnn n M := fun m hm => ⟨(h m hm).1, fun x hx => ((h m hm).2 x hx).1⟩
theorem Nnn.sub {n : Nat} {M N : List (List Int)} (h : Nnn n M) (s : ∀ m ∈ N, m ∈ M) : Nnn n N := fun m hm => h m (s m hm)
theorem ls_nn : ∀ {x a : List Int}, ∀ z ∈ ls x a, 0 ≤ z := fun {x a} => zw_all (R := fun z => 0 ≤ z) fun _ _ _ _ => by omega
theorem lsn_len {n : Nat} {x a : List Int} (hx : x.length = n) (ha : a.length = n) : (ls x a).length = n := by rw [ls_len (by omega)]; exact hx
theorem Nnn.lsl {n : Nat} {M : List (List Int)} {a : List Int} (h : Nnn n M) (ha : a.length = n) : Nnn n (lsl M a) := fun m hm => by
  obtain ⟨x, hx, rfl⟩ := List.mem_map.mp hm
  exact ⟨lsn_len (h x hx).1 ha, ls_nn⟩
theorem ls_ls : ∀ x a b : List Int, ls (ls x a) (ls b a) = ls (ls x b) (ls a b)
  | [], _, _ => by simp [ls]
  | _ :: _, [], b => by simp [ls]
  | _ :: _, _ :: _, [] => by simp [ls]
  | x :: xs, a :: as, b :: bs => by
    show max 0 (max 0 (x - a) - max 0 (b - a)) :: ls (ls xs as) (ls bs as) = max 0 (max 0 (x - b) - max 0 (a - b)) :: ls (ls xs bs) (ls as bs)
    rw [ls_ls xs as bs]
    congr 1
    omega
theorem sum_ls : ∀ {a b : List Int}, a.length = b.length → a.sum + (ls b a).sum = b.sum + (ls a b).sum
  | [], [], _ => rfl
  | a :: as, b :: bs, h => by
    have := sum_ls (a := as) (b := bs) (by simpa using h)
    show (a :: as).sum + (max 0 (b - a) :: ls bs as).sum = (b :: bs).sum + (max 0 (a - b) :: ls as bs).sum
    simp only [List.sum_cons]
    omega
theorem lsl_lsl (M : List (List Int)) (a b : List Int) : lsl (lsl M a) (ls b a) = lsl (lsl M b) (ls a b) := by
  unfold lsl
  rw [List.map_map, List.map_map]
  exact List.map_congr_left fun x _ => ls_ls x a b
theorem kp_swap {a b : List Int} {M : List (List Int)} (h : a.length = b.length) (d : Int) : kp (a :: b :: M) d = kp (b :: a :: M) d := by
  rw [kp_cons, kp_cons, kp_cons b, kp_cons a M]
  show _ - kp (ls b a :: lsl M a) _ = _ - kp (ls a b :: lsl M b) _
  rw [kp_cons, kp_cons, lsl_lsl M a b]
  have := sum_ls h
  have e : d - a.sum - (ls b a).sum = d - b.sum - (ls a b).sum := by omega
  rw [e]
  omega
theorem kp_permg {n : Nat} {M N : List (List Int)} (h : M.Perm N) : ∀ g : List Int → List Int, (∀ m ∈ M, (g m).length = n) → ∀ d, kp (M.map g) d = kp (N.map g) d := by
  induction h with
  | nil => exact fun g _ d => rfl
  | @cons m M N h ih =>
    intro g hg d
    rw [List.map_cons, List.map_cons, kp_cons, kp_cons, ih g (fun x hx => hg x (List.mem_cons_of_mem _ hx)) d]
    have := ih (fun x => ls (g x) (g m)) (fun x hx => lsn_len (hg x (List.mem_cons_of_mem _ hx)) (hg m List.mem_cons_self)) (d - (g m).sum)
    unfold lsl
    rw [List.map_map, List.map_map]
    exact congrArg _ this
  | swap a b M =>
    intro g hg d
    exact kp_swap ((hg b List.mem_cons_self).trans (hg a (List.mem_cons_of_mem _ List.mem_cons_self)).symm) d
  | trans h1 h2 ih1 ih2 =>
    intro g hg d
    rw [ih1 g hg d]
    exact ih2 g (fun x hx => hg x (h1.mem_iff.mpr hx)) d
theorem kp_perm {n : Nat} {M N : List (List Int)} (h : M.Perm N) (hm : Nnn n M) : kp M = kp N := by
  funext d
  have := kp_permg h id (n := n) (fun m hx => (hm m hx).1) d
  rwa [List.map_id, List.map_id] at this
theorem ls_zero : ∀ {x z : List Int}, x.length = z.length → (∀ y ∈ x, 0 ≤ y) → (∀ y ∈ z, y = 0) → ls x z = x
  | [], [], _, _, _ => rfl
  | x :: xs, z :: zs, h, hx, hz => by
    show max 0 (x - z) :: ls xs zs = x :: xs
    rw [ls_zero (by simpa using h) (fun y hy => hx y (List.mem_cons_of_mem _ hy)) (fun y hy => hz y (List.mem_cons_of_mem _ hy)), hz z List.mem_cons_self]
    have := hx x List.mem_cons_self
    congr 1
    omega
theorem sum_zero : ∀ {z : List Int}, (∀ y ∈ z, y = 0) → z.sum = 0
  | [], _ => rfl
  | z :: zs, h => by rw [List.sum_cons, h z List.mem_cons_self, sum_zero fun y hy => h y (List.mem_cons_of_mem _ hy)]; rfl
/-- with the product 1 among them the numerator is 0 -/
theorem kp_one {n : Nat} {M : List (List Int)} (h : Nnn n M) {z : List Int} (hz : z ∈ M) (z0 : ∀ y ∈ z, y = 0) (d : Int) : kp M d = 0 := by
  have p := List.perm_cons_erase hz
  rw [kp_perm p h, kp_cons, sum_zero z0]
  have e : lsl (M.erase z) z = M.erase z := by
    unfold lsl
    refine (List.map_congr_left fun x hx => ?_).trans (List.map_id _)
    have hx2 := h x (List.mem_of_mem_erase hx)
    exact ls_zero (hx2.1.trans (h z hz).1.symm) hx2.2 z0
  rw [e]
  rw [Int.sub_zero, Int.sub_self]
theorem ls_dv : ∀ {k m : List Int}, dvB k m = true → ∀ y ∈ ls k m, y = 0
  | [], _, _, y, hy => by cases hy
  | _ :: _, [], _, y, hy => by cases hy
  | k :: ks, m :: ms, h, y, hy => by
    rw [dvB_cons, Bool.and_eq_true, decide_eq_true_eq] at h
    rcases List.mem_cons.mp (show y ∈ max 0 (k - m) :: ls ks ms from hy) with e | e
    · rw [e]; omega
    · exact ls_dv h.2 y e
/-- a product that one of them divides can be left out -/
theorem kp_red {n : Nat} {M : List (List Int)} {m k : List Int} (h : Nnn n M) (hm : m.length = n) (hk : k ∈ M) (hd : dvB k m = true) : kp (m :: M) = kp M := by
  funext d
  rw [kp_cons, kp_one (h.lsl hm) (List.mem_map_of_mem (f := fun x => ls x m) hk) (ls_dv hd), Int.sub_zero]
theorem kp_reds {n : Nat} {M : List (List Int)} (h : Nnn n M) : ∀ {R : List (List Int)}, Nnn n R → (∀ r ∈ R, Up M r) → kp (R ++ M) = kp M
  | [], _, _ => rfl
  | r :: R, hR, hu => by
    have hR2 : Nnn n R := hR.sub fun m hm => List.mem_cons_of_mem _ hm
    obtain ⟨k, hk, hd⟩ := hu r List.mem_cons_self
    rw [List.cons_append, kp_red (fun m hm => (List.mem_append.mp hm).elim (hR2 m) (h m)) (hR r List.mem_cons_self).1 (List.mem_append_right _ hk) hd]
    exact kp_reds h hR2 fun r' hr' => hu r' (List.mem_cons_of_mem _ hr')
/-- the numerator is one of the lot, not of the products that give it -/
theorem kp_up {n : Nat} {M N : List (List Int)} (hM : Nnn n M) (hN : Nnn n N) (h1 : ∀ r ∈ M, Up N r) (h2 : ∀ r ∈ N, Up M r) : kp M = kp N := by
  rw [← kp_reds hN hM h1, ← kp_reds hM hN h2]
  exact kp_perm List.perm_append_comm fun m hm => (List.mem_append.mp hm).elim (hN m) (hM m)
theorem kp_least {n : Nat} {B : Int} {L M : List (List Int)} (h : IsLeast L M) (hp : Prods n B L) : kp M = kp L := by
  refine kp_up (n := n) (Nnn.of (h.prods hp)) (Nnn.of hp) (fun r hr => ⟨r, h.sub r hr, dvB_refl r⟩) fun r hr => ?_
  exact (least_up h hp (hp r hr).1).mpr ⟨r, hr, dvB_refl r⟩
/-! ### one more product -/
theorem kp_more {n : Nat} {M : List (List Int)} {p : List Int} (h : Nnn n (p :: M)) (d : Int) : kp (M ++ [p]) d = kp M d - kp (lsl M p) (d - p.sum) := by
  rw [← kp_perm (List.perm_append_comm (l₁ := [p])) h]
  exact kp_cons p M d
/-! ### letters apart -/
def ap : KF → List (List Int) → KF
  | f, [] => f
  | f, m :: M => ap (fun d => f d - f (d - m.sum)) M
theorem ap_sub : ∀ (M : List (List Int)) (f : KF) (e d : Int), ap (fun d => f d - f (d - e)) M d = ap f M d - ap f M (d - e)
  | [], _, _, _ => rfl
  | m :: M, f, e, d => by
    have h : (fun d : Int => (fun d => f d - f (d - e)) d - (fun d => f d - f (d - e)) (d - m.sum)) = fun d => (fun d => f d - f (d - m.sum)) d - (fun d => f d - f (d - m.sum)) (d - e) := by
      funext d
      show f d - f (d - e) - (f (d - m.sum) - f (d - m.sum - e)) = f d - f (d - m.sum) - (f (d - e) - f (d - e - m.sum))
      rw [show d - m.sum - e = d - e - m.sum by omega]
      omega
    show ap (fun d : Int => (fun d => f d - f (d - e)) d - (fun d => f d - f (d - e)) (d - m.sum)) M d = _
    rw [h, ap_sub M (fun d => f d - f (d - m.sum)) e d]
    rfl
def Apart (x m : List Int) : Prop := ∀ p ∈ x.zip m, p.1 = 0 ∨ p.2 = 0
theorem ls_apart : ∀ {x m : List Int}, x.length = m.length → (∀ y ∈ x, 0 ≤ y) → (∀ y ∈ m, 0 ≤ y) → Apart x m → ls x m = x
  | [], [], _, _, _, _ => rfl
  | x :: xs, m :: ms, h, hx, hm, ha => by
    show max 0 (x - m) :: ls xs ms = x :: xs
    rw [ls_apart (by simpa using h) (fun y hy => hx y (List.mem_cons_of_mem _ hy)) (fun y hy => hm y (List.mem_cons_of_mem _ hy)) (fun p hp => ha p (List.mem_cons_of_mem _ hp))]
    have h1 := hx x List.mem_cons_self
    have h3 := hm m List.mem_cons_self
    have h2 := ha (x, m) List.mem_cons_self
    congr 1
    rcases h2 with h2 | h2 <;> simp only at h2 <;> omega
def cnt (M : List (List Int)) (i : Nat) : Nat := (M.filter fun m => decide (0 < m.getD i 0)).length
theorem apart_of : ∀ {x m : List Int}, x.length = m.length → (∀ y ∈ x, 0 ≤ y) → (∀ y ∈ m, 0 ≤ y) → (∀ i < x.length, ¬(0 < x.getD i 0 ∧ 0 < m.getD i 0)) → Apart x m
  | [], [], _, _, _, _ => fun p hp => by cases hp
  | x :: xs, m :: ms, h, hx, hm, hc => fun p hp => by
    rcases List.mem_cons.mp (show p ∈ (x, m) :: xs.zip ms from hp) with e | e
    · subst e
      have h0 := hc 0 (by simp)
      have h1 := hx x List.mem_cons_self
      have h2 := hm m List.mem_cons_self
      simp only [List.getD_cons_zero] at h0
      show x = 0 ∨ m = 0
      omega
    · exact apart_of (by simpa using h) (fun y hy => hx y (List.mem_cons_of_mem _ hy)) (fun y hy => hm y (List.mem_cons_of_mem _ hy)) (fun i hi => by have := hc (i + 1) (by simpa using hi); simpa using this) p e
theorem cnt_apart {n : Nat} {m : List Int} {M : List (List Int)} (h : Nnn n (m :: M)) (hc : ∀ i < n, cnt (m :: M) i < 2) : (∀ x ∈ M, Apart x m) ∧ ∀ i < n, cnt M i < 2 := by
  have hc2 : ∀ i < n, cnt M i < 2 := fun i hi => by
    have h1 := hc i hi
    unfold cnt at h1 ⊢
    rw [List.filter_cons] at h1
    split at h1
    · rw [List.length_cons] at h1; omega
    · exact h1
  refine ⟨fun x hx => ?_, hc2⟩
  have h1 := h x (List.mem_cons_of_mem _ hx)
  have h2 := h m List.mem_cons_self
  refine apart_of (h1.1.trans h2.1.symm) h1.2 h2.2 fun i hi ⟨p, q⟩ => ?_
  have h3 := hc i (by omega)
  unfold cnt at h3
  rw [List.filter_cons, if_pos (decide_eq_true q), List.length_cons] at h3
  have h4 : x ∈ M.filter fun m => decide (0 < m.getD i 0) := List.mem_filter.mpr ⟨hx, decide_eq_true p⟩
  have := List.length_pos_of_mem h4
  omega
theorem lsl_apart {n : Nat} {m : List Int} {M : List (List Int)} (h : Nnn n (m :: M)) (ha : ∀ x ∈ M, Apart x m) : lsl M m = M := by
  unfold lsl
  refine (List.map_congr_left fun x hx => ?_).trans (List.map_id _)
  have h1 := h x (List.mem_cons_of_mem _ hx)
  exact ls_apart (h1.1.trans (h m List.mem_cons_self).1.symm) h1.2 (h m List.mem_cons_self).2 (ha x hx)
theorem kp_ap {n : Nat} : ∀ {M : List (List Int)}, Nnn n M → (∀ i < n, cnt M i < 2) → ∀ d, kp M d = ap kz M d
  | [], _, _, d => by rw [kp_nil]; rfl
  | m :: M, h, hc, d => by
    obtain ⟨ha, hc2⟩ := cnt_apart h hc
    have hM : Nnn n M := h.sub fun x hx => List.mem_cons_of_mem _ hx
    rw [kp_cons, lsl_apart h ha, kp_ap hM hc2, kp_ap hM hc2]
    exact (ap_sub M kz m.sum d).symm
/-! ### boxes -/
def Box (b : List Int) (M : List (List Int)) : Prop := ∀ m ∈ M, dvB m b = true
theorem df_sum : ∀ {b m : List Int}, m.length = b.length → (df b m).sum = b.sum - m.sum
  | [], [], _ => rfl
  | b :: bs, m :: ms, h => by
    show ((b - m) :: df bs ms).sum = _
    rw [List.sum_cons, List.sum_cons, List.sum_cons, df_sum (by simpa using h)]
    omega
theorem dv_df : ∀ {x m b : List Int}, x.length = b.length → m.length = b.length → dvB x b = true → dvB m b = true → Apart x m → dvB x (df b m) = true
  | [], _, _, _, _, _, _, _ => rfl
  | x :: xs, [], b, h1, h2, _, _, _ => by rw [List.length_cons] at h1; rw [List.length_nil] at h2; omega
  | x :: xs, m :: ms, [], h1, _, _, _, _ => by simp at h1
  | x :: xs, m :: ms, b :: bs, h1, h2, h3, h4, ha => by
    rw [dvB_cons, Bool.and_eq_true, decide_eq_true_eq] at h3 h4
    show dvB (x :: xs) ((b - m) :: df bs ms) = true
    rw [dvB_cons, Bool.and_eq_true, decide_eq_true_eq]
    refine ⟨?_, dv_df (by simpa using h1) (by simpa using h2) h3.2 h4.2 fun p hp => ha p (List.mem_cons_of_mem _ hp)⟩
    rcases ha (x, m) List.mem_cons_self with h5 | h5 <;> simp only at h5 <;> omega
theorem ap_bound {n : Nat} : ∀ {M : List (List Int)} {b : List Int}, Nnn n M → (∀ i < n, cnt M i < 2) → b.length = n → (∀ y ∈ b, 0 ≤ y) → Box b M → (M.map List.sum).sum ≤ b.sum
  | [], b, _, _, _, h0, _ => sum_nonneg' h0
  | m :: M, b, h, hc, hb, h0, hx => by
    obtain ⟨ha, hc2⟩ := cnt_apart h hc
    have hm := (h m List.mem_cons_self).1
    have := ap_bound (b := df b m) (h.sub fun x hx => List.mem_cons_of_mem _ hx) hc2 ((df_len (by omega)).trans hb) (df_nn.mp (hx m List.mem_cons_self)) fun x hx2 =>
      dv_df ((h x (List.mem_cons_of_mem _ hx2)).1.trans hb.symm) (hm.trans hb.symm) (hx x (List.mem_cons_of_mem _ hx2)) (hx m List.mem_cons_self) (ha x hx2)
    rw [df_sum (by omega)] at this
    rw [List.map_cons, List.sum_cons]
    omega
/-! ### the split at one letter's power -/
def pw (n i : Nat) (e : Int) : List Int := (List.range n).map fun j => if j = i then e else 0
theorem pwr_len (n i : Nat) (e : Int) : (pw n i e).length = n := by unfold pw; rw [List.length_map, List.length_range]
theorem pw_nn {n i : Nat} {e : Int} (he : 0 ≤ e) : ∀ y ∈ pw n i e, 0 ≤ y := fun y hy => by
  obtain ⟨j, _, rfl⟩ := List.mem_map.mp hy
  split <;> omega
theorem pw_succ (n : Nat) (e : Int) : pw (n + 1) 0 e = e :: List.replicate n 0 := by
  unfold pw
  rw [List.range_succ_eq_map, List.map_cons, List.map_map, if_pos rfl]
  congr 1
  refine List.ext_getElem (by simp) fun i h1 h2 => ?_
  simp
theorem pw_ss (n i : Nat) (e : Int) : pw (n + 1) (i + 1) e = 0 :: pw n i e := by
  unfold pw
  rw [List.range_succ_eq_map, List.map_cons, List.map_map, if_neg (by omega)]
  congr 1
  refine List.map_congr_left fun j _ => ?_
  show (if j + 1 = i + 1 then e else 0) = _
  by_cases h : j = i
  · rw [if_pos h, if_pos (by omega)]
  · rw [if_neg h, if_neg (by omega)]
theorem rep_sum (n : Nat) : (List.replicate n (0 : Int)).sum = 0 := sum_zero fun y hy => (List.mem_replicate.mp hy).2
theorem pw_sum : ∀ {n i : Nat} {e : Int}, i < n → (pw n i e).sum = e
  | 0, _, _, h => absurd h (Nat.not_lt_zero _)
  | n + 1, 0, e, _ => by rw [pw_succ, List.sum_cons, rep_sum]; omega
  | n + 1, i + 1, e, h => by rw [pw_ss, List.sum_cons, pw_sum (by omega)]; omega
theorem dv_rep : ∀ {n : Nat} {m : List Int}, (∀ y ∈ m, 0 ≤ y) → dvB (List.replicate n 0) m = true
  | 0, _, _ => rfl
  | _ + 1, [], _ => rfl
  | n + 1, x :: m, h => by
    rw [List.replicate_succ, dvB_cons, decide_eq_true (h x List.mem_cons_self), dv_rep fun y hy => h y (List.mem_cons_of_mem _ hy)]
    rfl
theorem dv_pw : ∀ {n i : Nat} {e : Int} {m : List Int}, m.length = n → i < n → (∀ y ∈ m, 0 ≤ y) → dvB (pw n i e) m = decide (e ≤ m.getD i 0)
  | 0, _, _, _, _, h, _ => absurd h (Nat.not_lt_zero _)
  | n + 1, 0, e, x :: m, h, _, h0 => by
    rw [pw_succ, dvB_cons, dv_rep fun y hy => h0 y (List.mem_cons_of_mem _ hy), Bool.and_true]
    rfl
  | n + 1, i + 1, e, x :: m, h, hi, h0 => by
    rw [pw_ss, dvB_cons, decide_eq_true (h0 x List.mem_cons_self), Bool.true_and, dv_pw (by simpa using h) (by omega) fun y hy => h0 y (List.mem_cons_of_mem _ hy)]
    rfl
theorem ls_pw : ∀ {n i : Nat} {e : Int} {m : List Int}, m.length = n → i < n → (∀ y ∈ m, 0 ≤ y) → ls m (pw n i e) = m.take i ++ max 0 (m.getD i 0 - e) :: m.drop (i + 1)
  | 0, _, _, _, _, h, _ => absurd h (Nat.not_lt_zero _)
  | n + 1, 0, e, x :: m, h, _, h0 => by
    rw [pw_succ]
    show max 0 (x - e) :: ls m (List.replicate n 0) = max 0 (x - e) :: m
    rw [ls_zero (by simpa using h) (fun y hy => h0 y (List.mem_cons_of_mem _ hy)) fun y hy => (List.mem_replicate.mp hy).2]
  | n + 1, i + 1, e, x :: m, h, hi, h0 => by
    rw [pw_ss]
    show max 0 (x - 0) :: ls m (pw n i e) = x :: (m.take i ++ max 0 (m.getD i 0 - e) :: m.drop (i + 1))
    rw [ls_pw (by simpa using h) (by omega) fun y hy => h0 y (List.mem_cons_of_mem _ hy)]
    have := h0 x List.mem_cons_self
    congr 1
    omega
def below (M : List (List Int)) (i : Nat) (e : Int) : List (List Int) := M.filter fun m => decide (m.getD i 0 < e)
def cutM (n : Nat) (M : List (List Int)) (i : Nat) (e : Int) : List (List Int) := lsl M (pw n i e)
def nextM (n : Nat) (M : List (List Int)) (i : Nat) (e : Int) : List (List Int) := below M i e ++ [pw n i e]
theorem Nnn.next {n i : Nat} {M : List (List Int)} {e : Int} (h : Nnn n M) (he : 0 ≤ e) : Nnn n (nextM n M i e) := fun m hm => by
  rcases List.mem_append.mp hm with z | z
  · exact h m (List.mem_filter.mp z).1
  · rw [List.mem_singleton.mp z]
    exact ⟨pwr_len _ _ _, pw_nn he⟩
theorem kp_split {n i : Nat} {M : List (List Int)} {e : Int} (h : Nnn n M) (hi : i < n) (he : 0 ≤ e) (d : Int) : kp M d = kp (nextM n M i e) d + kp (cutM n M i e) (d - e) := by
  have hp : Nnn n [pw n i e] := fun m hm => by rw [List.mem_singleton.mp hm]; exact ⟨pwr_len _ _ _, pw_nn he⟩
  have h1 : Nnn n (M ++ [pw n i e]) := fun m hm => (List.mem_append.mp hm).elim (h m) (hp m)
  have h2 : kp (M ++ [pw n i e]) = kp (nextM n M i e) := by
    refine kp_up h1 (h.next he) (fun r hr => ?_) fun r hr => ?_
    · rcases List.mem_append.mp hr with z | z
      · by_cases c : r.getD i 0 < e
        · exact ⟨r, List.mem_append_left _ (List.mem_filter.mpr ⟨z, decide_eq_true c⟩), dvB_refl r⟩
        · exact ⟨_, List.mem_append_right _ (List.mem_singleton.mpr rfl), by rw [dv_pw (h r z).1 hi (h r z).2]; exact decide_eq_true (by omega)⟩
      · exact ⟨r, List.mem_append_right _ z, dvB_refl r⟩
    · rcases List.mem_append.mp hr with z | z
      · exact ⟨r, List.mem_append_left _ (List.mem_filter.mp z).1, dvB_refl r⟩
      · exact ⟨r, List.mem_append_right _ z, dvB_refl r⟩
  have h3 := kp_more (n := n) (M := M) (p := pw n i e) (fun m hm => (List.mem_cons.mp hm).elim (fun z => hp m (List.mem_singleton.mpr z)) (h m)) d
  rw [h2, pw_sum hi] at h3
  rw [h3]
  show _ = kp M d - kp (cutM n M i e) (d - e) + _
  omega
theorem below_len {M : List (List Int)} {i : Nat} {e : Int} (h : 2 ≤ (M.filter fun m => decide (e ≤ m.getD i 0)).length) : (below M i e).length + 2 ≤ M.length := by
  have e1 : ∀ M : List (List Int), (M.filter fun m => decide (e ≤ m.getD i 0)).length + (below M i e).length = M.length := by
    intro M
    induction M with
    | nil => rfl
    | cons m M ih =>
      unfold below at ih ⊢
      rw [List.filter_cons, List.filter_cons]
      by_cases c : e ≤ m.getD i 0
      · rw [if_pos (decide_eq_true c), if_neg (by rw [decide_eq_true_eq]; omega), List.length_cons, List.length_cons]; omega
      · rw [if_neg (by rw [decide_eq_true_eq]; exact c), if_pos (decide_eq_true (by omega)), List.length_cons, List.length_cons]; omega
  have := e1 M
  omega
theorem Box.next {n i : Nat} {M : List (List Int)} {b : List Int} {e : Int} (h : Box b M) (hn : Nnn n M) (hb : b.length = n) (h0 : ∀ y ∈ b, 0 ≤ y) (hi : i < n) {m : List Int} (hm : m ∈ M) (hme : e ≤ m.getD i 0) : Box b (nextM n M i e) := fun r hr => by
  rcases List.mem_append.mp hr with z | z
  · exact h r (List.mem_filter.mp z).1
  · rw [List.mem_singleton.mp z]
    refine dvB_trans (ys := m) ((pwr_len _ _ _).trans (hn m hm).1.symm) ((hn m hm).1.trans hb.symm) ?_ (h m hm)
    rw [dv_pw (hn m hm).1 hi (hn m hm).2]
    exact decide_eq_true hme
theorem ls_mono : ∀ {x y z : List Int}, x.length = z.length → y.length = z.length → dvB x y = true → dvB (ls x z) (ls y z) = true
  | [], _, _, _, _, _ => by simp [ls, dvB]
  | x :: xs, y, [], h1, _, _ => by simp at h1
  | x :: xs, [], z :: zs, _, h2, _ => by simp at h2
  | x :: xs, y :: ys, z :: zs, h1, h2, h => by
    rw [dvB_cons, Bool.and_eq_true, decide_eq_true_eq] at h
    show dvB (max 0 (x - z) :: ls xs zs) (max 0 (y - z) :: ls ys zs) = true
    rw [dvB_cons, ls_mono (by simpa using h1) (by simpa using h2) h.2, Bool.and_true]
    exact decide_eq_true (by omega)
theorem Box.cut {n : Nat} {M : List (List Int)} {b p : List Int} (h : Box b M) (hn : Nnn n M) (hb : b.length = n) (hp : p.length = n) : Box (ls b p) (lsl M p) := fun r hr => by
  obtain ⟨m, hm, rfl⟩ := List.mem_map.mp hr
  exact ls_mono ((hn m hm).1.trans hp.symm) (hb.trans hp.symm) (h m hm)
theorem ls_sum : ∀ {b p : List Int}, dvB p b = true → b.length = p.length → (ls b p).sum = b.sum - p.sum := fun {b p} h hl => by
  rw [ls_df h, df_sum hl.symm]
/-! ### the exponent of the split -/
theorem sorted_tail {E : List Int} (hs : E.Pairwise (· ≤ ·)) {j : Nat} {e : Int} (he : E[j]? = some e) : E.length - j ≤ (E.filter fun x => decide (e ≤ x)).length := by
  have h1 : ∀ x ∈ E.drop j, e ≤ x := by
    intro x hx
    obtain ⟨k, hk, rfl⟩ := List.mem_iff_getElem.mp hx
    rw [List.getElem_drop]
    have hj := (List.getElem?_eq_some_iff.mp he).1
    have he2 := (List.getElem?_eq_some_iff.mp he).2
    rw [List.length_drop] at hk
    by_cases c : k = 0
    · subst c; simp only [Nat.add_zero]; omega
    · have := List.pairwise_iff_getElem.mp hs j (j + k) hj (by omega) (by omega)
      omega
  have h2 : ((E.drop j).filter fun x => decide (e ≤ x)) = E.drop j := List.filter_eq_self.mpr fun x hx => decide_eq_true (h1 x hx)
  have h3 : ((E.drop j).filter fun x => decide (e ≤ x)).Sublist (E.filter fun x => decide (e ≤ x)) := (List.drop_sublist j E).filter _
  have := h3.length_le
  rw [h2, List.length_drop] at this
  exact this
theorem two_above {M : List (List Int)} {i : Nat} {E : List Int} (hp : E.Perm ((M.filter fun m => decide (0 < m.getD i 0)).map fun m => m.getD i 0)) (hs : E.Pairwise (· ≤ ·)) {e : Int} (hc : 2 ≤ cnt M i) (he : E[(cnt M i - 1) / 2]? = some e) :
    1 ≤ e ∧ 2 ≤ (M.filter fun m => decide (e ≤ m.getD i 0)).length := by
  have hl : E.length = cnt M i := by rw [hp.length_eq, List.length_map]; rfl
  have he1 : e ∈ E := List.mem_of_getElem? he
  obtain ⟨m, hm, e2⟩ := List.mem_map.mp (hp.mem_iff.mp he1)
  have h1 : 0 < m.getD i 0 := of_decide_eq_true (List.mem_filter.mp hm).2
  refine ⟨by omega, ?_⟩
  have h3 := sorted_tail hs he
  rw [hl] at h3
  have h4 : (E.filter fun x => decide (e ≤ x)).length ≤ (M.filter fun m => decide (e ≤ m.getD i 0)).length := by
    rw [(hp.filter _).length_eq, List.filter_map, List.length_map]
    exact ((List.filter_sublist (p := fun m : List Int => decide (0 < m.getD i 0)) (l := M)).filter _).length_le
  omega
/-! ### how many products are left -/
def sumTo (f : Nat → Int) : Nat → Int
  | 0 => 0
  | n + 1 => sumTo f n + f n
/-- the products of degree d that the lot leaves out, out of the numerator -/
def lc (c : Int → Int) (f : KF) (D : Int) : Int := sumTo (fun d => f d * c (D - d)) (D + 1).toNat
theorem sumTo_congr {f g : Nat → Int} : ∀ {n : Nat}, (∀ i < n, f i = g i) → sumTo f n = sumTo g n
  | 0, _ => rfl
  | n + 1, h => by
    show sumTo f n + f n = sumTo g n + g n
    rw [sumTo_congr fun i hi => h i (by omega), h n (by omega)]
theorem sumTo_add (f g : Nat → Int) : ∀ n : Nat, sumTo (fun i => f i + g i) n = sumTo f n + sumTo g n
  | 0 => rfl
  | n + 1 => by
    show sumTo (fun i => f i + g i) n + (f n + g n) = sumTo f n + f n + (sumTo g n + g n)
    rw [sumTo_add f g n]
    omega
theorem sumTo_zero {f : Nat → Int} : ∀ {n : Nat}, (∀ i < n, f i = 0) → sumTo f n = 0
  | 0, _ => rfl
  | n + 1, h => by
    show sumTo f n + f n = 0
    rw [sumTo_zero fun i hi => h i (by omega), h n (by omega)]
    rfl
theorem sumTo_shift (f : Nat → Int) (e : Nat) (h : ∀ i < e, f i = 0) : ∀ n : Nat, sumTo f (e + n) = sumTo (fun i => f (e + i)) n
  | 0 => sumTo_zero h
  | n + 1 => by
    show sumTo f (e + n) + f (e + n) = sumTo (fun i => f (e + i)) n + f (e + n)
    rw [sumTo_shift f e h n]
/-! ### sums over a dict's keys -/
theorem sum_perm {α : Type} {f : α → Int} {K L : List α} (h : K.Perm L) : (K.map f).sum = (L.map f).sum := by
  induction h with
  | nil => rfl
  | cons x _ ih => rw [List.map_cons, List.map_cons, List.sum_cons, List.sum_cons, ih]
  | swap x y l => simp only [List.map_cons, List.sum_cons]; omega
  | trans _ _ ih1 ih2 => exact ih1.trans ih2
theorem sum_range (f : Nat → Int) : ∀ n : Nat, ((List.range n).map f).sum = sumTo f n
  | 0 => rfl
  | n + 1 => by
    rw [List.range_succ, List.map_append, List.sum_append, sum_range f n]
    show _ + (f n + 0) = sumTo f n + f n
    omega
theorem sum_filter0 {α : Type} {f : α → Int} {p : α → Bool} : ∀ {K : List α}, (∀ x ∈ K, p x = false → f x = 0) → ((K.filter p).map f).sum = (K.map f).sum
  | [], _ => rfl
  | x :: K, h => by
    have ih := sum_filter0 (f := f) (p := p) (K := K) fun y hy => h y (List.mem_cons_of_mem _ hy)
    rw [List.filter_cons]
    by_cases c : p x = true
    · rw [if_pos c, List.map_cons, List.map_cons, List.sum_cons, List.sum_cons, ih]
    · rw [if_neg c, List.map_cons, List.sum_cons, ih, h x List.mem_cons_self (by simpa using c)]
      omega
theorem lc_keys {c : Int → Int} {f : KF} {ks : List Int} (nd : ks.Nodup) (h0 : ∀ k ∈ ks, 0 ≤ k) (hs : ∀ d, d ∉ ks → f d = 0) {D : Int} : ((ks.filter fun k => decide (k ≤ D)).map fun k => f k * c (D - k)).sum = lc c f D := by
  unfold lc
  rw [← sum_range]
  have e : ((List.range (D + 1).toNat).map fun (d : Nat) => f d * c (D - d)) = ((List.range (D + 1).toNat).map fun (d : Nat) => (d : Int)).map fun (k : Int) => f k * c (D - k) := by rw [List.map_map]; rfl
  rw [e, ← sum_filter0 (f := fun k => f k * c (D - k)) (p := fun k => decide (k ∈ ks)) (K := (List.range (D + 1).toNat).map fun (d : Nat) => (d : Int)) fun x _ hx => by rw [hs x (of_decide_eq_false hx), Int.zero_mul]]
  refine sum_perm ((List.perm_ext_iff_of_nodup (List.Pairwise.filter _ nd) (List.Pairwise.filter _ ?_)).mpr fun k => ?_)
  · exact List.Pairwise.map (S := Ne) (fun (d : Nat) => (d : Int)) (fun a b h => by omega) List.nodup_range
  · rw [List.mem_filter, List.mem_filter, decide_eq_true_eq, decide_eq_true_eq, List.mem_map]
    constructor
    · rintro ⟨h1, h2⟩
      have := h0 k h1
      exact ⟨⟨k.toNat, List.mem_range.mpr (by omega), by omega⟩, h1⟩
    · rintro ⟨⟨j, hj, rfl⟩, h1⟩
      rw [List.mem_range] at hj
      exact ⟨h1, by omega⟩
end DL

/-! k13, plain: binomials of any top, differences, sums of finite functions. -/
namespace DL
open PySem L2
/-! ### two functions with the same differences -/
theorem fn_ext {f g : KF} (h0 : f 0 = g 0) (h : ∀ d, f (d + 1) - f d = g (d + 1) - g d) : ∀ d, f d = g d := by
  have h1 : ∀ j : Nat, f j = g j := fun j => by
    induction j with
    | zero => exact h0
    | succ j ih => have := h j; push_cast; omega
  have h2 : ∀ j : Nat, f (-(j : Int)) = g (-(j : Int)) := fun j => by
    induction j with
    | zero => exact h0
    | succ j ih =>
      have := h (-((j + 1 : Nat) : Int))
      rw [show (-((j + 1 : Nat) : Int) + 1) = -(j : Int) by omega] at this
      omega
  intro d
  by_cases c : 0 ≤ d
  · have := h1 d.toNat; rwa [show ((d.toNat : Nat) : Int) = d by omega] at this
  · have := h2 (-d).toNat; rwa [show (-(((-d).toNat : Nat) : Int)) = d by omega] at this
/-! ### binomials -/
def sg (k : Nat) : Int := if k % 2 = 1 then -1 else 1
theorem sg_succ (k : Nat) : sg (k + 1) = - sg k := by unfold sg; split <;> split <;> omega
def bn (k : Nat) (x : Int) : Int := if 0 ≤ x then (ch x.toNat k : Int) else sg k * (ch (k + (-x).toNat - 1) k : Int)
theorem bn_nat (k j : Nat) : bn k j = (ch j k : Int) := by unfold bn; rw [if_pos (by omega), Int.toNat_natCast]
theorem bn_neg (k j : Nat) : bn k (-(j : Int)) = sg k * bn k ((k : Int) + j - 1) := by
  cases j with
  | zero =>
    cases k with
    | zero => rfl
    | succ k =>
      rw [show ((k + 1 : Nat) : Int) + ((0 : Nat) : Int) - 1 = (k : Int) by omega, bn_nat, ch_big (by omega)]
      show bn (k + 1) 0 = _
      rw [show (0 : Int) = ((0 : Nat) : Int) from rfl, bn_nat, ch_big (by omega)]
      simp
  | succ j =>
    rw [show (k : Int) + ((j + 1 : Nat) : Int) - 1 = ((k + j : Nat) : Int) by omega, bn_nat]
    unfold bn
    rw [if_neg (by omega), show k + (-(-((j + 1 : Nat) : Int))).toNat - 1 = k + j by omega]
theorem bn_zero (x : Int) : bn 0 x = 1 := by
  unfold bn
  split
  · rw [ch_0]; rfl
  · rw [ch_0]; rfl
theorem bn_at0 (k : Nat) : bn (k + 1) 0 = 0 := by
  rw [show (0 : Int) = ((0 : Nat) : Int) from rfl, bn_nat, ch_big (by omega)]
theorem bn_pas (k : Nat) (x : Int) : bn (k + 1) (x + 1) = bn k x + bn (k + 1) x := by
  by_cases c : 0 ≤ x
  · obtain ⟨j, rfl⟩ := Int.eq_ofNat_of_zero_le c
    rw [show ((j : Int) + 1) = ((j + 1 : Nat) : Int) by omega, bn_nat, bn_nat, bn_nat, ch]
    omega
  · obtain ⟨j, hj⟩ := Int.eq_ofNat_of_zero_le (a := -x - 1) (by omega)
    have e : x = -((j + 1 : Nat) : Int) := by omega
    subst e
    rw [show (-((j + 1 : Nat) : Int) + 1) = -(j : Int) by omega, bn_neg, bn_neg, bn_neg, sg_succ,
      show ((k + 1 : Nat) : Int) + (j : Int) - 1 = ((k + j : Nat) : Int) by omega,
      show (k : Int) + ((j + 1 : Nat) : Int) - 1 = ((k + j : Nat) : Int) by omega,
      show ((k + 1 : Nat) : Int) + ((j + 1 : Nat) : Int) - 1 = ((k + j + 1 : Nat) : Int) by omega, bn_nat, bn_nat, bn_nat, ch]
    push_cast
    grind
theorem bn_step : ∀ (k : Nat) (x : Int), ((k : Int) + 1) * bn (k + 1) x = (x - k) * bn k x
  | 0, x => by
    refine fn_ext (f := fun x => ((0 : Nat) + 1 : Int) * bn 1 x) (g := fun x => (x - (0 : Nat)) * bn 0 x) ?_ (fun d => ?_) x
    · show ((0 : Nat) + 1 : Int) * bn 1 0 = _
      rw [bn_at0]
      simp
    · show ((0 : Nat) + 1 : Int) * bn (0 + 1) (d + 1) - ((0 : Nat) + 1 : Int) * bn 1 d = (d + 1 - (0 : Nat)) * bn 0 (d + 1) - (d - (0 : Nat)) * bn 0 d
      rw [bn_pas, bn_zero, bn_zero]
      simp only [Nat.zero_add]
      grind
  | k + 1, x => by
    refine fn_ext (f := fun x => (((k + 1 : Nat) : Int) + 1) * bn (k + 1 + 1) x) (g := fun x => (x - ((k + 1 : Nat) : Int)) * bn (k + 1) x) ?_ (fun d => ?_) x
    · show (((k + 1 : Nat) : Int) + 1) * bn (k + 1 + 1) 0 = (0 - ((k + 1 : Nat) : Int)) * bn (k + 1) 0
      rw [bn_at0, bn_at0]
      simp
    · show (((k + 1 : Nat) : Int) + 1) * bn (k + 1 + 1) (d + 1) - (((k + 1 : Nat) : Int) + 1) * bn (k + 1 + 1) d = (d + 1 - ((k + 1 : Nat) : Int)) * bn (k + 1) (d + 1) - (d - ((k + 1 : Nat) : Int)) * bn (k + 1) d
      have ih := bn_step k d
      rw [bn_pas (k + 1) d, bn_pas k d]
      push_cast
      grind
/-- a product of falling numbers over a factorial -/
def ff (x : Int) : Nat → Int
  | 0 => 1
  | k + 1 => ff x k * (x - k)
def fac : Nat → Int
  | 0 => 1
  | k + 1 => fac k * (k + 1)
theorem fac_pos : ∀ k, 0 < fac k
  | 0 => by decide
  | k + 1 => Int.mul_pos (fac_pos k) (by omega)
theorem ff_bn (x : Int) : ∀ k : Nat, ff x k = fac k * bn k x
  | 0 => by rw [bn_zero]; rfl
  | k + 1 => by
    show ff x k * (x - k) = fac k * (k + 1) * bn (k + 1) x
    rw [ff_bn x k, Int.mul_assoc, Int.mul_assoc, bn_step, Int.mul_comm (bn k x)]
theorem ff_div (x : Int) (k : Nat) : ff x k / fac k = bn k x := by
  rw [ff_bn, Int.mul_ediv_cancel_left _ (by have := fac_pos k; omega)]
/-! ### sums -/
theorem sumTo_more {f : Nat → Int} {B : Nat} (h : ∀ i, B ≤ i → f i = 0) : ∀ {C : Nat}, B ≤ C → sumTo f C = sumTo f B
  | 0, hc => by rw [show B = 0 by omega]
  | C + 1, hc => by
    by_cases e : B = C + 1
    · rw [e]
    · show sumTo f C + f C = _
      rw [sumTo_more h (by omega), h C (by omega), Int.add_zero]
theorem sumTo_head (f : Nat → Int) : ∀ n, sumTo f (n + 1) = f 0 + sumTo (fun i => f (i + 1)) n
  | 0 => by show (0 : Int) + f 0 = f 0 + 0; omega
  | n + 1 => by
    show sumTo f (n + 1) + f (n + 1) = f 0 + (sumTo (fun i => f (i + 1)) n + f (n + 1))
    rw [sumTo_head f n]; omega
theorem sumTo_sub (f g : Nat → Int) : ∀ n : Nat, sumTo (fun i => f i - g i) n = sumTo f n - sumTo g n
  | 0 => rfl
  | n + 1 => by
    show sumTo (fun i => f i - g i) n + (f n - g n) = sumTo f n + f n - (sumTo g n + g n)
    rw [sumTo_sub f g n]; omega
/-! ### forward differences -/
def dw (g : KF) : KF := fun d => g (d + 1) - g d
def dwn : Nat → KF → KF
  | 0, g => g
  | m + 1, g => dw (dwn m g)
theorem dwn_in : ∀ (m : Nat) (g : KF), dwn m (dw g) = dw (dwn m g)
  | 0, _ => rfl
  | m + 1, g => by show dw (dwn m (dw g)) = dw (dw (dwn m g)); rw [dwn_in m g]
theorem dwn_add : ∀ (a b : Nat) (g : KF), dwn a (dwn b g) = dwn (a + b) g
  | 0, b, g => by rw [Nat.zero_add]; rfl
  | a + 1, b, g => by rw [show a + 1 + b = (a + b) + 1 by omega]; show dw (dwn a (dwn b g)) = dw (dwn (a + b) g); rw [dwn_add a b g]
theorem dwn_shift (s : Int) : ∀ (m : Nat) (g : KF), dwn m (fun d => g (s + d)) = fun d => dwn m g (s + d)
  | 0, _ => rfl
  | m + 1, g => by
    show dw (dwn m fun d => g (s + d)) = _
    rw [dwn_shift s m g]
    funext d
    show dwn m g (s + (d + 1)) - dwn m g (s + d) = dwn m g (s + d + 1) - dwn m g (s + d)
    rw [Int.add_assoc]
theorem newton : ∀ (m : Nat) (g : KF), (∀ x, dwn m g x = 0) → ∀ d, g d = sumTo (fun j => dwn j g 0 * bn j d) m
  | 0, g, h, d => h d
  | m + 1, g, h, d => by
    have ih := newton m (dw g) (fun x => by rw [dwn_in]; exact h x)
    refine fn_ext (f := g) (g := fun d => sumTo (fun j => dwn j g 0 * bn j d) (m + 1)) ?_ (fun d => ?_) d
    · show g 0 = sumTo (fun j => dwn j g 0 * bn j 0) (m + 1)
      rw [sumTo_head, sumTo_zero fun i _ => by rw [bn_at0, Int.mul_zero], bn_zero]
      show g 0 = g 0 * 1 + 0
      omega
    · show dw g d = sumTo (fun j => dwn j g 0 * bn j (d + 1)) (m + 1) - sumTo (fun j => dwn j g 0 * bn j d) (m + 1)
      rw [sumTo_head, sumTo_head, bn_zero, bn_zero, ih d]
      have e : sumTo (fun i => dwn (i + 1) g 0 * bn (i + 1) (d + 1)) m = sumTo (fun j => dwn j (dw g) 0 * bn j d) m + sumTo (fun i => dwn (i + 1) g 0 * bn (i + 1) d) m := by
        rw [← sumTo_add]
        refine sumTo_congr fun i _ => ?_
        rw [bn_pas, Int.mul_add, dwn_in]
        rfl
      rw [e]
      omega
/-- the row moved from a start to 0 -/
theorem moved_is {g : KF} {m : Nat} (h : ∀ x, dwn m g x = 0) (s : Nat) {l : Nat} (hl : l ≤ m) :
    dwn l g 0 = sumTo (fun i => dwn (l + i) g s * (sg i * bn i ((i : Int) + s - 1))) (m - l) := by
  have h1 := newton (m - l) (fun d => dwn l g ((s : Int) + d)) (fun x => by
    rw [dwn_shift, dwn_add, show m - l + l = m by omega]; exact h _) (-(s : Int))
  rw [show (s : Int) + -(s : Int) = 0 by omega] at h1
  rw [h1]
  refine sumTo_congr fun i _ => ?_
  rw [dwn_shift, dwn_add, bn_neg, Nat.add_comm i l]
  show dwn (l + i) g ((s : Int) + 0) * _ = _
  rw [Int.add_zero]
/-! ### backward differences, finite functions -/
def dl (f : KF) : KF := fun d => f d - f (d - 1)
def dln : Nat → KF → KF
  | 0, f => f
  | c + 1, f => dl (dln c f)
theorem dln_in : ∀ (m : Nat) (g : KF), dln m (dl g) = dl (dln m g)
  | 0, _ => rfl
  | m + 1, g => by show dl (dln m (dl g)) = dl (dl (dln m g)); rw [dln_in m g]
theorem dln_neg {Q : KF} (h : ∀ d < 0, Q d = 0) : ∀ c, ∀ d < 0, dln c Q d = 0
  | 0 => h
  | c + 1 => fun d hd => by show dln c Q d - dln c Q (d - 1) = 0; rw [dln_neg h c d hd, dln_neg h c _ (by omega)]; rfl
theorem dln_far {Q : KF} {B : Int} (h : ∀ d, B ≤ d → Q d = 0) : ∀ (c : Nat) d, B + c ≤ d → dln c Q d = 0
  | 0 => fun d hd => h d (by omega)
  | c + 1 => fun d hd => by show dln c Q d - dln c Q (d - 1) = 0; rw [dln_far h c d (by omega), dln_far h c _ (by omega)]; rfl
theorem dl_tot {Q : KF} (h : Q (-1) = 0) : ∀ n : Nat, sumTo (fun i => dl Q i) n = Q ((n : Int) - 1)
  | 0 => h.symm
  | n + 1 => by
    show sumTo (fun i => dl Q i) n + (Q n - Q ((n : Int) - 1)) = _
    rw [dl_tot h n, show ((n + 1 : Nat) : Int) - 1 = n by omega]; omega
/-- f is (1 - t)^c times a finite Q of the value v at 1 -/
def GQ (c : Nat) (f : KF) (v : Int) : Prop := ∃ (Q : KF) (B : Nat), (∀ d < 0, Q d = 0) ∧ (∀ d, (B : Int) ≤ d → Q d = 0) ∧ dln c Q = f ∧ sumTo (fun i => Q i) B = v
theorem dln_addf (P Q : KF) : ∀ c, dln c (fun d => P d + Q d) = fun d => dln c P d + dln c Q d
  | 0 => rfl
  | c + 1 => by
    show dl (dln c fun d => P d + Q d) = _
    rw [dln_addf P Q c]
    funext d
    show dln c P d + dln c Q d - (dln c P (d - 1) + dln c Q (d - 1)) = (dln c P d - dln c P (d - 1)) + (dln c Q d - dln c Q (d - 1))
    omega
theorem dln_shf (e : Int) (Q : KF) : ∀ c, dln c (fun d => Q (d - e)) = fun d => dln c Q (d - e)
  | 0 => rfl
  | c + 1 => by
    show dl (dln c fun d => Q (d - e)) = _
    rw [dln_shf e Q c]
    funext d
    show dln c Q (d - e) - dln c Q (d - 1 - e) = dln c Q (d - e) - dln c Q (d - e - 1)
    rw [show d - 1 - e = d - e - 1 by omega]
theorem GQ.add {c : Nat} {f g : KF} {v w : Int} (h1 : GQ c f v) (h2 : GQ c g w) : GQ c (fun d => f d + g d) (v + w) := by
  obtain ⟨P, A, p1, p2, p3, p4⟩ := h1
  obtain ⟨Q, B, q1, q2, q3, q4⟩ := h2
  refine ⟨fun d => P d + Q d, A + B, fun d hd => by show P d + Q d = 0; rw [p1 d hd, q1 d hd]; rfl, fun d hd => by show P d + Q d = 0; rw [p2 d (by omega), q2 d (by omega)]; rfl, by rw [dln_addf, p3, q3], ?_⟩
  rw [sumTo_add (fun i => P i) (fun i => Q i), sumTo_more (B := A) (fun i hi => p2 i (by omega)) (by omega), sumTo_more (B := B) (fun i hi => q2 i (by omega)) (by omega), p4, q4]
theorem GQ.sh {c : Nat} {f : KF} {v : Int} (h : GQ c f v) (e : Nat) : GQ c (fun d => f (d - e)) v := by
  obtain ⟨P, A, p1, p2, p3, p4⟩ := h
  refine ⟨fun d => P (d - e), e + A, fun d hd => p1 _ (by omega), fun d hd => p2 _ (by push_cast at hd; omega), by rw [dln_shf, p3], ?_⟩
  rw [sumTo_shift _ e fun i hi => p1 _ (by omega), ← p4]
  exact sumTo_congr fun i _ => by rw [show ((e + i : Nat) : Int) - (e : Int) = i by omega]
theorem GQ.dl {c : Nat} {f : KF} {v : Int} (h : GQ c f v) : GQ (c + 1) (dl f) v := by
  obtain ⟨P, A, p1, p2, p3, p4⟩ := h
  exact ⟨P, A, p1, p2, by rw [← p3]; rfl, p4⟩
theorem GQ.low {c : Nat} {f : KF} {v : Int} (h : GQ (c + 1) f v) : GQ c f 0 := by
  obtain ⟨P, A, p1, p2, p3, p4⟩ := h
  refine ⟨DL.dl P, A + 1, dln_neg p1 1, fun d hd => dln_far p2 1 d (by push_cast at hd ⊢; omega), by rw [dln_in]; exact p3, ?_⟩
  rw [dl_tot (p1 _ (by decide))]
  exact p2 _ (by omega)
theorem GQ.low0 : ∀ (j : Nat) {c : Nat} {f : KF} {v : Int}, GQ (c + j + 1) f v → GQ c f 0
  | 0, _, _, _, h => h.low
  | j + 1, c, f, v, h => GQ.low0 j (v := 0) (by rw [show c + (j + 1) + 1 = (c + j + 1) + 1 by omega] at h; exact h.low)
theorem GQ.lows {c a : Nat} {f : KF} {v : Int} (h : GQ a f v) (hc : c < a) : GQ c f 0 := by
  obtain ⟨j, rfl⟩ : ∃ j, a = c + j + 1 := ⟨a - c - 1, by omega⟩
  exact h.low0
theorem GQ.none (c : Nat) : GQ c (fun _ => 0) 0 := by
  refine ⟨fun _ => 0, 0, fun _ _ => rfl, fun _ _ => rfl, ?_, rfl⟩
  induction c with
  | zero => rfl
  | succ c ih => show DL.dl (dln c fun _ => 0) = _; rw [ih]; rfl
theorem GQ.kz : GQ 0 kz 1 := ⟨DL.kz, 1, fun d hd => if_neg (by omega), fun d hd => if_neg (by omega), rfl, rfl⟩
/-! ### sums by parts -/
theorem parts_is {Q : KF} (h : Q (-1) = 0) (φ : Int → Int) : ∀ n : Nat, sumTo (fun i => dl Q i * φ i) n = Q ((n : Int) - 1) * φ n + sumTo (fun i => Q i * (φ i - φ ((i : Int) + 1))) n
  | 0 => by
    show (0 : Int) = Q (0 - 1) * _ + 0
    rw [show (0 - 1 : Int) = -1 from rfl, h]; omega
  | n + 1 => by
    show sumTo (fun i => dl Q i * φ i) n + (Q n - Q ((n : Int) - 1)) * φ n = Q (((n + 1 : Nat) : Int) - 1) * φ ((n + 1 : Nat) : Int) + (sumTo (fun i => Q i * (φ i - φ ((i : Int) + 1))) n + Q n * (φ n - φ ((n : Int) + 1)))
    rw [parts_is h φ n, show ((n + 1 : Nat) : Int) - 1 = n by omega, show ((n + 1 : Nat) : Int) = (n : Int) + 1 by omega]
    grind
/-- so many products of degree d - i in k + 1 letters, as a polynomial -/
def ph (k : Nat) (d i : Int) : Int := bn k (d - i + k)
theorem ph_step (k : Nat) (d i : Int) : ph (k + 1) d i - ph (k + 1) d (i + 1) = ph k d i := by
  unfold ph
  have := bn_pas k (d - i + k)
  rw [show d - i + ((k + 1 : Nat) : Int) = d - i + k + 1 by omega, show d - (i + 1) + ((k + 1 : Nat) : Int) = d - i + k by omega, this]
  omega
theorem ph_zero (d i : Int) : ph 0 d i = 1 := bn_zero _
/-- the sums of f = (1 - t)^c Q are those of Q in fewer letters -/
theorem sums_Q {Q : KF} (h0 : ∀ d < 0, Q d = 0) (k : Nat) (d : Int) (N : Nat) : ∀ c : Nat, (∀ c' < c, dln c' Q ((N : Int) - 1) * ph (k + c' + 1) d N = 0) →
    sumTo (fun i => dln c Q i * ph (k + c) d i) N = sumTo (fun i => Q i * ph k d i) N
  | 0, _ => rfl
  | c + 1, h => by
    show sumTo (fun i => dl (dln c Q) i * ph (k + c + 1) d i) N = _
    rw [parts_is (dln_neg h0 c _ (by decide)) (fun i => ph (k + c + 1) d i), h c (by omega), Int.zero_add, ← sums_Q h0 k d N c fun c' hc => h c' (by omega)]
    exact sumTo_congr fun i _ => by rw [ph_step]
/-- ... and none where no letter is left over -/
theorem sums_0 {Q : KF} (h0 : ∀ d < 0, Q d = 0) (d : Int) (N : Nat) (c : Nat) (h : ∀ c' < c, dln (c' + 1) Q ((N : Int) - 1) * ph (c' + 1) d N = 0) :
    sumTo (fun i => dln (c + 1) Q i * ph c d i) N = Q ((N : Int) - 1) := by
  have e : dln (c + 1) Q = dln c (dl Q) := (dln_in c Q).symm
  rw [e]
  have := sums_Q (Q := dl Q) (dln_neg h0 1) 0 d N c fun c' hc => by rw [dln_in, Nat.zero_add]; exact h c' hc
  rw [Nat.zero_add] at this
  rw [this, ← dl_tot (h0 _ (by decide)) N]
  exact sumTo_congr fun i _ => by rw [ph_zero, Int.mul_one]
/-! ### the polynomial of the counts -/
/-- the value of the polynomial of f in n letters -/
def svN (n : Nat) (f : KF) (N : Nat) (d : Int) : Int := sumTo (fun i => f i * ph (n - 1) d i) N
theorem svN_Q {n c : Nat} {Q f : KF} {B N : Nat} (h0 : ∀ d < 0, Q d = 0) (h1 : ∀ d, (B : Int) ≤ d → Q d = 0) (hf : dln c Q = f) (hc : c < n) (hN : B + c < N) (d : Int) :
    svN n f N d = sumTo (fun i => Q i * ph (n - 1 - c) d i) N := by
  unfold svN
  have := sums_Q h0 (n - 1 - c) d N c fun c' hc' => by rw [dln_far h1 c' _ (by omega), Int.zero_mul]
  rw [show n - 1 - c + c = n - 1 by omega, hf] at this
  exact this
theorem svN_0 {n : Nat} {Q f : KF} {B N : Nat} (h0 : ∀ d < 0, Q d = 0) (h1 : ∀ d, (B : Int) ≤ d → Q d = 0) (hf : dln n Q = f) (hn : 1 ≤ n) (hN : B + n < N) (d : Int) :
    svN n f N d = 0 := by
  unfold svN
  obtain ⟨c, rfl⟩ : ∃ c, n = c + 1 := ⟨n - 1, by omega⟩
  have := sums_0 h0 d N c fun c' hc' => by rw [dln_far h1 (c' + 1) _ (by omega), Int.zero_mul]
  rw [hf, h1 _ (by omega)] at this
  exact this
theorem ph_dw (k : Nat) (i d : Int) : ph (k + 1) (d + 1) i - ph (k + 1) d i = ph k (d + 1) i := by
  unfold ph
  have := bn_pas k (d + 1 - i + k)
  rw [show d + 1 - i + ((k + 1 : Nat) : Int) = d + 1 - i + k + 1 by omega, show d - i + ((k + 1 : Nat) : Int) = d + 1 - i + k by omega, this]
  omega
/-- its differences: the last one that is left is Q's value at 1 -/
theorem dwn_ph {Q : KF} {N : Nat} : ∀ (k j : Nat), j ≤ k → ∀ d, dwn j (fun d => sumTo (fun i => Q i * ph k d i) N) d = sumTo (fun i => Q i * ph (k - j) (d + j) i) N
  | k, 0, _, d => by
    show sumTo _ N = _
    exact sumTo_congr fun i _ => by rw [Nat.sub_zero, show d + ((0 : Nat) : Int) = d by omega]
  | k, j + 1, hj, d => by
    show dwn j _ (d + 1) - dwn j _ d = _
    rw [dwn_ph k j (by omega), dwn_ph k j (by omega), ← sumTo_sub]
    refine sumTo_congr fun i _ => ?_
    rw [← Int.mul_sub]
    congr 1
    have := ph_dw (k - (j + 1)) i (d + j)
    rw [show k - (j + 1) + 1 = k - j by omega] at this
    rw [show d + 1 + (j : Int) = d + j + 1 by omega, this, show d + ((j + 1 : Nat) : Int) = d + j + 1 by omega]
theorem dwn_last {Q : KF} {N : Nat} (k : Nat) (d : Int) : dwn k (fun d => sumTo (fun i => Q i * ph k d i) N) d = sumTo (fun i => Q i) N := by
  rw [dwn_ph k k (Nat.le_refl k)]
  exact sumTo_congr fun i _ => by rw [Nat.sub_self, ph_zero, Int.mul_one]
theorem dwn_past {Q : KF} {N : Nat} (k : Nat) (d : Int) : dwn (k + 1) (fun d => sumTo (fun i => Q i * ph k d i) N) d = 0 := by
  show dwn k _ (d + 1) - dwn k _ d = 0
  rw [dwn_last, dwn_last]; omega
end DL

/-! k13, plain: the numerator is (1 - t)^(letters - dimension) times a Q that is positive at 1. -/
namespace DL
open PySem L2
/-! ### entries -/
theorem getD_nn {m : List Int} (h : ∀ y ∈ m, 0 ≤ y) (i : Nat) : 0 ≤ m.getD i 0 := by
  rw [List.getD_eq_getElem?_getD]
  cases e : m[i]? with
  | none => exact Int.le_refl 0
  | some x => exact h x (List.mem_of_getElem? e)
theorem ls_getD : ∀ {x a : List Int}, x.length = a.length → ∀ j, (ls x a).getD j 0 = max 0 (x.getD j 0 - a.getD j 0)
  | [], [], _, j => by simp [ls]
  | [], _ :: _, h, _ => by simp at h
  | _ :: _, [], h, _ => by simp at h
  | x :: xs, a :: as, h, 0 => rfl
  | x :: xs, a :: as, h, j + 1 => by
    show (ls xs as).getD j 0 = max 0 (xs.getD j 0 - as.getD j 0)
    exact ls_getD (by simpa using h) j
theorem pw_getD {n i : Nat} {e : Int} (hi : i < n) (j : Nat) : (pw n i e).getD j 0 = if j = i then e else 0 := by
  unfold pw
  rw [List.getD_eq_getElem?_getD, List.getElem?_map]
  by_cases c : j < n
  · rw [List.getElem?_range c]; rfl
  · rw [List.getElem?_eq_none (by rw [List.length_range]; omega), if_neg (by omega)]; rfl
theorem free_is {s m : List Int} : freeM s m = true ↔ ∃ j : Nat, 0 < m.getD j 0 ∧ (j : Int) ∉ s := by
  unfold freeM
  rw [List.any_eq_true]
  constructor
  · rintro ⟨j, _, h⟩
    rw [Bool.and_eq_true, decide_eq_true_eq, Bool.not_eq_true', decide_eq_false_iff_not] at h
    exact ⟨j, h⟩
  · rintro ⟨j, h1, h2⟩
    refine ⟨j, List.mem_range.mpr (Nat.lt_of_not_le fun z => ?_), by rw [Bool.and_eq_true, decide_eq_true_eq, Bool.not_eq_true', decide_eq_false_iff_not]; exact ⟨h1, h2⟩⟩
    rw [List.getD_eq_getElem?_getD, List.getElem?_eq_none z] at h1
    exact absurd h1 (by decide)
theorem freeB_is {M : List (List Int)} {s : List Int} : freeB M s = true ↔ ∀ m ∈ M, ∃ j : Nat, 0 < m.getD j 0 ∧ (j : Int) ∉ s := by
  unfold freeB
  rw [List.all_eq_true]
  exact ⟨fun h m hm => free_is.mp (h m hm), fun h m hm => free_is.mpr (h m hm)⟩
/-! ### free sets of the two parts -/
theorem free_next {n i : Nat} {M : List (List Int)} {s : List Int} (hi : i < n) (h : freeB (nextM n M i 1) s = true) : freeB M s = true := by
  rw [freeB_is] at h ⊢
  intro m hm
  by_cases c : m.getD i 0 < 1
  · exact h m (List.mem_append_left _ (List.mem_filter.mpr ⟨hm, decide_eq_true c⟩))
  · obtain ⟨j, h1, h2⟩ := h _ (List.mem_append_right _ (List.mem_singleton.mpr rfl))
    rw [pw_getD hi] at h1
    split at h1
    · rename_i e; subst e; exact ⟨j, by omega, h2⟩
    · omega
theorem free_cut {n i : Nat} {M : List (List Int)} {s : List Int} (hM : Nnn n M) (hi : i < n) (h : freeB (cutM n M i 1) s = true) : freeB M s = true := by
  rw [freeB_is] at h ⊢
  intro m hm
  obtain ⟨j, h1, h2⟩ := h _ (List.mem_map_of_mem hm)
  rw [ls_getD (by rw [(hM m hm).1, pwr_len]), pw_getD hi] at h1
  exact ⟨j, by split at h1 <;> omega, h2⟩
theorem next_free {n i : Nat} {M : List (List Int)} {s : List Int} (hi : i < n) (hs : (i : Int) ∉ s) (h : freeB M s = true) : freeB (nextM n M i 1) s = true := by
  rw [freeB_is] at h ⊢
  intro m hm
  rcases List.mem_append.mp hm with z | z
  · exact h m (List.mem_filter.mp z).1
  · rw [List.mem_singleton.mp z]
    exact ⟨i, by rw [pw_getD hi, if_pos rfl]; decide, hs⟩
theorem cut_free {n i : Nat} {M : List (List Int)} {s : List Int} (hM : Nnn n M) (hi : i < n) (hs : (i : Int) ∈ s) (h : freeB M s = true) : freeB (cutM n M i 1) s = true := by
  rw [freeB_is] at h ⊢
  intro m hm
  obtain ⟨m, h1, rfl⟩ := List.mem_map.mp hm
  obtain ⟨j, h2, h3⟩ := h m h1
  refine ⟨j, ?_, h3⟩
  rw [ls_getD (by rw [(hM m h1).1, pwr_len]), pw_getD hi, if_neg (fun e => h3 (by rw [e]; exact hs))]
  omega
/-! ### weights -/
def wtM (M : List (List Int)) : Int := (M.map List.sum).sum
theorem wtM_cons (m : List Int) (M : List (List Int)) : wtM (m :: M) = m.sum + wtM M := rfl
theorem wt_nn {n : Nat} : ∀ {M : List (List Int)}, Nnn n M → 0 ≤ wtM M
  | [], _ => Int.le_refl 0
  | m :: M, h => by
    have := wt_nn (M := M) (h.sub fun x hx => List.mem_cons_of_mem _ hx)
    have := sum_nonneg' (h m List.mem_cons_self).2
    rw [wtM_cons]; omega
theorem wt_filter {n : Nat} {p : List Int → Bool} : ∀ {M : List (List Int)}, Nnn n M → wtM (M.filter p) ≤ wtM M
  | [], _ => Int.le_refl 0
  | m :: M, h => by
    have ih := wt_filter (p := p) (M := M) (h.sub fun x hx => List.mem_cons_of_mem _ hx)
    have := sum_nonneg' (h m List.mem_cons_self).2
    rw [List.filter_cons]
    split
    · rw [wtM_cons, wtM_cons]; omega
    · rw [wtM_cons]; omega
theorem wt_filter2 {n : Nat} {p : List Int → Bool} {m : List Int} (hp : p m = false) : ∀ {M : List (List Int)}, Nnn n M → m ∈ M → wtM (M.filter p) + m.sum ≤ wtM M
  | x :: M, h, hm => by
    have h2 : Nnn n M := h.sub fun x hx => List.mem_cons_of_mem _ hx
    have := sum_nonneg' (h x List.mem_cons_self).2
    rcases List.mem_cons.mp hm with e | e
    · subst e
      rw [List.filter_cons, hp, if_neg (by decide), wtM_cons]
      have := wt_filter (p := p) h2
      omega
    · have ih := wt_filter2 hp h2 e
      rw [List.filter_cons]
      split
      · rw [wtM_cons, wtM_cons]; omega
      · rw [wtM_cons]; omega
theorem wt_app (M N : List (List Int)) : wtM (M ++ N) = wtM M + wtM N := by unfold wtM; rw [List.map_append, List.sum_append]
theorem ls_sum_le : ∀ {x a : List Int}, (∀ y ∈ x, 0 ≤ y) → (∀ y ∈ a, 0 ≤ y) → (ls x a).sum ≤ x.sum
  | [], _, _, _ => Int.le_refl 0
  | x :: xs, [], h, _ => sum_nonneg' h
  | x :: xs, a :: as, h, h2 => by
    have ih := ls_sum_le (x := xs) (a := as) (fun y hy => h y (List.mem_cons_of_mem _ hy)) (fun y hy => h2 y (List.mem_cons_of_mem _ hy))
    have := h x List.mem_cons_self
    have := h2 a List.mem_cons_self
    show (max 0 (x - a) :: ls xs as).sum ≤ _
    rw [List.sum_cons, List.sum_cons]
    omega
theorem wt_lsl {n : Nat} {p : List Int} (hp : ∀ y ∈ p, 0 ≤ y) : ∀ {M : List (List Int)}, Nnn n M → wtM (lsl M p) ≤ wtM M
  | [], _ => Int.le_refl 0
  | x :: M, h => by
    have ih := wt_lsl hp (M := M) (h.sub fun x hx => List.mem_cons_of_mem _ hx)
    have := ls_sum_le (h x List.mem_cons_self).2 hp
    show wtM (ls x p :: lsl M p) ≤ _
    rw [wtM_cons, wtM_cons]; omega
theorem wt_lsl2 {n : Nat} {p m : List Int} (hp : ∀ y ∈ p, 0 ≤ y) (hl : (ls m p).sum < m.sum) : ∀ {M : List (List Int)}, Nnn n M → m ∈ M → wtM (lsl M p) < wtM M
  | x :: M, h, hm => by
    have h2 : Nnn n M := h.sub fun x hx => List.mem_cons_of_mem _ hx
    have h3 := ls_sum_le (h x List.mem_cons_self).2 hp
    show wtM (ls x p :: lsl M p) < _
    rw [wtM_cons, wtM_cons]
    rcases List.mem_cons.mp hm with e | e
    · subst e
      have := wt_lsl hp h2
      omega
    · have := wt_lsl2 hp hl h2 e
      omega
theorem some_pos {m : List Int} (h : ∀ y ∈ m, 0 ≤ y) (hs : 0 < m.sum) : ∃ i < m.length, 0 < m.getD i 0 := by
  by_cases c : ∀ y ∈ m, y = 0
  · rw [sum_zero c] at hs; exact absurd hs (by decide)
  · rw [Classical.not_forall] at c
    obtain ⟨y, c⟩ := c
    rw [Classical.not_imp] at c
    obtain ⟨hy, h0⟩ := c
    obtain ⟨i, hi, e⟩ := List.mem_iff_getElem.mp hy
    refine ⟨i, hi, ?_⟩
    rw [List.getD_eq_getElem?_getD, List.getElem?_eq_getElem hi]
    show 0 < m[i]
    have := h y hy
    omega
theorem in_sum : ∀ {m : List Int}, (∀ y ∈ m, 0 ≤ y) → ∀ {y : Int}, y ∈ m → y ≤ m.sum
  | x :: m, h, y, hy => by
    have h2 := sum_nonneg' (xs := m) fun z hz => h z (List.mem_cons_of_mem _ hz)
    have h3 := h x List.mem_cons_self
    rw [List.sum_cons]
    rcases List.mem_cons.mp hy with e | e
    · subst e; omega
    · have := in_sum (fun z hz => h z (List.mem_cons_of_mem _ hz)) e
      omega
/-! ### single letters -/
theorem one_place : ∀ {m : List Int}, (∀ y ∈ m, 0 ≤ y) → m.sum = 1 → ∃ i < m.length, ∀ j, m.getD j 0 = if j = i then 1 else 0
  | [], _, h => absurd h (by decide)
  | x :: m, h, hs => by
    have h2 : ∀ y ∈ m, 0 ≤ y := fun y hy => h y (List.mem_cons_of_mem _ hy)
    have h3 := h x List.mem_cons_self
    have h4 := sum_nonneg' h2
    rw [List.sum_cons] at hs
    by_cases c : x = 0
    · obtain ⟨i, hi, e⟩ := one_place h2 (by omega)
      refine ⟨i + 1, by rw [List.length_cons]; omega, fun j => ?_⟩
      cases j with
      | zero => show x = _; rw [c, if_neg (by omega)]
      | succ j =>
        show m.getD j 0 = _
        rw [e]
        by_cases z : j = i
        · rw [if_pos z, if_pos (by omega)]
        · rw [if_neg z, if_neg (by omega)]
    · refine ⟨0, by rw [List.length_cons]; omega, fun j => ?_⟩
      cases j with
      | zero => show x = 1; omega
      | succ j =>
        show m.getD j 0 = _
        rw [if_neg (by omega)]
        have h5 : ∀ k, m.getD k 0 = 0 := fun k => by
          by_cases z : 0 < m.getD k 0
          · have : 0 < m.sum := by
              rw [List.getD_eq_getElem?_getD] at z
              cases e : m[k]? with
              | none => rw [e] at z; exact absurd z (by decide)
              | some y =>
                rw [e] at z
                have z : 0 < y := z
                have := in_sum h2 (List.mem_of_getElem? e)
                omega
            omega
          · have := getD_nn h2 k
            omega
        exact h5 j
theorem pw_of {n : Nat} {m : List Int} (hl : m.length = n) (h : ∀ y ∈ m, 0 ≤ y) (hs : m.sum = 1) : ∃ i < n, m = pw n i 1 := by
  obtain ⟨i, hi, e⟩ := one_place h hs
  refine ⟨i, by omega, List.ext_getElem (by rw [hl, pwr_len]) fun j h1 h2 => ?_⟩
  have e1 := e j
  have e2 := pw_getD (e := 1) (show i < n by omega) j
  rw [List.getD_eq_getElem?_getD, List.getElem?_eq_getElem h1] at e1
  rw [List.getD_eq_getElem?_getD, List.getElem?_eq_getElem h2] at e2
  show m[j] = (pw n i 1)[j]
  have e1 : m[j] = _ := e1
  have e2 : (pw n i 1)[j] = _ := e2
  rw [e1, e2]
/-! ### ascending sets -/
theorem asc_pw : ∀ {s : List Int}, ascI s = true ↔ s.Pairwise (· < ·)
  | [] => ⟨fun _ => .nil, fun _ => rfl⟩
  | [x] => ⟨fun _ => List.pairwise_singleton _ _, fun _ => rfl⟩
  | x :: y :: r => by
    constructor
    · intro h
      have h2 : ascI (y :: r) = true := by
        have : (decide (x < y) && ascI (y :: r)) = true := h
        rw [Bool.and_eq_true] at this; exact this.2
      exact .cons (fun z hz => asc_le h hz) (asc_pw.mp h2)
    · intro h
      cases h with
      | cons h1 h2 =>
        show (decide (x < y) && ascI (y :: r)) = true
        rw [asc_pw.mpr h2, decide_eq_true (h1 y List.mem_cons_self)]; rfl
theorem isSet_is {n : Nat} {s : List Int} : isSet n s = true ↔ (∀ x ∈ s, 0 ≤ x ∧ x ≤ (n : Int) - 1) ∧ s.Pairwise (· < ·) := by
  unfold isSet
  rw [Bool.and_eq_true, asc_pw, List.all_eq_true]
  constructor
  · rintro ⟨h1, h2⟩
    exact ⟨fun x hx => by have := h1 x hx; rwa [Bool.and_eq_true, decide_eq_true_eq, decide_eq_true_eq] at this, h2⟩
  · rintro ⟨h1, h2⟩
    exact ⟨fun x hx => by rw [Bool.and_eq_true, decide_eq_true_eq, decide_eq_true_eq]; exact h1 x hx, h2⟩
theorem set_nodup {n : Nat} {s : List Int} (h : s ∈ setsL n) : s.Nodup := (isSet_is.mp (mem_sets.mp h)).2.imp fun h e => by omega
/-- what the letters leave is a free set that all others lie in -/
theorem base_GQ {n : Nat} : ∀ {M : List (List Int)}, Nnn n M → (∀ m ∈ M, m.sum = 1) → ∃ s ∈ setsL n, freeB M s = true ∧ GQ (n - s.length) (kp M) 1 ∧ ∀ j < n, (j : Int) ∉ s → pw n j 1 ∈ M
  | [], _, _ => by
    refine ⟨(List.range n).map fun (j : Nat) => (j : Int), ?_, rfl, ?_, fun j hj hn => absurd (List.mem_map.mpr ⟨j, List.mem_range.mpr hj, rfl⟩) hn⟩
    · rw [mem_sets, isSet_is]
      refine ⟨fun x hx => ?_, ?_⟩
      · obtain ⟨j, hj, rfl⟩ := List.mem_map.mp hx
        rw [List.mem_range] at hj
        omega
      · exact List.Pairwise.map (S := fun (a b : Int) => a < b) (fun (j : Nat) => (j : Int)) (fun a b h => by omega) List.pairwise_lt_range
    · rw [kp_nil, List.length_map, List.length_range, Nat.sub_self]
      exact GQ.kz
  | p :: M, h, hs => by
    have hM : Nnn n M := h.sub fun x hx => List.mem_cons_of_mem _ hx
    have hp := h p List.mem_cons_self
    obtain ⟨s, h1, h2, h3, h4⟩ := base_GQ hM fun m hm => hs m (List.mem_cons_of_mem _ hm)
    obtain ⟨i, hi, ep⟩ := pw_of hp.1 hp.2 (hs p List.mem_cons_self)
    have hss := isSet_is.mp (mem_sets.mp h1)
    by_cases c : (i : Int) ∈ s
    · have nd := set_nodup h1
      have hlen := sets_len_le h1
      have hpos : 0 < s.length := List.length_pos_of_mem c
      refine ⟨s.erase i, ?_, ?_, ?_, fun j hj hn => ?_⟩
      · rw [mem_sets, isSet_is]
        exact ⟨fun x hx => hss.1 x (List.mem_of_mem_erase hx), hss.2.sublist List.erase_sublist⟩
      · rw [freeB_is]
        intro m hm
        rcases List.mem_cons.mp hm with e | e
        · refine ⟨i, by rw [e, ep, pw_getD hi, if_pos rfl]; decide, fun z => ?_⟩
          exact (List.Nodup.mem_erase_iff nd).mp z |>.1 rfl
        · obtain ⟨j, z1, z2⟩ := freeB_is.mp h2 m e
          exact ⟨j, z1, fun z => z2 (List.mem_of_mem_erase z)⟩
      · have ha : lsl M p = M := by
          refine (List.map_congr_left fun m hm => ?_).trans (List.map_id M)
          have hm2 := hM m hm
          obtain ⟨j, hj, em⟩ := pw_of hm2.1 hm2.2 (hs m (List.mem_cons_of_mem _ hm))
          show ls m p = m
          refine List.ext_getElem (by rw [lsn_len hm2.1 hp.1]; exact hm2.1.symm) fun k k1 k2 => ?_
          have e1 := ls_getD (x := m) (a := p) (by rw [hm2.1, hp.1]) k
          rw [List.getD_eq_getElem?_getD, List.getElem?_eq_getElem k1] at e1
          have e2 : m.getD k 0 = m[k]'k2 := by rw [List.getD_eq_getElem?_getD, List.getElem?_eq_getElem k2]; rfl
          have e1 : (ls m p)[k]'k1 = _ := e1
          rw [e1, e2]
          have e3 : p.getD k 0 = if k = i then 1 else 0 := by rw [ep, pw_getD hi]
          have e4 : m.getD k 0 = if k = j then 1 else 0 := by rw [em, pw_getD hj]
          rw [e3, ← e2, e4]
          have hne : j ≠ i := fun z => by
            obtain ⟨q, q1, q2⟩ := freeB_is.mp h2 m hm
            rw [em, pw_getD hj] at q1
            split at q1
            · rename_i e; rw [e, z] at q2; exact q2 c
            · omega
          by_cases z : k = i
          · rw [if_pos z, if_neg (by omega)]; decide
          · rw [if_neg z]; split <;> decide
        have e : kp (p :: M) = dl (kp M) := by
          funext d
          rw [kp_cons, ha, hs p List.mem_cons_self]
          rfl
        rw [e, List.length_erase_of_mem c, show n - (s.length - 1) = (n - s.length) + 1 by omega]
        exact h3.dl
      · by_cases z : j = i
        · subst z; rw [← ep]; exact List.mem_cons_self
        · exact List.mem_cons_of_mem _ (h4 j hj fun q => hn ((List.Nodup.mem_erase_iff nd).mpr ⟨by omega, q⟩))
    · have hm := h4 i hi c
      refine ⟨s, h1, ?_, ?_, fun j hj hn => List.mem_cons_of_mem _ (h4 j hj hn)⟩
      · rw [freeB_is]
        intro m hm2
        rcases List.mem_cons.mp hm2 with e | e
        · exact ⟨i, by rw [e, ep, pw_getD hi, if_pos rfl]; decide, c⟩
        · exact freeB_is.mp h2 m e
      · rw [kp_red hM hp.1 hm (by rw [ep]; exact dvB_refl _)]
        exact h3
/-! ### the theorem -/
theorem kp_GQ {n : Nat} : ∀ (t : Nat) {M : List (List Int)}, Nnn n M → wtM M ≤ t → ∀ k ≤ n, (∀ s ∈ setsL n, freeB M s = true → s.length ≤ k) →
    ∃ v, 0 ≤ v ∧ GQ (n - k) (kp M) v ∧ ((∃ s ∈ setsL n, freeB M s = true ∧ s.length = k) → 1 ≤ v)
  | t, M, hM, ht, k, hk, hf => by
    by_cases c : ∃ m ∈ M, 2 ≤ m.sum
    · obtain ⟨m, hm, h2⟩ := c
      have hm2 := hM m hm
      obtain ⟨i, hi, hpos⟩ := some_pos hm2.2 (by omega)
      rw [hm2.1] at hi
      have hwm := wt_filter2 (p := fun x => decide (x.getD i 0 < 1)) (decide_eq_false (by omega)) hM hm
      have hw0 := wt_nn (hM.sub (N := M.filter fun x => decide (x.getD i 0 < 1)) fun x hx => (List.mem_filter.mp hx).1)
      match t, ht with
      | 0, ht => omega
      | t + 1, ht =>
        have hN := hM.next (i := i) (e := 1) (by decide)
        have hC : Nnn n (cutM n M i 1) := hM.lsl (pwr_len n i 1)
        have w1 : wtM (nextM n M i 1) ≤ t := by
          unfold nextM below
          rw [wt_app]
          have : wtM [pw n i 1] = 1 := by show (pw n i 1).sum + 0 = 1; rw [pw_sum hi]; rfl
          push_cast at ht
          omega
        have w2 : wtM (cutM n M i 1) ≤ t := by
          have hls : (ls m (pw n i 1)).sum < m.sum := by
            rw [ls_sum (by rw [dv_pw hm2.1 hi hm2.2]; exact decide_eq_true (by omega)) (by rw [hm2.1, pwr_len]), pw_sum hi]; omega
          have := wt_lsl2 (pw_nn (n := n) (i := i) (e := 1) (by decide)) hls hM hm
          show wtM (lsl M (pw n i 1)) ≤ t
          push_cast at ht
          omega
        obtain ⟨v1, a1, a2, a3⟩ := kp_GQ t hN w1 k hk fun s hs hs2 => hf s hs (free_next hi hs2)
        obtain ⟨v2, b1, b2, b3⟩ := kp_GQ t hC w2 k hk fun s hs hs2 => hf s hs (free_cut hM hi hs2)
        refine ⟨v1 + v2, by omega, ?_, ?_⟩
        · have e : kp M = fun d => kp (nextM n M i 1) d + kp (cutM n M i 1) (d - (1 : Nat)) := by
            funext d; exact kp_split hM hi (by decide) d
          rw [e]
          exact a2.add (b2.sh 1)
        · rintro ⟨s, s1, s2, s3⟩
          by_cases z : (i : Int) ∈ s
          · have := b3 ⟨s, s1, cut_free hM hi z s2, s3⟩; omega
          · have := a3 ⟨s, s1, next_free hi z s2, s3⟩; omega
    · by_cases c2 : ∃ m ∈ M, m.sum = 0
      · obtain ⟨m, hm, h0⟩ := c2
        have hm2 := hM m hm
        have hz : ∀ y ∈ m, y = 0 := fun y hy => by
          have := in_sum hm2.2 hy
          have := hm2.2 y hy
          omega
        refine ⟨0, Int.le_refl 0, ?_, ?_⟩
        · have e : kp M = fun _ => 0 := by funext d; exact kp_one hM hm hz d
          rw [e]; exact GQ.none _
        · rintro ⟨s, _, s2, _⟩
          obtain ⟨j, j1, _⟩ := freeB_is.mp s2 m hm
          rw [List.getD_eq_getElem?_getD] at j1
          cases e : m[j]? with
          | none => rw [e] at j1; exact absurd j1 (by decide)
          | some y => rw [e] at j1; have j1 : 0 < y := j1; have := hz y (List.mem_of_getElem? e); omega
      · obtain ⟨s, h1, h2, h3, h4⟩ := base_GQ hM fun m hm => by
          have := sum_nonneg' (hM m hm).2
          have x1 : ¬ 2 ≤ m.sum := fun z => c ⟨m, hm, z⟩
          have x2 : ¬ m.sum = 0 := fun z => c2 ⟨m, hm, z⟩
          omega
        have hsk := hf s h1 h2
        by_cases z : s.length = k
        · exact ⟨1, by decide, by rw [← z]; exact h3, fun _ => by decide⟩
        · refine ⟨0, Int.le_refl 0, h3.lows (by omega), ?_⟩
          rintro ⟨u, u1, u2, u3⟩
          have : u.length ≤ s.length := nodup_len (set_nodup u1) fun x hx => by
            have hb := (isSet_is.mp (mem_sets.mp u1)).1 x hx
            obtain ⟨j, rfl⟩ := Int.eq_ofNat_of_zero_le hb.1
            by_cases q : (j : Int) ∈ s
            · exact q
            · obtain ⟨i, i1, i2⟩ := freeB_is.mp u2 _ (h4 j (by omega) q)
              rw [pw_getD (by omega)] at i1
              split at i1
              · rename_i e; rw [e] at i2; exact absurd hx i2
              · omega
          omega
/-- with the greatest free set -/
theorem dim_GQ {n : Nat} {M : List (List Int)} (hM : Nnn n M) {s : List Int} (h : fsI n M = some s) : ∃ v, 1 ≤ v ∧ GQ (n - s.length) (kp M) v := by
  obtain ⟨h1, h2, h3⟩ := fsI_some h
  obtain ⟨v, _, a, b⟩ := kp_GQ (wtM M).toNat hM (by have := wt_nn hM; omega) s.length (sets_len_le h1) h3
  exact ⟨v, b ⟨s, h1, h2, rfl⟩, a⟩
end DL

/-! Deep layer AX: enumerate(zip(a list, a list)). -/
namespace L2.EnZ
open PySem PySem.Spec PyProof.Rows L2 PySem.W
open PySem.AutoSeq1 (wpAny_loadPart')
section
variable {X : Cx} {pins : List (Addr × Obj)} {σ : L2.St} {H H' : Hp} {s : Shared} {h' : Heap}
end
section
variable {prog : Program} {w : World} {A : Around} {E : Value → Shared → Prop} {s : Shared}
/-! ### the zip inside: its tuple is free, or still held -/
abbrev IsZipG (h : Heap) (z TI TO : Addr) (f0 : Value) (f : Bool) : Prop :=
  h.get? z = some { cls := .type "zip", dict := none, data := .fields #[f0, .bool f, .bool false, .ref TI, .ref TO], slots := #[] }
def ZipAt (h : Heap) (e z TI TO i1 i2 a b : Addr) (i : Nat) : Prop :=
  ((∃ f, IsZipG h z TI TO .none f) ∨ ∃ (T : Addr) (f : Bool), IsZipG h z TI TO (rawInt T) f) ∧ IsPair h TI (.ref i1) (.ref i2) ∧ (∃ x y, IsPair h TO x y) ∧ h.IsListIter i1 a i ∧ h.IsListIter i2 b i
theorem ZipAt.ty {e z TI TO i1 i2 a b : Addr} {i : Nat} (h : ZipAt s.heap e z TI TO i1 i2 a b i) : s.TypeIs (.ref z) "zip" := by
  rcases h.1 with ⟨f, h⟩ | ⟨T, f, h⟩
  · exact ⟨_, h, rfl⟩
  · exact ⟨_, h, rfl⟩
theorem ZipAt.has {h : Heap} {e z TI TO i1 i2 a b : Addr} {i : Nat} (q : ZipAt h e z TI TO i1 i2 a b i) : ∀ c ∈ [z, TI, TO, i1, i2], ∃ o, h.get? c = some o ∧ ∀ v, o.data ≠ .cell v := by
  obtain ⟨hz, hTI, ⟨x, y, hTO⟩, ⟨o1, e1, _, d1⟩, ⟨o2, e2, _, d2⟩⟩ := q
  intro c hc
  have e' : c = z ∨ c = TI ∨ c = TO ∨ c = i1 ∨ c = i2 := by simpa using hc
  rcases e' with q | q | q | q | q
  · rw [q]
    rcases hz with ⟨f, h⟩ | ⟨T, f, h⟩
    · exact ⟨_, h, fun v q => nomatch q⟩
    · exact ⟨_, h, fun v q => nomatch q⟩
  · rw [q]; exact ⟨_, hTI, fun v q => nomatch q⟩
  · rw [q]; exact ⟨_, hTO, fun v q => nomatch q⟩
  · rw [q]; exact ⟨o1, e1, fun v q => by rw [d1] at q; cases q⟩
  · rw [q]; exact ⟨o2, e2, fun v q => by rw [d2] at q; cases q⟩
theorem ZipAt.at {h h2 : Heap} {e z TI TO i1 i2 a b : Addr} {i : Nat} (q : ZipAt h e z TI TO i1 i2 a b i) (he : e ∉ [z, TI, TO, i1, i2]) (k : ∀ b o, b ≠ e → h.get? b = some o → h2.get? b = some o) : ZipAt h2 e z TI TO i1 i2 a b i := by
  obtain ⟨hz, hTI, ⟨x, y, hTO⟩, h1, h2⟩ := q
  have ne : ∀ c ∈ [z, TI, TO, i1, i2], c ≠ e := fun c hc z => he (z ▸ hc)
  refine ⟨?_, k _ _ (ne _ (by simp)) hTI, ⟨x, y, k _ _ (ne _ (by simp)) hTO⟩, h1.at fun o q => k _ o (ne _ (by simp)) q, h2.at fun o q => k _ o (ne _ (by simp)) q⟩
  rcases hz with ⟨f, h⟩ | ⟨T, f, h⟩
  · exact .inl ⟨f, k _ _ (ne _ (by simp)) h⟩
  · exact .inr ⟨T, f, k _ _ (ne _ (by simp)) h⟩
end
/-! ### the walk -/
end L2.EnZ
namespace L2.EnZ
open PySem PySem.Spec PyProof.Rows L2 PySem.W
open PySem.AutoSeq1 (wpAny_loadPart')
end L2.EnZ
namespace DL
open PySem PySem.Spec PyProof.Rows L2 Builtin L2.EnZ
section
variable {X : Cx} {pos : Pos} {δ : DS} {g : DG}
end
end DL

/-! Deep layer AY: sorted(tuples, reverse=True), min([], default=d), [x, *d.values()], what is never reached, [None] * n. -/
namespace DL
open PySem PySem.Spec PyProof.Rows L2 Builtin
section
variable {X : Cx} {K : Fg} {pinz : List (Addr × Obj)} {σ : L2.St} {H : Hp} {s : Shared} {a : Addr} {L : List (List Int)}
/-! ### what is never reached -/
def dNoS : TDS := fun _ _ _ => False
theorem pds_no {s : Stmt} : PS X s (upS X.K dNoS) := ⟨fun pins s σ H D I ⟨δ, g, E, _, _, h, _⟩ => h.elim⟩
/-! ### sorted(.., reverse=True) -/
end
end DL
namespace DL
open PySem PySem.Spec PyProof.Rows L2 Builtin
section
variable {X : Cx} {K : Fg}
/-! ### min(an empty list, default=d) -/
/-! ### [.., *d.values()] -/
/-! ### [..] * k, to be changed -/
def rlM (Q : DV → DG → Prop) (ds : List DV) (y : DV) (g : DG) : Prop := ∃ k : Int, y = .int k ∧ 0 ≤ k ∧ k ≤ 1000 ∧ ∀ p, g p = none → Q (.ref p) (gup g p (.lst (List.replicate k.toNat ds).flatten))
def dRepLM (ta : TDA) (tb : TDE) : TDE := fun δ g Q => ta δ g fun ds g1 => ds.length ≤ 1000 ∧ tb δ g1 fun y g2 => rlM Q ds y g2
theorem pd_repLM {es : List Expr} {b : Expr} {pos p2 : Pos} {ta : TDA} {tb : TDE} (ha : PA X es (upA X.K ta)) (hb : PE X b (upE X.K tb)) : PE X (.BinOp (.List es p2) .Mult b pos) (upE X.K (dRepLM ta tb)) := by
  refine PE_weak (pe_op op_rep (pe_lst ha) hb) fun σ H Q ⟨δ, g, P, rs, rg, h, k⟩ => ⟨δ, g, _, rs, rg, h, fun ds g1 vs H1 e1 rg1 rd1 ⟨nl, h1⟩ => ?_⟩
  have lds := rd1.length
  have fin : ∀ p, H1 p = none → upE X.K tb σ (upd H1 p (.lst vs)) (fun y H2 => rRep (.ref p) y H2 Q) := fun p hp => by
    have gp : g1 p = none := rg1.none hp
    refine ⟨δ, g1, _, (rs.mono (e1.kp rg)).mono (Kp.fresh hp), rg1.fresh hp, h1, fun y g2 u H2 e2 rg2 rd2 h2 => ?_⟩
    obtain ⟨n, ey, n0, n1, h2⟩ := h2
    subst ey
    cases rd2
    have hp2 := (e2 p _ upd_same gp fun z => z).1
    refine ⟨p, n, vs, rfl, rfl, hp2, by omega, by omega, ?_, fun q hq => ?_⟩
    · rw [sizeLine_eq]
      have a1 : vs.length * n.toNat ≤ 1000 * 1000 := Nat.mul_le_mul (by omega) (by omega)
      omega
    · have rd3 := rds_repL ((rd1.mono (Kp.fresh hp)).mono (e2.kp (rg1.fresh hp))) n.toNat
      exact k _ _ _ _ (((e1.trans (Ext.fresh rg1 hp)).trans e2).trans (Ext.new hq)) (rg2.new hq rd3) (.ref q) (h2 q (rg2.none hq))
  exact ⟨by rw [← lds, sizeLine_eq]; omega, fin⟩
theorem rd_repLM {es : TDA} {b : TDE} {δ : DS} {g : DG} {Q : DV → DG → Prop} (h : es δ g fun ds g1 => ds.length ≤ 1000 ∧ b δ g1 fun y g2 => rlM Q ds y g2) : dRepLM es b δ g Q := h
end
end DL
namespace DL
open PySem PySem.Spec PyProof.Rows L2 Builtin
section
variable {X : Cx} {pos pos2 : Pos}
/-! ### nested targets -/
end
end DL

/-! Deep layer XA: what is raised, tries. A path that raises is read by its own transformers. -/
namespace DL
open PySem PySem.Spec PyProof.Rows L2
/-- what is raised: its class, its own fields -/
structure XV where
  C : Addr
  fs : List (Str × DV) := []
abbrev WD := DS → XV → DG → Prop
abbrev TDR := WD → DS → DG → Prop
section
variable {X : Cx} {W : WX} {pos : Pos} {st : Stmt} {rest : List Stmt}
/-! ### statements -/
variable {e : Expr} {r : TDR}
/-! ### raise -/
theorem RS.ext {K : Fg} {H H' : Hp} {g g' : DG} {δ : DS} {σ : L2.St} (rs : RS K H δ σ) (rg : RG K H g) (e : Ext g H g' H') : RS K H' δ σ := rs.mono (e.kp rg)
/-! ### calls that raise -/
variable {x : Str} {p : Pos} {es : List Expr} {t : TDA}
end
/-! ### defs that raise -/
/-! ### promises of defs that raise -/
end DL

/-! Deep layer XB: try with several clauses, some of them named. -/
namespace DL
open PySem PySem.Spec PyProof.Rows L2
abbrev SuT := Addr → Value → Option Addr → TS
section
variable {X : Cx} {body : List Stmt} {h₀ : ExceptHandler} {hds : List ExceptHandler} {l : List (Value × Option Nat × SuT)} {pos : Pos} {tb : WX → TS} {Wout : WX}
end
/-! ### over contents -/
abbrev SuD := Addr → Value → Option Addr → TDS
/-- a clause: its class, what is known of the classes that may come, its name's slot, its suite -/
structure HS where
  c : Value
  ms : List (Addr × Bool)
  oi : Option Nat
  th : SuD
section
variable {X : Cx} {hds : List ExceptHandler} {l : List HS}
end
/-! ### within a suite: a field of what was caught -/
end DL
namespace DL
open PySem PySem.Spec PyProof.Rows L2
/-! ### readings -/
section
variable {Wd : WD} {δ : DS} {g : DG} {E : DEnds}
end
end DL
namespace DL
open PySem PySem.Spec PyProof.Rows L2
end DL
namespace DL
open PySem PySem.Spec PyProof.Rows L2
end DL

/-! Deep layer XC: == and != of tuples with texts and dicts of any values in them. -/
namespace PySem.SeqAt
open PySem PySem.Calls PyProof.Rows PySem.Spec PySem.W
section
variable {prog : Program} {w : World}
end
end PySem.SeqAt
namespace DL
open PySem PySem.Spec PyProof.Rows L2
section
variable {X : Cx} {pins : List (Addr × Obj)} {σ : L2.St} {H : Hp} {s : Shared}
end
end DL

/-! Deep layer XL: a lambda without parameters handed to a def that calls it; what the lambda raises may be caught there. -/
namespace DL
open PySem PySem.Spec PyProof.Rows L2 LamX
/-! ### the tables of code objects that g tells of -/
structure TbG (T : List (Addr × Str)) (g : DG) : Prop where
  all : ∀ p ∈ T, g p.1 = some (.tbl p.2)
  only : ∀ a q, g a = some (.tbl q) → (a, q) ∈ T
theorem TbG.gup {T : List (Addr × Str)} {g : DG} {p : Addr} {o : DO} (h : TbG T g) (hp : ∀ q, g p ≠ some (.tbl q)) (ho : ∀ q, o ≠ .tbl q) : TbG T (gup g p o) := by
  refine ⟨fun e he => ?_, fun a q e => ?_⟩
  · have h1 := h.all e he
    rw [gup_ne (fun z => hp e.2 (by rw [← z]; exact h1))]
    exact h1
  · by_cases ha : a = p
    · subst ha
      rw [gup_same] at e
      exact absurd (Option.some.inj e) (ho q)
    · rw [gup_ne ha] at e
      exact h.only a q e
theorem TbG.lst {T : List (Addr × Str)} {g : DG} {p : Addr} {ds es : List DV} (h : TbG T g) (hp : g p = some (.lst ds)) : TbG T (DL.gup g p (.lst es)) := h.gup (fun q z => by rw [hp] at z; cases z) fun q z => by cases z
theorem TbG.new {T : List (Addr × Str)} {g : DG} {p : Addr} {o : DO} (h : TbG T g) (hp : g p = none) (ho : ∀ q, o ≠ .tbl q) : TbG T (DL.gup g p o) := h.gup (fun q z => by rw [hp] at z; cases z) ho
theorem TbG.tabs {T : List (Addr × Str)} {K : Fg} {H : Hp} {g : DG} (h : TbG T g) (rg : RG K H g) : Tabs T H := fun p hp => rg _ _ (h.all p hp)
theorem kp_extN {H H1 : Hp} (e : ExtN H H1) : Kp H H1 :=
  ⟨fun b xs q => e b _ q (fun ps z => by cases z), fun b o u q => e b _ q (fun ps z => by cases z), fun b fs q => e b _ q (fun ps z => by cases z), fun b n q => e b _ q codeO_ne⟩
theorem ro_trkN {K : Fg} {H : Hp} {a : Addr} {o : DO} (r : RO K H a o) (hn : ∀ q, o ≠ .tbl q) : ∃ u, H a = some u ∧ ∀ ps, u ≠ .tbl ps := by
  cases o with
  | lst ds => obtain ⟨vs, e, _⟩ := r; exact ⟨_, e, fun ps z => by cases z⟩
  | dK ks ds => obtain ⟨vs, e, _⟩ := r; exact ⟨_, e, fun ps z => by cases z⟩
  | dT ks ds => obtain ⟨vs, e, _⟩ := r; exact ⟨_, e, fun ps z => by cases z⟩
  | ins C ds =>
    obtain ⟨dx, vs, _, h | h, _⟩ := r
    · exact ⟨_, h.1, fun ps z => by cases z⟩
    · exact ⟨_, h.1, fun ps z => by unfold SlX.SlO at z; cases z⟩
  | tbl q => exact absurd rfl (hn q)
theorem rg_extN {T : List (Addr × Str)} {K : Fg} {H H1 : Hp} {g : DG} (rg : RG K H g) (h : TbG T g) (e : ExtN H H1) (t : Tabs T H1) : RG K H1 g := fun a o ha => by
  by_cases c : ∃ q, o = .tbl q
  · obtain ⟨q, rfl⟩ := c
    exact t (a, q) (h.only a q ha)
  · have r := rg a o ha
    obtain ⟨u, hu, nu⟩ := ro_trkN r fun q z => c ⟨q, z⟩
    exact r.keep (kp_extN e) ((e a u hu nu).trans hu.symm)
theorem ext_extN {H H1 : Hp} {g : DG} (e : ExtN H H1) : Ext g H g H1 := fun a o ha n w => ⟨e a o ha fun ps z => w (by rw [z]; exact trivial), n⟩
/-! ### the maker's values, as the lambda finds them -/
/-! ### the call of what was handed over -/
section
variable {X : Cx} {pins : List (Addr × Obj)} {σ : L2.St} {H : Hp} {s : Shared}
end
section
variable {X : Cx}
end
end DL

/-! Deep layer XE: an own exception whose __init__ says super().__init__('..') and keeps what it was given. -/
namespace DL
open PySem PySem.Spec PyProof.Rows PySem.Calls L2 PySem.W
section
variable {prog : Program} {w : World} {K : PySem.W.Frag} {mg mb : Str → Option Value} {A : Around} {R : Result → Shared → Prop} {hp : Heap} {s : Shared} {C fI cda cc e t0 : Addr} {B newId initId : String} {bmB : List Value} {fld x0 x1 qual msg : Str} {params : Arguments} {scope : Scope}
  {dV kV doc pm ct oc ccl cl : Value} {an od cdd cld : Option Addr} {osl ccs csl : Array (Option Value)} {vs : Array Value} {file : Str} {tf : Tok} {j : Nat} {p1 p2 p3 p4 p5 p6 p7 p8 p9 p10 : Pos} {u : Value} {a0 a1 : Arg}
end
end DL

/-! Deep layer AZ: d.pop(k), the keys tuples, k there. -/
namespace DL
open PySem PySem.Spec PyProof.Rows L2
section
variable {X : Cx} {K : Fg} {pos apos cpos : Pos} {o e : Expr} {to : TDE} {t : TDA}
end
end DL

/-! Deep layer BA: min of a list of tuples of ints with default=, xs.index(y). -/
namespace DL
open PySem PySem.Spec PyProof.Rows L2 Builtin
theorem py_tuI (k : List Int) : (tuI k).py = .tuple (k.map PyData.int) := py_tI k
theorem lt_tuI (a b : List Int) : W.dataLt (tuI a).py (tuI b).py = decide (a < b) := by
  have h := dle_tuI b a
  unfold dleD at h
  have h2 : W.dataLt (tuI a).py (tuI b).py = !decide (b ≤ a) := by rw [← h, Bool.not_not]
  rw [h2]
  by_cases c : a < b
  · rw [decide_eq_true c, decide_eq_false (fun z => z c)]; rfl
  · rw [decide_eq_false c, decide_eq_true (show b ≤ a from c)]; rfl
theorem alike_ti (a b : List Int) : W.alike (tuI a).py (tuI b).py = true := by
  rw [py_tuI, py_tuI]
  simp only [W.alike]
  exact alike_is a b
theorem alikeAll_tuI (ks : List (List Int)) : W.AlikeAll (ks.map fun x => (tuI x).py) := by
  refine ⟨fun x hx y hy => ?_, fun x hx e => ?_⟩
  · obtain ⟨a, _, rfl⟩ := List.mem_map.mp hx
    obtain ⟨b, _, rfl⟩ := List.mem_map.mp hy
    exact alike_ti a b
  · obtain ⟨a, _, rfl⟩ := List.mem_map.mp hx
    rw [py_tuI] at e
    cases e
theorem depthAll_tuI : ∀ ks : List (List Int), PyData.depthAll (ks.map fun x => (tuI x).py) ≤ 1
  | [] => by show PyData.depthAll [] ≤ 1; simp [PyData.depthAll]
  | k :: ks => by
    have ih := depthAll_tuI ks
    rw [List.map_cons]
    simp only [PyData.depthAll]
    rw [py_tuI, PyData.depth, dep_is]
    omega
section
variable {X : Cx} {e d : Expr} {p kpos pos : Pos}
end
/-! ### xs.index(y) -/
section
variable {X : Cx} {K : Fg} {apos cpos : Pos} {o e : Expr} {to : TDE} {t : TDA}
end
end DL

/-! Deep layer BB: max of a dict whose keys are ints. -/
namespace DL
open PySem PySem.Spec PyProof.Rows L2
section
variable {X : Cx} {K : Fg}
end
end DL

/-! Deep layer BC: a dict against {}, comprehensions of two clauses whose inner walk hangs on the outer one. -/
namespace DL
open PySem PySem.Spec PyProof.Rows L2
section
variable {X : Cx} {pins : List (Addr × Obj)} {σ : L2.St} {H : Hp} {s : Shared}
end
section
variable {g : DG} {δ : DS}
end
end DL

/-! Deep layer BD: comprehensions of dicts with int keys; such a dict against {}. -/
namespace DL
open PySem PySem.Spec PyProof.Rows L2
section
variable {X : Cx}
def dDcCK (tg : Tg) (own : List Nat) (tt : TDT) (tk tv : TDE) (δ : DS) : List DV → List Key → List DV → DG → (List Key → List DV → DG → Prop) → Prop
  | [], ks, vs, g, R => R ks vs g
  | d :: ds, ks, vs, g, R => match bindT tg d (wipeD δ own) with
    | some δ2 => tt δ2 g fun b g3 => if b = true then tk δ2 g3 fun y g4 => tv δ2 g4 fun z g5 => (match keyK y with | some k => dDcCK tg own tt tk tv δ ds (putKs ks k) (putDs ks vs k z) g5 R | none => False) else dDcCK tg own tt tk tv δ ds ks vs g3 R
    | none => False
def dDcK (wi : TDI) (tg : Tg) (own : List Nat) (tt : TDT) (tk tv : TDE) : TDE := fun δ g Q => wi δ g fun ds g1 => ds.length ≤ sizeLine ∧ dDcCK tg own tt tk tv δ ds [] [] g1 fun ks vs g2 => Q (.dK ks vs) g2
theorem dcK_up {K : Fg} {wi : TDI} {tg : Tg} {own : List Nat} {tt : TDT} {tk tv : TDE} {δ : DS} {g : DG} {σ : L2.St} {H : Hp} {P : List Key → List DV → DG → Prop} {Q : VK} (hix : ∀ i ∈ tg.ix, i ∈ own) (rs : RS K H δ σ) (rg : RG K H g)
    (h : wi δ g fun ds g1 => ds.length ≤ sizeLine ∧ dDcCK tg own tt tk tv δ ds [] [] g1 P)
    (k : ∀ D kvs ys g' H', Ext g H g' H' → RG K H' g' → g' D = none → (∀ o, H D = some o → g D = none → ¬ OwnO o → False) → H' D = some (.dK kvs) → RDs K H' ys (kvs.map (·.2)) → P (kvs.map (·.1)) ys g' → Q (.ref D) H') :
    tDcA (.dK []) (upI K wi) (tgG K tg) (upT K tt) (upE K tk) (upE K tv) own σ H Q := by
  refine ⟨δ, g, _, rs, rg, h, fun ds g1 J H1 e1 rg1 dw p D hD => ?_⟩
  obtain ⟨hlen, p⟩ := p
  have fresh : ∀ o, H D = some o → g D = none → ¬ OwnO o → False := fun o q n w => by
    have := (e1 D o q n w).1
    rw [hD] at this; cases this
  let Inn : Nat → Hp → Prop := fun i H' => Kp H1 H' ∧ ∃ (kvs : List (Key × V)) (ys : List DV) (g' : DG), Ext g H g' H' ∧ RG K H' g' ∧ g' D = none ∧ H' D = some (.dK kvs) ∧ RDs K H' ys (kvs.map (·.2)) ∧ kvs.length ≤ i ∧
    dDcCK tg own tt tk tv δ (ds.drop i) (kvs.map (·.1)) ys g' P
  refine ⟨fun i m H' => m = ds.length - i ∧ i ≤ ds.length ∧ Inn i H', ⟨ds.length, rfl, Nat.zero_le _, Kp.fresh hD, [], [], g1, e1.trans (Ext.fresh rg1 hD), rg1.fresh hD, rg1.none hD, upd_same, .nil, Nat.le_refl _, p⟩, ?_⟩
  rintro i m H2 ⟨rfl, hi, kp2, kvs, ys, g2, e2, rg2, gD, hD2, ra, hacc, q⟩
  by_cases hlt : i < ds.length
  · rw [List.drop_eq_getElem_cons hlt] at q
    unfold dDcCK at q
    refine .inr ⟨dw.goes i H2 hlt kp2, Inn (i + 1), fun H' z => ⟨ds.length - (i + 1), by omega, rfl, hlt, z⟩, fun x H3 y => ?_⟩
    obtain ⟨st, rd⟩ := dw.yields i H2 x H3 ds[i] (by simp [hlt]) kp2 y
    split at q
    · rename_i δ3 eb
      have rg3 := step_rg st rg2
      have e3 := step_ext st rg2
      have rs3 : RS K H3 (wipeD δ own) (wipe σ own) := ((rs.mono (e2.kp rg)).mono (step_kp st)).wipe own
      refine tg_run rd rs3 eb fun σ3 rsT hw => ⟨by rw [hw own hix]; exact wipe_wipe σ own, ?_⟩
      have hD3 : H3 D = some (.dK kvs) := (e3 D _ hD2 gD fun z => z).1
      refine ⟨δ3, g2, _, rsT, rg3, q, fun b g4 H4 e4 rg4 z => ?_⟩
      have hD4 := e4 D _ hD3 gD fun z => z
      cases b with
      | false =>
        dsimp only
        rw [if_neg Bool.false_ne_true] at z ⊢
        exact ⟨(kp2.trans (step_kp st)).trans (e4.kp rg3), kvs, ys, g4, (e2.trans e3).trans e4, rg4, hD4.2, hD4.1, (ra.mono (step_kp st)).mono (e4.kp rg3), by omega, z⟩
      | true =>
        dsimp only
        rw [if_pos rfl] at z ⊢
        refine ⟨δ3, g4, _, rsT.mono (e4.kp rg3), rg4, z, fun yk g5 v H5 e5 rg5 rd5 w => ?_⟩
        have hD5 := e5 D _ hD4.1 hD4.2 fun z => z
        refine ⟨δ3, g5, _, (rsT.mono (e4.kp rg3)).mono (e5.kp rg4), rg5, w, fun yv g6 u H6 e6 rg6 rd6 w2 => ?_⟩
        have hD6 := e6 D _ hD5.1 hD5.2 fun z => z
        split at w2
        · rename_i kk ek
          have ev := keyK_of (rd5.mono (e6.kp rg5)) ek
          subst ev
          have ra6 := (((ra.mono (step_kp st)).mono (e4.kp rg3)).mono (e5.kp rg4)).mono (e6.kp rg5)
          obtain ⟨z1, z2⟩ := putK_rd (k := kk) rd6 ra6
          have km : Kp H6 (upd H6 D (.dK (putK kvs kk u))) := Kp.mut (by rw [hD6.1]; exact True.intro)
          refine ⟨_, DPut.k hD6.1 (by omega), ((((kp2.trans (step_kp st)).trans (e4.kp rg3)).trans (e5.kp rg4)).trans (e6.kp rg5)).trans km, putK kvs kk u, putDs (kvs.map (·.1)) ys kk yv, g6, fun a o ha hn hw => ?_, fun a o ha => ?_, hD6.2, upd_same, z2.mono km, ?_, by rw [z1]; exact w2⟩
          · obtain ⟨z1, z2⟩ := ((e2.trans e3).trans ((e4.trans e5).trans e6)) a o ha hn hw
            exact ⟨by rw [upd_ne (fun q => by subst q; exact fresh o ha hn hw)]; exact z1, z2⟩
          · have na : a ≠ D := fun q => by subst q; rw [hD6.2] at ha; cases ha
            exact (rg6 a o ha).keep km (upd_ne na)
          · have := length_putK kvs kk u; omega
        · exact w2.elim
    · exact q.elim
  · have ei : i = ds.length := by omega
    subst ei
    rw [List.drop_length] at q
    exact .inl ⟨dw.stops H2 kp2, k D kvs ys g2 H2 e2 rg2 gD fresh hD2 ra q⟩
variable {kx vx iter tgx : Expr} {ifs : List Expr} {scope : Scope} {own : List (Str × Nat)} {wi : TDI} {tg : Tg} {tt : TDT} {tk tv : TDE} {pos : Pos}
theorem pd_dcK (room : X.A.units + 64 < cLine) (hc : X.calm = true) (hN : X.N.Nodup) (hi : PI X tgx iter (upI X.K wi)) (ok : BlkOk X.N X.env.scope scope own)
    (hg : ∀ (s : Shared) (H : Hp) (C : Addr) (cl : List (Str × Addr)) (fp : List Addr), PG (X.blk s H scope (compEnvC scope cl C X.env) fp) tgx (tgG X.K tg)) (ht : ∀ (s : Shared) (H : Hp) (C : Addr) (cl : List (Str × Addr)) (fp : List Addr), PTs (X.blk s H scope (compEnvC scope cl C X.env) fp) ifs (upT X.K tt))
    (hk : ∀ (s : Shared) (H : Hp) (C : Addr) (cl : List (Str × Addr)) (fp : List Addr), PE (X.blk s H scope (compEnvC scope cl C X.env) fp) kx (upE X.K tk)) (he : ∀ (s : Shared) (H : Hp) (C : Addr) (cl : List (Str × Addr)) (fp : List Addr), PE (X.blk s H scope (compEnvC scope cl C X.env) fp) vx (upE X.K tv))
    (hix : ∀ i ∈ tg.ix, i ∈ own.map (·.2) := by decide) (hs : ∀ x, foldedSetIterable iter X.env x = pure x := by intro _; rfl) :
    PE X (.DictComp kx vx [⟨tgx, iter, ifs, 0⟩] scope pos) (upE X.K (dDcK wi tg (own.map (·.2)) tt tk tv)) :=
  PE_weak (PE_fz (pe_dcA (.inl rfl) (by omega) hc hN hi ok hg ht hk he hs)) fun σ H Q ⟨δ, g, P, rs, rg, h, k⟩ => dcK_up (P := fun ks vs g2 => P (.dK ks vs) g2) hix rs rg h fun D kvs ys g' H' e rg' gD fresh hD rd p =>
    have km : ∀ o, Kp H' (upd H' D o) := fun o => Kp.mut (by rw [hD]; exact True.intro)
    .inr ⟨D, .dK kvs, rfl, hD, trivial, fun o => k _ g' _ _ (lock_ext e fresh) (fun a u ha => (rg' a u ha).keep (km _) (upd_ne (fun q => by subst q; rw [gD] at ha; cases ha))) (.dK ⟨o, kvs, upd_same, rfl, rfl⟩ (rd.mono (km _))) p⟩
theorem rd_dcK {wi : TDI} {tg : Tg} {own : List Nat} {tt : TDT} {tk tv : TDE} {δ : DS} {g : DG} {Q : DV → DG → Prop} (h : wi δ g fun ds g1 => ds.length ≤ sizeLine ∧ dDcCK tg own tt tk tv δ ds [] [] g1 fun ks vs g2 => Q (.dK ks vs) g2) : dDcK wi tg own tt tk tv δ g Q := h
end
section
variable {X : Cx} {pins : List (Addr × Obj)} {σ : L2.St} {H : Hp} {s : Shared}
end
/-! ### min(xs, default=d) -/
section
variable {X : Cx} {K : Fg} {σ : L2.St} {H : Hp}
end
end DL

/-! Deep layer BE: enumerate(zip(a tuple, a list)). -/
namespace L2.EnZ
open PySem PySem.Spec PyProof.Rows L2 PySem.W
section
variable {prog : Program} {w : World} {A : Around} {E : Value → Shared → Prop} {s : Shared}
def ZipTL (h : Heap) (e z TI TO i1 i2 a b : Addr) (i : Nat) : Prop :=
  ((∃ f, IsZipG h z TI TO .none f) ∨ ∃ (T : Addr) (f : Bool), IsZipG h z TI TO (rawInt T) f) ∧ IsPair h TI (.ref i1) (.ref i2) ∧ (∃ x y, IsPair h TO x y) ∧ h.IsTupleIter i1 a i ∧ h.IsListIter i2 b i
theorem ZipTL.ty {e z TI TO i1 i2 a b : Addr} {i : Nat} (h : ZipTL s.heap e z TI TO i1 i2 a b i) : s.TypeIs (.ref z) "zip" := by
  rcases h.1 with ⟨f, h⟩ | ⟨T, f, h⟩
  · exact ⟨_, h, rfl⟩
  · exact ⟨_, h, rfl⟩
theorem ZipTL.has {h : Heap} {e z TI TO i1 i2 a b : Addr} {i : Nat} (q : ZipTL h e z TI TO i1 i2 a b i) : ∀ c ∈ [z, TI, TO, i1, i2], ∃ o, h.get? c = some o ∧ ∀ v, o.data ≠ .cell v := by
  obtain ⟨hz, hTI, ⟨x, y, hTO⟩, ⟨o1, e1, _, d1⟩, ⟨o2, e2, _, d2⟩⟩ := q
  intro c hc
  have e' : c = z ∨ c = TI ∨ c = TO ∨ c = i1 ∨ c = i2 := by simpa using hc
  rcases e' with q | q | q | q | q
  · rw [q]
    rcases hz with ⟨f, h⟩ | ⟨T, f, h⟩
    · exact ⟨_, h, fun v q => nomatch q⟩
    · exact ⟨_, h, fun v q => nomatch q⟩
  · rw [q]; exact ⟨_, hTI, fun v q => nomatch q⟩
  · rw [q]; exact ⟨_, hTO, fun v q => nomatch q⟩
  · rw [q]; exact ⟨o1, e1, fun v q => by rw [d1] at q; cases q⟩
  · rw [q]; exact ⟨o2, e2, fun v q => by rw [d2] at q; cases q⟩
theorem ZipTL.at {h h2 : Heap} {e z TI TO i1 i2 a b : Addr} {i : Nat} (q : ZipTL h e z TI TO i1 i2 a b i) (he : e ∉ [z, TI, TO, i1, i2]) (k : ∀ b o, b ≠ e → h.get? b = some o → h2.get? b = some o) : ZipTL h2 e z TI TO i1 i2 a b i := by
  obtain ⟨hz, hTI, ⟨x, y, hTO⟩, h1, h2⟩ := q
  have ne : ∀ c ∈ [z, TI, TO, i1, i2], c ≠ e := fun c hc z => he (z ▸ hc)
  refine ⟨?_, k _ _ (ne _ (by simp)) hTI, ⟨x, y, k _ _ (ne _ (by simp)) hTO⟩, h1.at fun o q => k _ o (ne _ (by simp)) q, h2.at fun o q => k _ o (ne _ (by simp)) q⟩
  rcases hz with ⟨f, h⟩ | ⟨T, f, h⟩
  · exact .inl ⟨f, k _ _ (ne _ (by simp)) h⟩
  · exact .inr ⟨T, f, k _ _ (ne _ (by simp)) h⟩
end
/-! ### the walk -/
end L2.EnZ
namespace L2.EnZ
open PySem PySem.Spec PyProof.Rows L2 PySem.W
end L2.EnZ
namespace DL
open PySem PySem.Spec PyProof.Rows L2 Builtin L2.EnZ
section
variable {X : Cx} {pos : Pos} {δ : DS} {g : DG}
theorem rd_wenL {ta : TDA} {QA : List DV → DG → Prop} (h : ta δ g fun xs g1 => enKL QA xs g1) : wEnL ta δ g QA := h
theorem rd_enKL {ds : List DV} {QA : List DV → DG → Prop} (h : QA (enD ds) g) : enKL QA [.lst ds] g := h
end
end DL

/-! Deep layer BF: sorted(list, key=a def of the text). -/
namespace DL
open PySem PySem.Spec PyProof.Rows L2 Builtin
section
variable {X : Cx} {pins : List (Addr × Obj)} {σ : L2.St} {H : Hp} {s : Shared}
end

section
variable {X : Cx} {pins : List (Addr × Obj)} {σ : L2.St} {H : Hp} {s : Shared} {k : Nat} {f a kS : Addr} {fd : FuncData} {ps : List Str} {sp : Sp} {xs : List V} {vs : List Value} {e1 : Nat} {J : Nat → List V → Hp → Prop} {Q : VK} {E : Value → Shared → Prop}
end
section
variable {X : Cx} {k : Nat} {f : Addr} {fd : FuncData} {ps : List Str} {sp : Sp} {sd : SpD}
end
end DL

/-! Deep layer BG: tuples whose whole object is known (made by tuple(a list), a display, t + u), and dict(such a tuple of pairs). -/
namespace DL
open PySem PySem.Spec PyProof.Rows L2 Builtin
section
variable {X : Cx} {K : Fg} {pins : List (Addr × Obj)} {σ : L2.St} {H : Hp} {s : Shared}
theorem Inv.tpl {a : Addr} {xs : List V} (I : Inv X pins σ H s) (h : TpH X.K H a xs) : ∃ its : List Value, Vals xs its ∧ PlainSeq "tuple" s.heap a its.toArray ∧ xs.length ≤ sizeLine := by
  obtain ⟨o, ho, hd⟩ := h
  obtain ⟨e, z, its, r, o', e', hc, n, hdat⟩ := (show ObjOk X.prog X.w H s.heap a (.frz o (.tup xs)) from I.hok a _ ho)
  rw [e] at e'
  cases e'
  exact ⟨its, r, ⟨o, n, e, hc, hd, hdat⟩, z⟩
/-! ### tuple(a list) -/
/-! ### a display -/
variable {es : List Expr} {t : TDA} {pos : Pos}
/-! ### t + u -/
/-! ### dict(a tuple of pairs) -/
end
end DL

/-! Deep layer BH: dicts with int (and text) keys: a lock at an expression, dict(d), dict(pairs), displays, walks over keys and items, == and !=; max of a list of tuples of ints. -/
namespace DL
open PySem PySem.Spec PyProof.Rows L2 Builtin
section
variable {X : Cx} {K : Fg} {pins : List (Addr × Obj)} {σ : L2.St} {H : Hp} {s : Shared}
/-! ### a new dict, locked where it is made -/
def dLk (t : TDE) : TDE := fun δ g Q => t δ g fun x g1 => ∃ p ks ds, x = .ref p ∧ g1 p = some (.dK ks ds) ∧ Q (.dK ks ds) (gdel g1 p)
theorem pd_lk {e : Expr} {t : TDE} (h : PE X e (upE X.K t)) : PE X e (upE X.K (dLk t)) := by
  refine PE_weak (PE_fz h) fun σ H Q ⟨δ, g, P, rs, rg, h, k⟩ => ⟨δ, g, _, rs, rg, h, fun x g1 v H1 e1 rg1 rx ⟨p, ks, ds, ex, eg, q⟩ => ?_⟩
  subst ex
  cases rx
  obtain ⟨kvs, hp, e2, rd⟩ := rg1 _ _ eg
  have km : ∀ o, Kp H1 (upd H1 p (.frz o (.dK kvs))) := fun o => Kp.mut (by rw [hp]; exact True.intro)
  refine .inr ⟨p, .dK kvs, rfl, hp, trivial, fun o => k _ (gdel g1 p) _ _ (fun a u ha hn hw => ?_) (fun a u ha => ?_) (.dK ⟨o, kvs, upd_same, e2, rfl⟩ (rd.mono (km o))) q⟩
  · obtain ⟨z1, z2⟩ := e1 a u ha hn hw
    have na : a ≠ p := fun z => by rw [z, eg] at z2; cases z2
    exact ⟨by rw [upd_ne na]; exact z1, by unfold gdel; rw [if_neg na]; exact z2⟩
  · unfold gdel at ha
    by_cases na : a = p
    · rw [if_pos na] at ha; cases ha
    · rw [if_neg na] at ha; exact (rg1 a u ha).keep (km o) (upd_ne na)
theorem rd_lk {t : TDE} {δ : DS} {g : DG} {Q : DV → DG → Prop} (h : t δ g fun x g1 => ∃ p ks ds, x = .ref p ∧ g1 p = some (.dK ks ds) ∧ Q (.dK ks ds) (gdel g1 p)) : dLk t δ g Q := h
/-! ### dict(d) -/
def rDictK : List V → Hp → VK → Prop := fun xs H Q => ∃ a kvs, xs = [V.ref a] ∧ Rd H a (.dK kvs) ∧ ∀ p, H p = none → Q (.ref p) (upd H p (.dK kvs))
theorem cr_dictK : CallR X (.type "dict") rDictK := by
  intro pins s σ H xs us Q I r ⟨a, kvs, ex, hd, q⟩
  subst ex
  obtain rfl := Vals.ref1 r
  exact d_copyOf I hd fun p s' hp I' => ⟨.ref p, _, I', rfl, q p hp⟩
def rrDictKM : RRsM := fun xs g P => ∃ x ks ds, xs = [x] ∧ dctK g x = some (ks, ds) ∧ ∀ p, g p = none → P (.ref p) (gup g p (.dK ks ds))
theorem ref_dictKM : RefCallM K rrDictKM rDictK := by
  intro xs P vs H g Q rg r k ⟨x, ks, ds, ex, e, h⟩
  subst ex
  obtain ⟨v, rfl, rx⟩ := r.inj1
  obtain ⟨a, kvs, rfl, hd, ek, rd⟩ := dctK_of rg rx e
  exact ⟨a, kvs, rfl, hd, fun p hp => .inl (k _ _ _ _ (Ext.new hp) (rg.newK hp ek rd) (.ref p) (h p (rg.none hp)))⟩
theorem rd_dictKM {x : DV} {g : DG} {P : DV → DG → Prop} {ks : List Key} {ds : List DV} (e : dctK g x = some (ks, ds)) (h : ∀ p, g p = none → P (.ref p) (gup g p (.dK ks ds))) : rrDictKM [x] g P := ⟨x, ks, ds, rfl, e, h⟩
/-! ### dict(pairs) -/
end
/-! ### displays -/
section
variable {X : Cx} {K : Fg} {pos : Pos}
inductive PrPK : List (DV × DV) → List (Key × DV) → Prop
  | nil : PrPK [] []
  | cons {y d : DV} {k : Key} {ds : List (DV × DV)} {ps : List (Key × DV)} : keyK y = some k → PrPK ds ps → PrPK ((y, d) :: ds) ((k, d) :: ps)
theorem prPK_of {H : Hp} : ∀ {ds : List (DV × DV)} {ps : List (Key × DV)} {vs : List (V × V)}, PrPK ds ps → RPs K H ds vs → ∃ kvs : List (Key × V), vs = kvs.map (fun kv => (kV kv.1, kv.2)) ∧ kvs.map (·.1) = ps.map (·.1) ∧ RDs K H (ps.map (·.2)) (kvs.map (·.2))
  | _, _, _, .nil, r => by cases r; exact ⟨[], rfl, rfl, .nil⟩
  | _, _, _, .cons (k := k) hk t, r => by
    cases r with
    | @cons a q as bs h1 r2 =>
      obtain ⟨kvs, e, e1, rd⟩ := prPK_of t r2
      have ev := keyK_of h1.1 hk
      obtain ⟨q1, q2⟩ := q
      dsimp only at h1 ev
      subst ev
      exact ⟨(k, q2) :: kvs, by rw [e]; rfl, by rw [List.map_cons, List.map_cons, e1], .cons h1.2 rd⟩
theorem mergeK_nodup : ∀ (more acc : List (Key × V)), ((acc ++ more).map (·.1)).Nodup → mergeK acc more = acc ++ more
  | [], acc, _ => by rw [List.append_nil]; rfl
  | p :: r, acc, h => by
    have hn : valV acc p.1 = none := by
      cases e : valV acc p.1 with
      | none => rfl
      | some v =>
        have h2 : (acc.any fun kv => decide (kv.1 = p.1)) = true := by rw [valV_any, e]; rfl
        obtain ⟨q, hq, hq2⟩ := List.any_eq_true.mp h2
        rw [List.map_append, List.map_cons] at h
        exact absurd (of_decide_eq_true hq2) ((List.nodup_append.mp h).2.2 q.1 (List.mem_map_of_mem hq) p.1 List.mem_cons_self)
    show mergeK (putK acc p.1 p.2) r = _
    rw [putK_new p.2 hn, mergeK_nodup r _ (by rw [List.append_assoc]; exact h), List.append_assoc]
    rfl
def dDispKM (trs : List (TDE × TDE)) : TDE := fun δ g Q => dPairs trs δ g fun ps g' => ∃ qs : List (Key × DV), PrPK ps qs ∧ (qs.map (·.1)).Nodup ∧ qs.length ≤ 15 ∧ ∀ p, g' p = none → Q (.ref p) (gup g' p (.dK (qs.map (·.1)) (qs.map (·.2))))
theorem pd_dispKM {keys : List (Option Expr)} {values : List Expr} {trs : List (TDE × TDE)} (h : PPs X pos keys values (upPs X.K trs)) (hall : keys.all (·.isSome) = true := by rfl) (hl : keys.length = values.length := by rfl) (h0 : keys ≠ [] := by intro z; cases z)
    (h15 : keys.length ≤ 15 := by decide) : PE X (.Dict keys values pos) (upE X.K (dDispKM trs)) := by
  refine PE_weak (pe_disp h hall hl h0 h15) fun σ H Q ⟨δ, g, P, rs, rg, h, k⟩ p hp => ?_
  refine dPairs_up (rs.mono (Kp.fresh hp)) (rg.fresh hp) h fun ps g' vs H2 e rg' rp ⟨qs, hq, nd, hl, h2⟩ => ?_
  obtain ⟨kvs, ev, e1, rd⟩ := prPK_of hq rp
  have gp : g p = none := rg.none hp
  have eD := e p _ upd_same gp fun z => z
  have hlk : kvs.length = qs.length := by
    have := congrArg List.length e1
    rwa [List.length_map, List.length_map] at this
  refine ⟨eD.1, kvs, ev, by omega, ?_⟩
  rw [mergeK_nodup kvs [] (by rw [List.nil_append, e1]; exact nd), List.nil_append]
  have km : Kp H2 (upd H2 p (.dK kvs)) := Kp.mut (by rw [eD.1]; exact True.intro)
  refine k _ _ _ _ ?_ (fun a u ha => ?_) (.ref p) (h2 p eD.2)
  · intro a o hao hn hw
    have na : a ≠ p := fun q => by subst q; rw [hp] at hao; cases hao
    obtain ⟨z1, z2⟩ := e a o (by rw [upd_ne na]; exact hao) hn hw
    exact ⟨by rw [upd_ne na]; exact z1, by rw [gup_ne na]; exact z2⟩
  · by_cases na : a = p
    · subst na
      rw [gup_same] at ha
      cases ha
      exact ⟨kvs, upd_same, e1, rd.mono km⟩
    · rw [gup_ne na] at ha
      exact (rg' a u ha).keep km (upd_ne na)
theorem rd_dispKM {δ : DS} {g : DG} {Q : DV → DG → Prop} {trs : List (TDE × TDE)} (h : dPairs trs δ g fun ps g' => ∃ qs : List (Key × DV), PrPK ps qs ∧ (qs.map (·.1)).Nodup ∧ qs.length ≤ 15 ∧ ∀ p, g' p = none → Q (.ref p) (gup g' p (.dK (qs.map (·.1)) (qs.map (·.2))))) : dDispKM trs δ g Q := h
end
/-! ### walks -/
section
variable {X : Cx} {K : Fg} {e : Expr} {td : TDE} {apos cpos : Pos}
def wKeysK (te : TDE) : TDI := fun δ g R => te δ g fun x g1 => ∃ ks ds, x = .dK ks ds ∧ R (ks.map keyD) g1
def pairsK (ks : List Key) (ds : List DV) : List DV := (ks.zip ds).map fun p => .tup [keyD p.1, p.2]
def wItemsK (te : TDE) : TDI := fun δ g R => te δ g fun x g1 => ∃ ks ds, x = .dK ks ds ∧ R (pairsK ks ds) g1
theorem dwalk_keysK {d : Addr} {od : Obj} {H : Hp} {kvs : List (Key × V)} (h : H d = some (.frz od (.dK kvs))) : DWalk K (Itk d od kvs) (kvs.map fun kv => keyD kv.1) H :=
  ⟨fun i H' hi k => ⟨k.f _ _ _ h, by rw [List.length_map] at hi; exact hi⟩, fun H' k => ⟨k.f _ _ _ h, by rw [List.length_map]; exact Nat.le_refl _⟩, fun i H1 x H' d hd k y => by
    obtain ⟨e, key, v, ek, ex⟩ := y
    subst e ex
    rw [List.getElem?_map, ek] at hd
    cases hd
    exact ⟨.inl rfl, keyD_rd key⟩⟩
theorem dwalk_itemsK {d : Addr} {od : Obj} {H : Hp} {kvs : List (Key × V)} {ds : List DV} (h : H d = some (.frz od (.dK kvs))) (r : RDs K H ds (kvs.map (·.2))) : DWalk K (Iti d od kvs) (pairsK (kvs.map (·.1)) ds) H := by
  have hl : ds.length = kvs.length := by rw [r.length, List.length_map]
  have hl2 : (pairsK (kvs.map (·.1)) ds).length = kvs.length := by unfold pairsK; rw [List.length_map, List.length_zip, List.length_map]; omega
  refine ⟨fun i H' hi k => ⟨k.f _ _ _ h, by omega⟩, fun H' k => ⟨k.f _ _ _ h, by omega⟩, fun i H1 x H' dv hd k y => ?_⟩
  obtain ⟨T, key, v, ek, ex, hT, e⟩ := y
  subst e ex
  unfold pairsK at hd
  rw [List.getElem?_map] at hd
  obtain ⟨⟨k', d'⟩, hz, e2⟩ := Option.map_eq_some_iff.mp hd
  subst e2
  obtain ⟨hz1, hz2⟩ := List.getElem?_zip_eq_some.mp hz
  rw [List.getElem?_map, ek] at hz1
  cases hz1
  obtain ⟨v', hv, rv⟩ := r.get hz2
  rw [List.getElem?_map, ek] at hv
  cases hv
  have kk : Kp H1 (upd H1 T (.tup [kV key, v])) := Kp.fresh hT
  exact ⟨.inr ⟨T, _, hT, rfl⟩, .tup upd_same (.cons (keyD_rd key) (.cons ((rv.mono k).mono kk) .nil))⟩
theorem pid_keysK {tgx : Expr} (he : PE X e (upE X.K td)) : PI X tgx e (upI X.K (wKeysK td)) := by
  refine PI_weak (pi_keys he) fun σ H R ⟨δ, g, P, rs, rg, h, k⟩ => ⟨δ, g, _, rs, rg, h, fun d g1 v H1 e1 rg1 rd ⟨ks, ds, ed, p⟩ => ?_⟩
  subst ed
  cases rd with
  | dK hs hr =>
    obtain ⟨od, kvs, hd, e1', e2'⟩ := hs
    refine ⟨_, od, rfl, .inl ⟨kvs, hd, k _ _ _ _ e1 rg1 (dwalk_keysK hd) ?_⟩⟩
    subst e1'
    rw [List.map_map] at p
    exact p
theorem pid_itemsK {elts : List Expr} {kk : Nat} {tpos : Pos} (he : PE X e (upE X.K td)) (hbase : attributeBase e "items" X.env (eval e X.env) = eval e X.env := by rfl) (hline : (apos.endLine == cpos.line) = true := by rfl) : PI X (.Tuple elts kk tpos) (.Call (.Attribute e "items" apos) [] [] cpos) (upI X.K (wItemsK td)) := by
  refine PI_weak (pi_items he hbase hline) fun σ H R ⟨δ, g, P, rs, rg, h, k⟩ => ⟨δ, g, _, rs, rg, h, fun d g1 v H1 e1 rg1 rd ⟨ks, ds, ed, p⟩ => ?_⟩
  subst ed
  cases rd with
  | dK hs hr =>
    obtain ⟨od, kvs, hd, e1', e2'⟩ := hs
    subst e1' e2'
    exact ⟨_, od, kvs, rfl, hd, k _ _ _ _ e1 rg1 (dwalk_itemsK hd hr) p⟩
theorem rd_wkK2 {δ : DS} {g : DG} {RL : List DV → DG → Prop} (h : td δ g fun x g1 => ∃ ks ds, x = .dK ks ds ∧ RL (ks.map keyD) g1) : wKeysK td δ g RL := h
theorem rd_wiK {δ : DS} {g : DG} {RL : List DV → DG → Prop} (h : td δ g fun x g1 => ∃ ks ds, x = .dK ks ds ∧ RL (pairsK ks ds) g1) : wItemsK td δ g RL := h
theorem pairsK_int (f : Int → Int) : ∀ ks : List Int, pairsK (ks.map Sum.inl) ((ks.map f).map DV.int) = ks.map fun k => .tup [.int k, .int (f k)]
  | [] => rfl
  | k :: ks => by
    show DV.tup [keyD (Sum.inl k), .int (f k)] :: pairsK (ks.map Sum.inl) ((ks.map f).map DV.int) = _
    rw [pairsK_int f ks]
    rfl
end
/-! ### == and != -/
section
variable {X : Cx} {K : Fg} {pins : List (Addr × Obj)} {σ : L2.St} {H : Hp} {s : Shared}
/-- == of two dicts with ints as values -/
def kEqB (ks : List Key) (ns : List Int) (ls : List Key) (ms : List Int) : Bool := ks.length == ls.length && (ks.zip ns).all fun p => lookI ls ms p.1 == some p.2
theorem dk_hits {A : Around} {kb : List (Key × V)} {vb : List (Key × Value)} {ms : List Int} (eb : kb.map (·.2) = ms.map V.int) (rb : KV kb vb) {ka : List (Key × V)} {va : List (Key × Value)} (ra : KV ka va) :
    ∀ {ns : List Int}, ka.map (·.2) = ns.map V.int → PySem.W.KeqHits A s vb va (((ka.map (·.1)).zip ns).all fun p => lookI (kb.map (·.1)) ms p.1 == some p.2) := by
  unfold KV at ra
  induction ra with
  | nil =>
    intro ns ea
    cases ns with
    | nil => exact .nil
    | cons n ns => cases ea
  | @cons p q pr qr hq t ih =>
    intro ns ea
    cases ns with
    | nil => cases ea
    | cons n ns =>
      rw [List.map_cons, List.map_cons] at ea
      obtain ⟨e1, e2⟩ := List.cons.inj ea
      have ih := ih e2
      obtain ⟨q1, q2⟩ := q
      obtain ⟨h1, h2⟩ := hq
      dsimp only at h1 h2
      rw [List.map_cons, List.zip_cons_cons, List.all_cons]
      have h3 := rb.val q1
      rw [lookI_val eb] at h3
      dsimp only
      rw [h1]
      rw [e1] at h2
      obtain ⟨t1, e3⟩ := h2
      subst e3
      cases e4 : lookI (kb.map (·.1)) ms q1 with
      | none =>
        rw [e4] at h3
        have e5 : valueAt vb q1 = none := RelO.none_of h3
        exact .miss e5
      | some m =>
        rw [e4] at h3
        obtain ⟨v3, e5, h4⟩ := RelO.some_of (show RelO (some (V.int m)) (valueAt vb q1) from h3)
        obtain ⟨t2, e6⟩ := h4
        subst e6
        have e7 : (some m == some n) = (n == m) := by
          rw [Bool.eq_iff_iff]
          simp only [beq_iff_eq, Option.some.injEq]
          exact ⟨fun z => z.symm, fun z => z.symm⟩
        rw [e7]
        exact .hit e5 (SeqAt.EqAt.int_int n t1 m t2) ih
theorem rdK_at {ks : List Key} {ns : List Int} {v : V} (h : RD K H (.dK ks (ns.map DV.int)) v) : ∃ a o kvs, v = .ref a ∧ H a = some (.frz o (.dK kvs)) ∧ kvs.map (·.1) = ks ∧ kvs.map (·.2) = ns.map V.int := by
  cases h with
  | dK h1 r1 =>
    obtain ⟨o, kvs, h1, e1, e2⟩ := h1
    rw [r1.ints] at e2
    exact ⟨_, o, kvs, rfl, h1, e1, e2⟩
def rEqK (K : Fg) (neg : Bool) : R2 := fun x y H Q => ∃ ks ls ns ms, RD K H (.dK ks (ns.map DV.int)) x ∧ RD K H (.dK ls (ms.map DV.int)) y ∧ Q (.bl (if neg then !kEqB ks ns ls ms else kEqB ks ns ls ms)) H
theorem op_eqK (hu : X.A.units + 65 < cLine) : OpR X (compareOp .Eq) (rEqK X.K false) := by
  intro pins s σ H x y v u Q I rx ry ⟨ks, ls, ns, ms, h1, h2, hq⟩
  obtain ⟨a, o, ka, rfl, ha, e1, e2⟩ := rdK_at h1
  obtain ⟨b, o2, kb, rfl, hb, e3, e4⟩ := rdK_at h2
  cases (show v = Value.ref a from rx)
  cases (show u = Value.ref b from ry)
  obtain ⟨z1, y1, xa, ra, da⟩ := dk_rd I.hok (.inr ⟨o, ha⟩)
  obtain ⟨z2, y2, xb, rb, db⟩ := dk_rd I.hok (.inr ⟨o2, hb⟩)
  refine PySem.W.keq_eq y1 y2 da db (by omega) (fun _ => dk_hits e4 rb ra e2) ⟨.bl _, H, I, rfl, ?_⟩
  have l1 : ka.length = xa.length := Paired.length ra
  have l2 : kb.length = xb.length := Paired.length rb
  rw [← l1, ← l2, e1, e3]
  have l3 : ka.length = ks.length := by rw [← e1, List.length_map]
  have l4 : kb.length = ls.length := by rw [← e3, List.length_map]
  rw [l3, l4]
  exact hq
def rrEqK (neg : Bool) : RR2 := fun x y _ P => ∃ ks ls ns ms, x = .dK ks (ns.map DV.int) ∧ y = .dK ls (ms.map DV.int) ∧ P (.bl (if neg then !kEqB ks ns ls ms else kEqB ks ns ls ms))
theorem ref_eqK {K : Fg} {neg : Bool} : RefCmp K (rrEqK neg) (rEqK K neg) := by
  intro x y P v u H g Q rg rx ry k ⟨ks, ls, ns, ms, ex, ey, hp⟩
  subst ex ey
  exact ⟨ks, ls, ns, ms, rx, ry, k _ hp⟩
end
/-! ### max of a list of tuples of ints -/
def maxL (k : List Int) (r : List (List Int)) : List Int := r.foldl (fun a y => if a < y then y else a) k
theorem maxD_tuI : ∀ (r : List (List Int)) (k : List Int), W.maxD (tuI k).py (r.map fun x => (tuI x).py) = (tuI (maxL k r)).py
  | [], k => rfl
  | y :: r, k => by
    show W.maxD (if W.dataLt (tuI k).py (tuI y).py then (tuI y).py else (tuI k).py) (r.map _) = _
    rw [lt_tuI]
    have e : (if decide (k < y) = true then (tuI y).py else (tuI k).py) = (tuI (if k < y then y else k)).py := by
      by_cases c : k < y
      · rw [if_pos (decide_eq_true c), if_pos c]
      · rw [if_neg (by simpa using c), if_neg c]
    rw [e, maxD_tuI r]
    rfl
section
variable {X : Cx} {K : Fg}
def rMaxT (K : Fg) : List V → Hp → VK → Prop := fun vs H Q => ∃ (a : Addr) (L : List (List Int × V)), vs = [V.ref a] ∧ SqL K H a (L.map Prod.snd) ∧ (∀ p ∈ L, RD K H (tuI p.1) p.2) ∧ ∃ k r, L.map Prod.fst = k :: r ∧ ∀ v, RD K H (tuI (maxL k r)) v → Q v H
theorem cr_maxT (hc : X.calm = true) (hr : X.A.units + 64 < cLine) : CallR X (.builtin "max") (rMaxT X.K) := by
  intro pins s σ H vs us Q I r h
  obtain ⟨a, L, rfl, hq, hrd, k0, r0, hL, q⟩ := h
  rw [Vals.ref1 r]
  obtain ⟨its, rv, pl, hz⟩ := I.list hq
  have hlen : its.length = L.length := by rw [← rv.length, List.length_map]
  have each : W.EachIs (fun (u : Value) (b : List Int × V) => ∃ as, Reads s.heap u (tuI b.1).py as) its L := by
    have key : ∀ {L : List (List Int × V)} {its : List Value}, (∀ p ∈ L, RD X.K H (tuI p.1) p.2) → Vals (L.map Prod.snd) its → W.EachIs (fun (u : Value) (b : List Int × V) => ∃ as, Reads s.heap u (tuI b.1).py as) its L := by
      intro L
      induction L with
      | nil => intro its _ r; cases r; exact .nil
      | cons b L ih =>
        intro its hr2 r
        cases r with
        | cons r1 r2 => exact .cons (Dp.reads I _ _ _ ((hr2 b List.mem_cons_self).dp (show plAll (b.1.map DV.int) = true from pl_tI b.1)) r1) (ih (fun p hp => hr2 p (List.mem_cons_of_mem _ hp)) r2)
    exact key hrd rv
  obtain ⟨as, ra⟩ := W.each_readsAll (fun b : List Int × V => (tuI b.1).py) each
  have e1 : L.map (fun b : List Int × V => (tuI b.1).py) = (tuI k0).py :: r0.map fun x => (tuI x).py := by
    have : L.map (fun b : List Int × V => (tuI b.1).py) = (L.map Prod.fst).map fun x => (tuI x).py := by rw [List.map_map]; rfl
    rw [this, hL, List.map_cons]
  rw [e1] at ra
  refine W.max_list_data (vs := its.toArray) (I.ok.hd hc) (show s.heap.IsList a its.toArray from pl.isList) ra (alikeAll_tuI (k0 :: r0)) (by have := depthAll_tuI (k0 :: r0); rw [List.map_cons] at this; omega) (fun i v h' tk bs hi rd k => ?_)
  rw [maxD_tuI] at rd
  have hi2 : its[i]? = some v := by simpa using hi
  have hil := (List.getElem?_eq_some_iff.mp hi2).1
  have hli : L[i]? = some L[i] := List.getElem?_eq_getElem (by omega)
  obtain ⟨u, hu, ru⟩ := rv.get (show (L.map Prod.snd)[i]? = some L[i].2 by rw [List.getElem?_map, hli]; rfl)
  rw [hi2] at hu
  cases hu
  have hrdi := hrd _ (List.getElem_mem (show i < L.length by omega))
  have I3 : Inv X pins σ H { s with heap := h', toks := tk } := I.kept k
  obtain ⟨as2, rd2⟩ := Dp.reads I3 _ _ _ (hrdi.dp (show plAll (L[i].1.map DV.int) = true from pl_tI L[i].1)) ru
  have eu := (rd.unique _ _ rd2).1
  rw [py_tuI, py_tuI] at eu
  have eq : maxL k0 r0 = L[i].1 := by
    injection eu with eu
    exact (List.map_inj_right (f := PyData.int) (fun a b h => by injection h)).mp eu
  exact ⟨L[i].2, H, I3, ru, q _ (by rw [eq]; exact hrdi)⟩
def rrMaxT : RRs := rr1 fun x g P => ∃ k r, lstD g x = some ((k :: r).map tuI) ∧ P (tuI (maxL k r))
theorem ref_maxT : RefCall K rrMaxT (rMaxT K) := by
  intro xs P vs H g Q rg r k h
  obtain ⟨x, v, rfl, rfl, rx, k0, r0, el, hp⟩ := rr1_of r h
  obtain ⟨a, us, rfl, hq, hr2, _⟩ := lstD_of rg rx el
  have zip : ∀ {ks : List (List Int)} {us : List V}, RDs K H (ks.map tuI) us → ∃ L : List (List Int × V), L.map Prod.fst = ks ∧ L.map Prod.snd = us ∧ ∀ p ∈ L, RD K H (tuI p.1) p.2 := by
    intro ks
    induction ks with
    | nil => intro us h; cases h; exact ⟨[], rfl, rfl, fun p hp => by cases hp⟩
    | cons x ks ih =>
      intro us h
      cases h with
      | cons r t =>
        obtain ⟨L, q1, q2, q3⟩ := ih t
        refine ⟨(x, _) :: L, by rw [List.map_cons, q1], by rw [List.map_cons, q2], fun p hp => ?_⟩
        rcases List.mem_cons.mp hp with z | z
        · rw [z]; exact r
        · exact q3 p z
  obtain ⟨L, q1, q2, q3⟩ := zip hr2
  exact ⟨a, L, rfl, by rw [q2]; exact hq, q3, k0, r0, q1, fun v rd => .inl (k _ _ _ Ext.refl rg rd hp)⟩
theorem rd_maxT {x : DV} {g : DG} {P : DV → Prop} {k : List Int} {r : List (List Int)} (e : lstD g x = some ((k :: r).map tuI)) (h : P (tuI (maxL k r))) : rrMaxT [x] g P := ⟨k, r, e, h⟩
end
end DL

/-! Deep layer MD: max(d, default=x) of a dict with int keys; math.factorial. -/
namespace DL
open PySem PySem.Spec PyProof.Rows L2 Builtin
section
theorem argBest_max (kf : Nat → Int) : ∀ k, argBest (fun i j => decide (kf j < kf i)) k ≤ k ∧ ∀ i ≤ k, kf i ≤ kf (argBest (fun i j => decide (kf j < kf i)) k)
  | 0 => ⟨Nat.le_refl _, fun i hi => by rw [show i = 0 by omega]; exact Int.le_refl _⟩
  | k + 1 => by
    obtain ⟨h1, h2⟩ := argBest_max kf k
    by_cases hb : decide (kf (argBest (fun i j => decide (kf j < kf i)) k) < kf (k + 1)) = true
    · have ea : argBest (fun i j => decide (kf j < kf i)) (k + 1) = k + 1 := if_pos hb
      rw [ea]
      refine ⟨Nat.le_refl _, fun i hi => ?_⟩
      have h3 := of_decide_eq_true hb
      by_cases c : i = k + 1
      · rw [c]; exact Int.le_refl _
      · have := h2 i (by omega); omega
    · have ea : argBest (fun i j => decide (kf j < kf i)) (k + 1) = argBest (fun i j => decide (kf j < kf i)) k := if_neg hb
      rw [ea]
      refine ⟨by omega, fun i hi => ?_⟩
      by_cases c : i = k + 1
      · rw [c]
        have h3 : ¬ (kf (argBest (fun i j => decide (kf j < kf i)) k) < kf (k + 1)) := fun z => hb (decide_eq_true z)
        omega
      · exact h2 i (by omega)
variable {X : Cx} {K : Fg} {pins : List (Addr × Obj)} {σ : L2.St} {H : Hp} {s : Shared}
def tMaxDI (K : Fg) (te td : TE) : TE := fun σ H Q => te σ H fun x H1 => td σ H1 fun z H2 => ∃ (a : Addr) (kvs : List (Key × V)) (ns : List Int), x = .ref a ∧ Rd H2 a (.dK kvs) ∧ kvs.map (·.1) = ns.map (Sum.inl : Int → Key) ∧ (ns = [] → Q z H2) ∧ ∀ m, m ∈ ns → (∀ y, y ∈ ns → y ≤ m) → Q (.int m) H2
theorem pe_maxDI {e d : Expr} {te td : TE} {p kpos pos : Pos} (hm : X.mg "max" = none) (hr : X.A.units + 64 < cLine) (calm : X.calm = true) (he : PE X e te) (hd : PE X d td)
    (hg : Gl X "max" := by rfl) (hs : starEach [e] X.env = (false, eval e X.env) :: starEach [] X.env := by rfl) (hb : backTo pos (starEach [e] X.env) = (false, eval e X.env) :: backTo pos (starEach [] X.env) := by rfl) (hpl : (backTo pos (starEach [e] X.env)).any (·.1) = false := by rfl)
    (hall : (backToKw pos (keywordEach [⟨some "default", d, kpos⟩] X.env)).all (·.1.isSome) = true := by rfl) (hnone : (backToKw pos (keywordEach [⟨some "default", d, kpos⟩] X.env)).any (·.1.isNone) = false := by rfl)
    (hks : (backToKw pos (keywordEach [⟨some "default", d, kpos⟩] X.env)).filterMap (·.1) = [Str.ofString "default"] := by rfl)
    (htr : (backToKw pos (keywordEach [⟨some "default", d, kpos⟩] X.env)).map (·.2) = [do let v ← eval d X.env; standAt pos; pure v] := by rfl) : PE X (.Call (.Name "max" p) [e] [⟨some "default", d, kpos⟩] pos) (tMaxDI X.K te td) := by
  refine ⟨fun pins s σ H Q I h => ?_⟩
  refine wpAny_Call_Name_kw (ld_blt I hg hm (show bootBuiltins "max" = some (.builtin "max") by decide +kernel) ?_)
  let R : V → Hp → Prop := fun x H1 => td σ H1 fun z H2 => ∃ (a : Addr) (kvs : List (Key × V)) (ns : List Int), x = .ref a ∧ Rd H2 a (.dK kvs) ∧ kvs.map (·.1) = ns.map (Sum.inl : Int → Key) ∧ (ns = [] → Q z H2) ∧ ∀ m, m ∈ ns → (∀ y, y ∈ ns → y ≤ m) → Q (.int m) H2
  have h' : tCons te tNil σ H (fun vs H1 => match vs with | [x] => R x H1 | _ => False) := h
  refine PyProof.Rows.callWith_kw (thn ((pa_cons he pa_nil hs).run pos pins s σ H _ I h') fun us s1 ⟨vs, H1, I1, r1, w⟩ => ?_) hb hpl hall hnone
  match vs, w with
  | [x], w =>
    rw [htr]
    refine wpAny_evalAll_cons (wpAny_bind (thn (hd.run pins s1 σ H1 _ I1 w) fun dv s2 ⟨z, H2, I2, rz, a, kvs, ns, ex, hq, hk, q0, q1⟩ => wpAny_bind (wpAny_standAt (wpAny_pure (wpAny_evalAll_nil ?_)))))
    subst ex
    obtain rfl := Vals.ref1 r1
    rw [hks]
    obtain ⟨hz, lo, vs, rel, dd⟩ := dk_rd I2.hok hq
    obtain ⟨ep, hat⟩ := dd.dictAt
    have hkeys : vs.map (·.1) = ns.map (Sum.inl : Int → Key) := rel.keys.symm.trans hk
    have hl : vs.length = ns.length := by
      have e := congrArg List.length hkeys
      simpa using e
    have hne : a ≠ s2.heap.objs.size := Nat.ne_of_lt hat.lt_size
    have hint : ∀ i v, (∃ k x, vs[i]? = some (k, x) ∧ (mixKind X.prog X.w).is k v = true) → i < ns.length ∧ ∃ t, v = .int (ns.getD i 0) t := fun i v ⟨k, x, e1, e2⟩ => by
      have e3 : (vs.map (·.1))[i]? = some k := by rw [List.getElem?_map, e1]; all_goals rfl
      rw [hkeys, List.getElem?_map] at e3
      cases e4 : ns[i]? with
      | none => rw [e4] at e3; cases e3
      | some y =>
        rw [e4] at e3
        have e5 : Sum.inl y = k := Option.some.inj e3
        subst e5
        obtain ⟨t, ev⟩ := Value.isInt_shape (k := y) (v := v) e2
        exact ⟨(List.getElem?_eq_some_iff.mp e4).1, t, by rw [List.getD_eq_getElem?_getD, e4]; exact ev⟩
    have J2 : Inv X pins σ H2 s2 := I2
    refine PySem.call_max_walkD (wpAny_pyIter_dict (knd := mixKind X.prog X.w) lo hat ?_)
    refine ⟨_, _, _, _, _, _, _, s2.heap, (fun i j => decide (ns.getD j 0 < ns.getD i 0)), rfl, (Walks.dictKeys (knd := mixKind X.prog X.w) (show X.A.in1.handled = none from I2.ok.hd calm) s2.heap.objs.size a hne vs ep).toS,
      ⟨⟨_, Heap.get?_push_size _ rfl, rfl, rfl⟩, hat.push _⟩, fun b hb => ?_, fun b o e hb => ?_, fun b o e => Heap.get?_push_of_some _ e, fun hz' s' m => ?_, fun hp => ⟨fun i j vi vj s' Q' E' _ hi hj hq' => ?_, fun v s' hP m => ?_⟩⟩
    · show b < (s2.heap.push _).objs.size
      rw [Heap.size_push]
      have := hat.lt_size
      rcases List.mem_cons.mp hb with rfl | hb
      · exact Nat.lt_succ_self _
      · rcases List.mem_cons.mp hb with rfl | hb
        · exact Nat.lt_succ_of_lt this
        · cases hb
    · exact absurd (Heap.lt_size e) ((List.mem_singleton.mp hb) ▸ Nat.lt_irrefl _)
    · obtain ⟨h', tk, rfl, hk'⟩ := PySem.W.moved_old rfl rfl m
      exact ⟨z, H2, J2.kept hk', rz, q0 (List.eq_nil_of_length_eq_zero (by omega))⟩
    · obtain ⟨_, t1, rfl⟩ := hint i vi hi
      obtain ⟨_, t2, rfl⟩ := hint j vj hj
      exact CmpOf.ints_gt (prog := X.prog) (w := X.w) (P := fun i v => ∃ t, v = .int (ns.getD i 0) t) (fun i => ns.getD i 0) (fun i v h => h) i j _ _ _ _ _ ⟨t1, rfl⟩ ⟨t2, rfl⟩ hq'
    · obtain ⟨h', tk, rfl, hk'⟩ := PySem.W.moved_old rfl rfl m
      obtain ⟨hi, t, rfl⟩ := hint _ v hP
      have hm := argBest_max (fun i => ns.getD i 0) (vs.length - 1)
      refine ⟨.int _, H2, J2.kept hk', ⟨_, rfl⟩, q1 _ ?_ fun y hy => ?_⟩
      · rw [List.getD_eq_getElem?_getD, List.getElem?_eq_getElem hi]
        exact List.getElem_mem hi
      · obtain ⟨j, hj, e⟩ := List.mem_iff_getElem.mp hy
        have := hm.2 j (by omega)
        rw [List.getD_eq_getElem?_getD (i := j), List.getElem?_eq_getElem hj] at this
        rw [← e]
        exact this
def dMaxDI (te td : TDE) : TDE := fun δ g Q => te δ g fun x g1 => td δ g1 fun z g2 => ∃ (ks : List Key) (ds : List DV) (ns : List Int) (zi : Int), dctK g2 x = some (ks, ds) ∧ ks = ns.map (Sum.inl : Int → Key) ∧ z = .int zi ∧ ∀ m, (∀ y ∈ ns, y ≤ m) → (m ∈ ns ∨ m = zi) → Q (.int m) g2
theorem pd_maxDI {e d : Expr} {te td : TDE} {p kpos pos : Pos} (hm : X.mg "max" = none) (hr : X.A.units + 64 < cLine) (calm : X.calm = true) (he : PE X e (upE X.K te)) (hd : PE X d (upE X.K td))
    (hg : Gl X "max" := by rfl) (hs : starEach [e] X.env = (false, eval e X.env) :: starEach [] X.env := by rfl) (hb : backTo pos (starEach [e] X.env) = (false, eval e X.env) :: backTo pos (starEach [] X.env) := by rfl) (hpl : (backTo pos (starEach [e] X.env)).any (·.1) = false := by rfl)
    (hall : (backToKw pos (keywordEach [⟨some "default", d, kpos⟩] X.env)).all (·.1.isSome) = true := by rfl) (hnone : (backToKw pos (keywordEach [⟨some "default", d, kpos⟩] X.env)).any (·.1.isNone) = false := by rfl)
    (hks : (backToKw pos (keywordEach [⟨some "default", d, kpos⟩] X.env)).filterMap (·.1) = [Str.ofString "default"] := by rfl)
    (htr : (backToKw pos (keywordEach [⟨some "default", d, kpos⟩] X.env)).map (·.2) = [do let v ← eval d X.env; standAt pos; pure v] := by rfl) : PE X (.Call (.Name "max" p) [e] [⟨some "default", d, kpos⟩] pos) (upE X.K (dMaxDI te td)) := by
  refine PE_weak (pe_maxDI hm hr calm he hd hg hs hb hpl hall hnone hks htr) fun σ H Q ⟨δ, g, P, rs, rg, h, k⟩ => ⟨δ, g, _, rs, rg, h, fun x g1 v H1 e1 rg1 rx h1 => ⟨δ, g1, _, rs.mono (e1.kp rg), rg1, h1, fun z g2 u H2 e2 rg2 rz ⟨ks, ds, ns, zi, el, ek, ez, q1⟩ => ?_⟩⟩
  obtain ⟨a, kvs, rfl, hq, ek2, _⟩ := dctK_of rg2 (rx.mono (e2.kp rg1)) el
  subst ez
  exact ⟨a, kvs, ns, rfl, hq, ek2.trans ek, fun e => k _ _ _ _ (e1.trans e2) rg2 rz (q1 zi (fun y hy => by rw [e] at hy; cases hy) (.inr rfl)), fun m m1 m2 => k _ _ _ _ (e1.trans e2) rg2 (.int m) (q1 m m2 (.inl m1))⟩
theorem rd_maxDI {te td : TDE} {δ : DS} {g : DG} {Q : DV → DG → Prop} (h : te δ g fun x g1 => td δ g1 fun z g2 => ∃ (ks : List Key) (ds : List DV) (ns : List Int) (zi : Int), dctK g2 x = some (ks, ds) ∧ ks = ns.map (Sum.inl : Int → Key) ∧ z = .int zi ∧ ∀ m, (∀ y ∈ ns, y ≤ m) → (m ∈ ns ∨ m = zi) → Q (.int m) g2) : dMaxDI te td δ g Q := h
/-! ### list(d) -/
def rListDK : List V → Hp → VK → Prop := fun xs H Q => ∃ (a : Addr) (kvs : List (Key × V)), xs = [V.ref a] ∧ Rd H a (.dK kvs) ∧ ∀ p, H p = none → Q (.ref p) (upd H p (.lst (kvs.map fun kv => kV kv.1)))
theorem cr_listK (hc : X.calm = true) : CallR X (.type "list") rListDK := L2.call_listD hc
theorem keyDs_rd {H : Hp} : ∀ ks : List Key, RDs K H (ks.map keyD) (ks.map kV)
  | [] => .nil
  | k :: ks => .cons (keyD_rd k) (keyDs_rd ks)
def rrListK : RRs := rr1 fun x g P => ∃ ks ds, dctK g x = some (ks, ds) ∧ P (.lst (ks.map keyD))
theorem ref_listK : RefCall K rrListK rListDK := by
  intro xs P vs H g Q rg r k h
  obtain ⟨x, v, rfl, rfl, rx, ks, ds, e, h⟩ := rr1_of r h
  obtain ⟨a, kvs, rfl, hd, ek, _⟩ := dctK_of rg rx e
  refine ⟨a, kvs, rfl, hd, fun p hp => fz_lift rg k (ds := ks.map keyD) ?_ h p hp⟩
  have := keyDs_rd (K := K) (H := H) ks
  rw [← ek, List.map_map] at this ⊢
  rw [List.map_map] at this
  exact this
theorem rd_listK {x : DV} {g : DG} {P : DV → Prop} {ks : List Key} {ds : List DV} (e : dctK g x = some (ks, ds)) (h : P (.lst (ks.map keyD))) : rrListK [x] g P := ⟨ks, ds, e, h⟩
/-! ### math.factorial -/
theorem cr_factorial : CallR X (.builtin "math.factorial") (fun vs H Q => ∃ a : Int, vs = [.int a] ∧ (0 ≤ a ∧ a ≤ 20000) ∧ Q (.int ((Builtin.Math.factorialNat a.toNat : Nat) : Int)) H) := by
  intro pinz s σ H vs us Q J r h
  obtain ⟨a, rfl, c, q⟩ := h
  obtain ⟨u, rfl, t, rfl⟩ := vals1 r
  exact PySem.W.mc_factorial c.1 c.2 fun _ => ⟨.int _, H, J.tok _, ⟨_, rfl⟩, q⟩
def rrFact : RRs := rr1 fun x g P => match x with | .int a => (0 ≤ a ∧ a ≤ 20000) ∧ P (.int ((Builtin.Math.factorialNat a.toNat : Nat) : Int)) | _ => False
theorem ref_factorial {K : Fg} : RefCall K rrFact (fun vs H Q => ∃ a : Int, vs = [.int a] ∧ (0 ≤ a ∧ a ≤ 20000) ∧ Q (.int ((Builtin.Math.factorialNat a.toNat : Nat) : Int)) H) := by
  intro xs P vs H g Q rg r k h
  obtain ⟨x, v, rfl, rfl, rx, h⟩ := rr1_of r h
  split at h
  · cases rx
    exact ⟨_, rfl, h.1, .inl (k _ _ H Ext.refl rg (.int _) h.2)⟩
  · exact h.elim
theorem rd_fact {i : Int} {g : DG} {P : DV → Prop} (c : 0 ≤ i ∧ i ≤ 20000) (h : P (.int ((Builtin.Math.factorialNat i.toNat : Nat) : Int))) : rrFact [.int i] g P := ⟨c, h⟩
end
end DL

/-! k12: dicts with int keys as functions; what the readings need. -/
namespace DL
open PySem L2
/-- a dict with int keys ks whose values are those of f -/
abbrev fnO (ks : List Int) (f : KF) : DO := .dK (ks.map Sum.inl) ((ks.map f).map DV.int)
abbrev fnV (ks : List Int) (f : KF) : DV := .dK (ks.map Sum.inl) ((ks.map f).map DV.int)
theorem valD_fi (f : KF) (u : Int) : ∀ ns : List Int, valD (ns.map (Sum.inl : Int → Key)) ((ns.map f).map DV.int) (.inl u) = if u ∈ ns then some (.int (f u)) else none
  | [] => by rw [if_neg (List.not_mem_nil)]; rfl
  | n :: ns => by
    show valD (Sum.inl n :: ns.map Sum.inl) (DV.int (f n) :: (ns.map f).map DV.int) (Sum.inl u) = _
    unfold valD
    by_cases c : n = u
    · subst c
      rw [if_pos rfl, if_pos List.mem_cons_self]
    · rw [if_neg (fun z => c (Sum.inl.inj z)), valD_fi f u ns]
      by_cases c2 : u ∈ ns
      · rw [if_pos c2, if_pos (List.mem_cons_of_mem _ c2)]
      · rw [if_neg c2, if_neg (fun z => (List.mem_cons.mp z).elim (fun y => c y.symm) c2)]
def putA (f : KF) (u w : Int) : KF := fun x => if x = u then w else f x
def insA (ns : List Int) (u : Int) : List Int := if u ∈ ns then ns else ns ++ [u]
theorem setD_fi (f : KF) (u w : Int) : ∀ ns : List Int, setD (ns.map (Sum.inl : Int → Key)) ((ns.map f).map DV.int) (.inl u) (.int w) = (ns.map (putA f u w)).map DV.int
  | [] => rfl
  | n :: ns => by
    show setD (Sum.inl n :: ns.map Sum.inl) (DV.int (f n) :: (ns.map f).map DV.int) (Sum.inl u) (.int w) = DV.int (putA f u w n) :: _
    unfold setD
    rw [setD_fi f u w ns]
    by_cases c : n = u
    · rw [if_pos (by rw [c])]
      unfold putA
      rw [if_pos c]
    · rw [if_neg (fun z => c (Sum.inl.inj z))]
      unfold putA
      rw [if_neg c]
theorem puts_fi (u : Int) (ns : List Int) : putKs (ns.map (Sum.inl : Int → Key)) (.inl u) = (insA ns u).map Sum.inl := by
  unfold putKs insA
  by_cases c : u ∈ ns
  · rw [if_pos (List.mem_map.mpr ⟨u, c, rfl⟩), if_pos c]
  · rw [if_neg (fun z => by obtain ⟨x, hx, e⟩ := List.mem_map.mp z; cases e; exact c hx), if_neg c, List.map_append]
    rfl
theorem put_fi (f : KF) (u w : Int) (ns : List Int) : putDs (ns.map (Sum.inl : Int → Key)) ((ns.map f).map DV.int) (.inl u) (.int w) = ((insA ns u).map (putA f u w)).map DV.int := by
  unfold putDs insA
  by_cases c : u ∈ ns
  · rw [if_pos (List.mem_map.mpr ⟨u, c, rfl⟩), if_pos c, setD_fi]
  · rw [if_neg (fun z => by obtain ⟨x, hx, e⟩ := List.mem_map.mp z; cases e; exact c hx), if_neg c, List.map_append, List.map_append]
    have e : ns.map f = ns.map (putA f u w) := List.map_congr_left fun x hx => by
      unfold putA
      rw [if_neg (fun z : x = u => c (by rw [← z]; exact hx))]
    rw [e]
    show _ = _ ++ [DV.int (putA f u w u)]
    unfold putA
    rw [if_pos rfl]
theorem insA_iff {ns : List Int} {u x : Int} : x ∈ insA ns u ↔ x ∈ ns ∨ x = u := by
  unfold insA
  split
  · rename_i c
    exact ⟨.inl, fun z => z.elim id fun z => z ▸ c⟩
  · rw [List.mem_append, List.mem_singleton]
theorem insA_nodup {ns : List Int} {u : Int} (h : ns.Nodup) : (insA ns u).Nodup := by
  unfold insA
  split
  · exact h
  · rename_i c
    exact List.nodup_append.mpr ⟨h, List.nodup_cons.mpr ⟨List.not_mem_nil, List.nodup_nil⟩, fun a ha b hb e => c (by rw [List.mem_singleton.mp hb] at e; exact e ▸ ha)⟩
theorem dctK_rk {g : DG} {p : Addr} {ks : List Key} {ds : List DV} (e : g p = some (.dK ks ds)) : dctK g (.ref p) = some (ks, ds) := by
  unfold dctK
  dsimp only
  rw [e]
theorem atD_rk {g : DG} {p : Addr} {ks : List Key} {ds : List DV} {i : Int} (e : g p = some (.dK ks ds)) : atD g (.ref p) (.int i) = some (valD ks ds (.inl i)) := by
  unfold atD dctT
  dsimp only
  rw [e]
  dsimp only
  rw [dctK_rk e]
  rfl
theorem isD_rk {g : DG} {p : Addr} {ks : List Key} {ds : List DV} (e : g p = some (.dK ks ds)) : isDct g (.ref p) = true := by
  unfold isDct dctT dctK
  dsimp only
  rw [e]
  rfl
theorem at_fi {g : DG} {p : Addr} {ks : List Int} {f : KF} {i : Int} (e : g p = some (fnO ks f)) : atD g (.ref p) (.int i) = some (if i ∈ ks then some (.int (f i)) else none) := by rw [atD_rk e, valD_fi]
theorem atV_fi {g : DG} {ks : List Int} {f : KF} {i : Int} : atD g (fnV ks f) (.int i) = some (if i ∈ ks then some (.int (f i)) else none) := by rw [← valD_fi]; rfl
theorem getD_fi {c : Prop} [Decidable c] {x y : Int} : ((if c then some (DV.int x) else none).getD (.int y)) = .int (if c then x else y) := by split <;> rfl
/-- d[k] = v by a reference -/
theorem dput_fi {g : DG} {p : Addr} {ks : List Int} {f : KF} {u w : Int} {R : DG → Prop} (e : g p = some (fnO ks f)) (c : ks.length < 16777216) (h : R (gup g p (fnO (insA ks u) (putA f u w)))) : dput (.ref p) (.int u) (.int w) g R := by
  have e1 : gup g p (fnO (insA ks u) (putA f u w)) = gup g p (.dK (putKs (ks.map (Sum.inl : Int → Key)) (.inl u)) (putDs (ks.map (Sum.inl : Int → Key)) ((ks.map f).map DV.int) (.inl u) (.int w))) := by rw [puts_fi, put_fi]
  rw [e1] at h
  unfold dput
  dsimp only
  rw [e]
  dsimp only
  refine ⟨?_, h⟩
  rw [List.length_map, List.length_map, sizeLine_eq]
  exact c
/-- the dict stands for f, its keys from 0 to S -/
structure RepK (ks : List Int) (f : KF) (S : Int) : Prop where
  nd : ks.Nodup
  bd : ∀ k ∈ ks, 0 ≤ k ∧ k ≤ S
  out : ∀ d, d ∉ ks → f d = 0
theorem RepK.up {ks : List Int} {f : KF} {S S' : Int} (h : RepK ks f S) (e : S ≤ S') : RepK ks f S' := ⟨h.nd, fun k hk => ⟨(h.bd k hk).1, Int.le_trans (h.bd k hk).2 e⟩, h.out⟩
theorem RepK.len {ks : List Int} {f : KF} {S : Int} (h : RepK ks f S) (h0 : 0 ≤ S) : ks.length ≤ (S + 1).toNat := by
  have h2 : (ks.map Int.toNat).Nodup := by
    refine List.Pairwise.map (S := Ne) Int.toNat (fun a b h => h) ?_
    refine h.nd.imp_of_mem ?_
    intro a b ha hb hne e
    have := (h.bd a ha).1
    have := (h.bd b hb).1
    omega
  have := nodup_len (L := List.range (S + 1).toNat) h2 fun m hm => by
    obtain ⟨k, hk, rfl⟩ := List.mem_map.mp hm
    have := h.bd k hk
    exact List.mem_range.mpr (by omega)
  rwa [List.length_map, List.length_range] at this
theorem RepK.val {ks : List Int} {f : KF} {S : Int} (h : RepK ks f S) (d : Int) : (if d ∈ ks then f d else 0) = f d := by
  split
  · rfl
  · rename_i c
    exact (h.out d c).symm
theorem RepK.one : RepK [0] kz 0 := ⟨by simp, fun k hk => by rw [List.mem_singleton.mp hk]; decide, fun d hd => if_neg fun e => hd (by rw [e]; exact List.mem_singleton.mpr rfl)⟩
theorem RepK.none {f : KF} (h : ∀ d, f d = 0) : RepK [] f 0 := ⟨List.nodup_nil, fun k hk => absurd hk (List.not_mem_nil), fun d _ => h d⟩
/-! ### what is added while a dict's items are walked -/
/-- f with the first pairs of (ks, h) put at e more, times c -/
def mrg (f : KF) (c e : Int) (h : KF) (ks : List Int) : KF := fun d => f d + if d - e ∈ ks then c * h (d - e) else 0
theorem mrg_nil (f : KF) (c e : Int) (h : KF) : mrg f c e h [] = f := by
  funext d
  unfold mrg
  rw [if_neg (List.not_mem_nil)]
  omega
theorem mrg_step {f : KF} {c e : Int} {h : KF} {ks : List Int} {k : Int} (hk : k ∉ ks) : putA (mrg f c e h ks) (k + e) (mrg f c e h ks (k + e) + c * h k) = mrg f c e h (ks ++ [k]) := by
  funext d
  unfold putA
  by_cases z : d = k + e
  · subst z
    rw [if_pos rfl]
    unfold mrg
    rw [show k + e - e = k by omega, if_neg hk, if_pos (List.mem_append_right _ (List.mem_singleton.mpr rfl))]
    omega
  · rw [if_neg z]
    unfold mrg
    by_cases m : d - e ∈ ks
    · rw [if_pos m, if_pos (List.mem_append_left _ m)]
    · rw [if_neg m, if_neg]
      intro y
      rcases List.mem_append.mp y with y | y
      · exact m y
      · have := List.mem_singleton.mp y
        omega
theorem mrg_all {f : KF} {c e : Int} {h : KF} {ks : List Int} {S : Int} (hr : RepK ks h S) (d : Int) : mrg f c e h ks d = f d + c * h (d - e) := by
  unfold mrg
  split
  · rfl
  · rename_i z
    rw [hr.out _ z, Int.mul_zero]
def insAs (ns : List Int) : List Int → List Int
  | [] => ns
  | k :: ks => insAs (insA ns k) ks
theorem insAs_snoc : ∀ (ks : List Int) (ns : List Int) (k : Int), insAs ns (ks ++ [k]) = insA (insAs ns ks) k
  | [], _, _ => rfl
  | x :: ks, ns, k => insAs_snoc ks (insA ns x) k
theorem insAs_iff : ∀ {ks ns : List Int} {x : Int}, x ∈ insAs ns ks ↔ x ∈ ns ∨ x ∈ ks
  | [], ns, x => by
    show x ∈ ns ↔ x ∈ ns ∨ x ∈ []
    simp
  | k :: ks, ns, x => by
    show x ∈ insAs (insA ns k) ks ↔ _
    rw [insAs_iff, insA_iff, List.mem_cons]
    constructor
    · rintro ((h | h) | h)
      · exact .inl h
      · exact .inr (.inl h)
      · exact .inr (.inr h)
    · rintro (h | h | h)
      · exact .inl (.inl h)
      · exact .inl (.inr h)
      · exact .inr h
theorem insAs_nodup : ∀ {ks ns : List Int}, ns.Nodup → (insAs ns ks).Nodup
  | [], _, h => h
  | k :: ks, ns, h => by
    show (insAs (insA ns k) ks).Nodup
    exact insAs_nodup (insA_nodup h)
/-- what is held after the walk -/
theorem RepK.merged {ks ls : List Int} {f h : KF} {S S' c e : Int} (hf : RepK ks f S) (hh : RepK ls h S') (e0 : 0 ≤ e) (hS : S' + e ≤ S) : RepK (insAs ks (ls.map (· + e))) (fun d => f d + c * h (d - e)) S := by
  refine ⟨insAs_nodup hf.nd, fun k hk => ?_, fun d hd => ?_⟩
  · rcases insAs_iff.mp hk with z | z
    · exact hf.bd k z
    · obtain ⟨l, hl, rfl⟩ := List.mem_map.mp z
      have := hh.bd l hl
      omega
  · have h1 : d ∉ ks := fun z => hd (insAs_iff.mpr (.inl z))
    have h2 : d - e ∉ ls := fun z => hd (insAs_iff.mpr (.inr (List.mem_map.mpr ⟨d - e, z, by omega⟩)))
    rw [hf.out d h1, hh.out _ h2]
    omega
/-! ### the clean dict: no number 0, keys in order -/
structure RepC (ks : List Int) (f : KF) (S : Int) : Prop where
  asc : ks.Pairwise (· < ·)
  mem : ∀ d, d ∈ ks ↔ f d ≠ 0
  bd : ∀ k ∈ ks, 0 ≤ k ∧ k ≤ S
theorem RepC.rep {ks : List Int} {f : KF} {S : Int} (h : RepC ks f S) : RepK ks f S := ⟨h.asc.imp fun z => by omega, h.bd, fun d hd => Classical.byContradiction fun z => hd ((h.mem d).mpr z)⟩
theorem RepC.uniq : ∀ {ks ls : List Int}, ks.Pairwise (· < ·) → ls.Pairwise (· < ·) → (∀ d, d ∈ ks ↔ d ∈ ls) → ks = ls
  | [], [], _, _, _ => rfl
  | [], l :: ls, _, _, h => absurd ((h l).mpr List.mem_cons_self) (List.not_mem_nil)
  | k :: ks, [], _, _, h => absurd ((h k).mp List.mem_cons_self) (List.not_mem_nil)
  | k :: ks, l :: ls, h1, h2, h => by
    have a := List.pairwise_cons.mp h1
    have b := List.pairwise_cons.mp h2
    have e : k = l := by
      rcases List.mem_cons.mp ((h k).mp List.mem_cons_self) with z | z
      · exact z
      · rcases List.mem_cons.mp ((h l).mpr List.mem_cons_self) with y | y
        · exact y.symm
        · have := b.1 k z
          have := a.1 l y
          omega
    subst e
    congr 1
    refine RepC.uniq a.2 b.2 fun d => ⟨fun z => ?_, fun z => ?_⟩
    · rcases List.mem_cons.mp ((h d).mp (List.mem_cons_of_mem _ z)) with y | y
      · have := a.1 d z; omega
      · exact y
    · rcases List.mem_cons.mp ((h d).mpr (List.mem_cons_of_mem _ z)) with y | y
      · have := b.1 d z; omega
      · exact y
/-- of any dict for f -/
theorem RepK.clean {ks ms : List Int} {f : KF} {S : Int} (h : RepK ks f S) (hp : ms.Perm ks) (hs : ms.Pairwise (· ≤ ·)) : RepC (ms.filter fun k => decide (f k ≠ 0)) f S := by
  have nd : ms.Nodup := hp.nodup_iff.mpr h.nd
  refine ⟨?_, fun d => ?_, fun k hk => h.bd k (hp.mem_iff.mp (List.mem_filter.mp hk).1)⟩
  · refine List.Pairwise.filter _ ?_
    have := List.pairwise_and_iff.mpr ⟨hs, nd⟩
    exact this.imp fun z => by have := z.1; have := z.2; omega
  · rw [List.mem_filter, decide_eq_true_eq]
    refine ⟨fun z => z.2, fun z => ⟨hp.mem_iff.mpr (Classical.byContradiction fun y => z (h.out d y)), z⟩⟩
/-! ### a clean dict by a comprehension -/
theorem dcK_i2 {tg : Tg} {own : List Nat} {tt : TDT} {tk tv : TDE} {δ : DS} {g : DG} {R : List Key → List DV → DG → Prop} (p : Int → Bool) (f : Int → Int) : ∀ (ns acc : List Int), (acc ++ ns).Nodup →
    (∀ n ∈ ns, ∃ δ2, bindT tg (.int n) (wipeD δ own) = some δ2 ∧ (∀ Q' : Bool → DG → Prop, Q' (p n) g → tt δ2 g Q') ∧ (p n = true → (∀ Q2 : DV → DG → Prop, Q2 (.int n) g → tk δ2 g Q2) ∧ (∀ Q2 : DV → DG → Prop, Q2 (.int (f n)) g → tv δ2 g Q2))) →
    R ((acc ++ ns.filter p).map Sum.inl) (((acc ++ ns.filter p).map f).map DV.int) g → dDcCK tg own tt tk tv δ (ns.map DV.int) (acc.map Sum.inl) ((acc.map f).map DV.int) g R
  | [], acc, _, _, h => by
    rw [List.filter_nil, List.append_nil] at h
    exact h
  | n :: r, acc, nd, hb, h => by
    obtain ⟨δ2, e, ht, hk⟩ := hb n List.mem_cons_self
    rw [List.map_cons]
    unfold dDcCK
    rw [e]
    dsimp only
    refine ht _ ?_
    cases c : p n with
    | false =>
      rw [if_neg Bool.false_ne_true]
      have nd2 : (acc ++ r).Nodup := nd.sublist (List.Sublist.append_left (List.sublist_cons_self n r) acc)
      refine dcK_i2 p f r acc nd2 (fun m hm => hb m (List.mem_cons_of_mem _ hm)) ?_
      rw [List.filter_cons, c, if_neg Bool.false_ne_true] at h
      exact h
    | true =>
      rw [if_pos rfl]
      obtain ⟨h1, h2⟩ := hk c
      refine h1 _ (h2 _ ?_)
      show dDcCK tg own tt tk tv δ (r.map DV.int) (putKs (acc.map Sum.inl) (Sum.inl n)) (putDs (acc.map Sum.inl) ((acc.map f).map DV.int) (Sum.inl n) (.int (f n))) g R
      have hn : n ∉ acc := fun z => (List.nodup_append.mp nd).2.2 n z n List.mem_cons_self rfl
      have e1 : insA acc n = acc ++ [n] := if_neg hn
      have e2 : (acc ++ [n]).map (putA f n (f n)) = (acc ++ [n]).map f := List.map_congr_left fun x _ => by
        unfold putA
        split
        · rename_i z; rw [z]
        · rfl
      rw [puts_fi, put_fi, e1, e2]
      have nd2 : (acc ++ [n] ++ r).Nodup := by rw [List.append_assoc]; exact nd
      refine dcK_i2 p f r (acc ++ [n]) nd2 (fun m hm => hb m (List.mem_cons_of_mem _ hm)) ?_
      rw [List.filter_cons, c, if_pos rfl] at h
      rw [List.append_assoc]
      exact h
/-! ### the letter most often used -/
theorem maxL_is : ∀ (r : List (List Int)) (k : List Int), maxL k r ∈ k :: r ∧ ∀ y ∈ k :: r, y ≤ maxL k r
  | [], k => ⟨List.mem_cons_self, fun y hy => by rw [List.mem_singleton.mp hy]; exact lt_irr k⟩
  | z :: r, k => by
    have e : maxL k (z :: r) = maxL (if k < z then z else k) r := rfl
    obtain ⟨h1, h2⟩ := maxL_is r (if k < z then z else k)
    rw [e]
    have h3 : k ≤ (if k < z then z else k) ∧ z ≤ (if k < z then z else k) ∧ ((if k < z then z else k) = k ∨ (if k < z then z else k) = z) := by
      by_cases c : k < z
      · rw [if_pos c]; exact ⟨fun q => lt_irr _ (List.lt_trans c q), lt_irr z, .inr rfl⟩
      · rw [if_neg c]; exact ⟨lt_irr k, c, .inl rfl⟩
    generalize (if k < z then z else k) = m at h1 h2 h3 ⊢
    have h0 := h2 m List.mem_cons_self
    refine ⟨?_, fun y hy => ?_⟩
    · rcases List.mem_cons.mp h1 with h | h
      · rw [h]
        rcases h3.2.2 with q | q
        · rw [q]; exact List.mem_cons_self
        · rw [q]; exact List.mem_cons_of_mem _ List.mem_cons_self
      · exact List.mem_cons_of_mem _ (List.mem_cons_of_mem _ h)
    · rcases List.mem_cons.mp hy with h | h
      · rw [h]; exact List.le_trans h3.1 h0
      · rcases List.mem_cons.mp h with h | h
        · rw [h]; exact List.le_trans h3.2.1 h0
        · exact h2 y (List.mem_cons_of_mem _ h)
def comL (M : List (List Int)) (i : Nat) : List Int := [(cnt M i : Int), -(i : Int)]
theorem most_is {M : List (List Int)} {n : Nat} {i : Nat} {r : List Nat} (h : List.range n = i :: r) : ∃ j < n, maxL (comL M i) (r.map (comL M)) = comL M j ∧ ∀ q < n, cnt M q ≤ cnt M j := by
  obtain ⟨h1, h2⟩ := maxL_is (r.map (comL M)) (comL M i)
  have e : comL M i :: r.map (comL M) = (List.range n).map (comL M) := by rw [h]; rfl
  rw [e] at h1 h2
  obtain ⟨j, hj, ej⟩ := List.mem_map.mp h1
  refine ⟨j, List.mem_range.mp hj, ej.symm, fun q hq => ?_⟩
  have h3 := h2 (comL M q) (List.mem_map_of_mem (List.mem_range.mpr hq))
  rw [← ej] at h3
  refine Nat.le_of_not_lt fun z => h3 ?_
  unfold comL
  exact List.Lex.rel (by omega)
/-! ### bounds of numbers -/
theorem kp_abs : ∀ (k : Nat) {M : List (List Int)}, M.length ≤ k → ∀ d, (kp M d).natAbs ≤ 2 ^ k
  | k, [], _, d => by
    rw [kp_nil]
    unfold kz
    have := Nat.one_le_two_pow (n := k)
    split <;> simp <;> omega
  | 0, _ :: _, h, _ => by simp at h
  | k + 1, m :: M, h, d => by
    have hl : M.length ≤ k := by simpa using h
    rw [kp_cons]
    have h1 := kp_abs k hl d
    have h2 := kp_abs k (M := lsl M m) (by unfold lsl; rw [List.length_map]; exact hl) (d - m.sum)
    rw [Nat.pow_succ]
    omega
theorem log2_of {x n : Nat} (h : x ≤ 2 ^ n) : x.log2 ≤ n := by
  by_cases z : x = 0
  · subst z; rw [Nat.log2_zero]; exact Nat.zero_le _
  · have : x < 2 ^ (n + 1) := Nat.lt_of_le_of_lt h (Nat.pow_lt_pow_right (by decide) (Nat.lt_succ_self n))
    have := (Nat.log2_lt z).mpr this
    omega
theorem mul_ok {x c : Int} {a b : Nat} (h1 : x.natAbs ≤ 2 ^ a) (h2 : c.natAbs ≤ 2 ^ b) (h : a + b < 1000000) : CMulW x c := by
  show x.natAbs.log2 + c.natAbs.log2 < 1000000
  have := log2_of h1
  have := log2_of h2
  omega
/-- so many products of degree d in n letters -/
def cn (n : Nat) (d : Int) : Int := PySem.W.mcComb (d + n - 1) (n - 1)
theorem cn_abs {n : Nat} {d : Int} (n1 : 1 ≤ n) (n8 : n ≤ 8) (d0 : 0 ≤ d) (dm : d ≤ 1000000) : (cn n d).natAbs ≤ 2 ^ 147 := by
  obtain ⟨j, rfl⟩ := Int.eq_ofNat_of_zero_le d0
  unfold cn
  rw [show ((j : Int) + n - 1) = ((j + n - 1 : Nat) : Int) by omega, show ((n : Int) - 1) = ((n - 1 : Nat) : Int) by omega, mcComb_ch (by omega), Int.natAbs_natCast]
  refine Nat.le_trans (ch_le (by omega) (n - 1)) (Nat.pow_le_pow_right (by decide) (by omega))
/-! ### what the comprehensions say -/
def pozD (i : Nat) : DV → Bool
  | .tup ds => match ds[i]? with | some (.int x) => decide (x > 0) | _ => false
  | _ => false
theorem pozD_at (i : Nat) (m : List Int) : pozD i (tI m) = decide (m.getD i 0 > 0) := by
  show (match (m.map DV.int)[i]? with | some (.int x) => decide (x > 0) | _ => false) = _
  rw [List.getElem?_map, List.getD_eq_getElem?_getD]
  cases m[i]? with
  | none => rfl
  | some x => rfl
theorem poz_filter (i : Nat) (M : List (List Int)) : (M.map tI).filter (pozD i) = (M.filter fun m => decide (0 < m.getD i 0)).map tI := by
  rw [List.filter_map]
  congr 1
  exact List.filter_congr fun m _ => pozD_at i m
theorem poz_cnt (i : Nat) (M : List (List Int)) : ((M.map tI).filter (pozD i)).length = cnt M i := by rw [poz_filter, List.length_map]; rfl
def exD (i : Nat) : DV → DV
  | .tup ds => ds.getD i .non
  | d => d
theorem exD_at {i : Nat} {m : List Int} (h : i < m.length) : exD i (tI m) = .int (m.getD i 0) := by
  show (m.map DV.int).getD i .non = _
  rw [List.getD_eq_getElem?_getD, List.getD_eq_getElem?_getD, List.getElem?_map, List.getElem?_eq_getElem h]
  rfl
theorem ex_map {n i : Nat} {B : Int} {M : List (List Int)} (hp : Prods n B M) (hi : i < n) : ((M.map tI).filter (pozD i)).map (exD i) = ((M.filter fun m => decide (0 < m.getD i 0)).map fun m => m.getD i 0).map DV.int := by
  rw [poz_filter, List.map_map, List.map_map]
  exact List.map_congr_left fun m hm => exD_at (by rw [(hp m (List.mem_filter.mp hm).1).1]; exact hi)
def cmlD (M : List (List Int)) : DV → DV
  | .int i => tuI (comL M i.toNat)
  | d => d
theorem cmlD_at (M : List (List Int)) (i : Nat) : cmlD M (.int (i : Int)) = .tup [.int (cnt M i : Int), .int (-(i : Int))] := rfl
theorem com_range (M : List (List Int)) (n : Nat) : (rangeD 0 n).map (cmlD M) = ((List.range n).map (comL M)).map tuI := by
  rw [List.map_map]
  refine List.ext_getElem (by rw [List.length_map, List.length_map, rangeD_len, List.length_range]) fun i h1 h2 => ?_
  rw [List.length_map, rangeD_len] at h1
  rw [List.getElem_map, List.getElem_map, List.getElem_range]
  obtain ⟨_, h4⟩ := rangeD_at (n := n) (j := i) (d := (rangeD 0 n)[i]'(by rw [rangeD_len]; exact h1)) (List.getElem?_eq_getElem _)
  rw [h4]
  rfl
theorem asc_sorted (L : List Int) : (L.mergeSort fun a b => decide (a ≤ b)).Pairwise (· ≤ ·) := by
  refine (List.pairwise_mergeSort (le := fun a b => decide (a ≤ b)) (fun a b c => by simp only [decide_eq_true_eq]; omega) (fun a b => by simp only [Bool.or_eq_true, decide_eq_true_eq]; omega) L).imp fun h => ?_
  simpa using h
theorem cut_fst (ds : List DV) (k : Nat) (h : k ≤ ds.length) : cutD ds none (some (k : Int)) = ds.take k := by
  unfold cutD
  rw [HT.sIx_nat, HT.sIx_none, Nat.min_eq_left h]
  rfl
theorem ap_drop {f : KF} {M : List (List Int)} {j : Nat} {m : List Int} (h : M[j]? = some m) (d : Int) : ap f (M.drop j) d = ap (fun d => f d - f (d - m.sum)) (M.drop (j + 1)) d := by
  obtain ⟨h1, h2⟩ := List.getElem?_eq_some_iff.mp h
  rw [List.drop_eq_getElem_cons h1, h2]
  rfl
theorem take_sum {M : List (List Int)} {j : Nat} {m : List Int} (h : M[j]? = some m) : ((M.take (j + 1)).map List.sum).sum = ((M.take j).map List.sum).sum + m.sum := by
  rw [List.take_succ, h, List.map_append, List.sum_append]
  show _ + (m.sum + 0) = _
  omega
theorem take_le {n : Nat} {M : List (List Int)} (h : Nnn n M) (j : Nat) : 0 ≤ ((M.take j).map List.sum).sum ∧ ((M.take j).map List.sum).sum ≤ (M.map List.sum).sum := by
  have key : ∀ L : List (List Int), Nnn n L → 0 ≤ (L.map List.sum).sum := by
    intro L hL
    refine sum_nonneg' fun x hx => ?_
    obtain ⟨m, hm, rfl⟩ := List.mem_map.mp hx
    exact sum_nonneg' (hL m hm).2
  refine ⟨key _ (h.sub fun m hm => List.mem_of_mem_take hm), ?_⟩
  conv => rhs; rw [← List.take_append_drop j M, List.map_append, List.sum_append]
  have := key (M.drop j) (h.sub fun m hm => List.mem_of_mem_drop hm)
  omega
theorem rd_fzK {n : Nat} {δ : DS} {g : DG} {E : DEnds} {t : TDS} {p : Addr} {ks : List Key} {ds : List DV} (e : nth δ n = some (.ref p)) (e2 : g p = some (.dK ks ds)) (h : t E (δ.set n (some (.dK ks ds))) (gdel g p)) : dFz n t E δ g := by
  unfold dFz
  rw [e]
  dsimp only
  rw [e2]
  exact ⟨trivial, h⟩
theorem gdel_two {g : DG} {p q : Addr} {o o' : DO} (h : p ≠ q) (hp : g p = none) : gdel (gup (gup g p o) q o') p = gup g q o' := by
  funext b
  unfold gdel gup
  by_cases c : b = p
  · rw [if_pos c, if_neg (fun z => h (c.symm.trans z)), c, hp]
  · rw [if_neg c, if_neg c]
theorem not_take {ks : List Int} (nd : ks.Nodup) {i : Nat} {x : Int} (h : ks[i]? = some x) : x ∉ ks.take i := by
  intro hx
  obtain ⟨j, hj, e⟩ := List.mem_iff_getElem.mp hx
  rw [List.getElem_take] at e
  rw [List.length_take] at hj
  obtain ⟨h1, h2⟩ := List.getElem?_eq_some_iff.mp h
  have := (List.pairwise_iff_getElem.mp nd) j i (by omega) h1 (by omega)
  exact this (e.trans h2.symm)
theorem insA_len (ns : List Int) (u : Int) : (insA ns u).length ≤ ns.length + 1 := by
  unfold insA
  split
  · omega
  · rw [List.length_append, List.length_singleton]; omega
theorem insAs_len : ∀ (ns ks : List Int), (insAs ns ks).length ≤ ns.length + ks.length
  | ns, [] => Nat.le_refl _
  | ns, k :: ks => by
    have h1 := insAs_len (insA ns k) ks
    have h2 := insA_len ns k
    show (insAs (insA ns k) ks).length ≤ _
    rw [List.length_cons]
    omega
/-- what d.get(k, 0) answers while the items are walked -/
theorem mrg_get {ks ls : List Int} {f h : KF} {S c e u : Int} (hf : RepK ks f S) : (if u ∈ insAs ks (ls.map (· + e)) then mrg f c e h ls u else 0) = mrg f c e h ls u := by
  split
  · rfl
  · rename_i z
    unfold mrg
    rw [hf.out u fun y => z (insAs_iff.mpr (.inl y)), if_neg fun y => z (insAs_iff.mpr (.inr (List.mem_map.mpr ⟨u - e, y, by omega⟩)))]
    rfl
theorem kp_all {n : Nat} : ∀ {M : List (List Int)}, Nnn n M → isAllB M = true → ∀ d, kp M d = 0
  | [], _, h => by cases h
  | [m], hn, h => fun d => kp_one hn List.mem_cons_self (fun y hy => of_decide_eq_true (List.all_eq_true.mp (show (m.all fun x => decide (x = 0)) = true from h) y hy)) d
  | _ :: _ :: _, _, h => by cases h
theorem some_above {M : List (List Int)} {j : Nat} {e : Int} (h : 2 ≤ (M.filter fun m => decide (e ≤ m.getD j 0)).length) : ∃ m ∈ M, e ≤ m.getD j 0 := by
  cases c : M.filter fun m => decide (e ≤ m.getD j 0) with
  | nil => rw [c] at h; simp at h
  | cons m r =>
    have : m ∈ M.filter fun m => decide (e ≤ m.getD j 0) := by rw [c]; exact List.mem_cons_self
    exact ⟨m, (List.mem_filter.mp this).1, of_decide_eq_true (List.mem_filter.mp this).2⟩
theorem e_le {n j : Nat} {B e : Int} {M : List (List Int)} {m : List Int} (hp : Prods n B M) (hm : m ∈ M) (hj : j < n) (h : e ≤ m.getD j 0) : e ≤ B := by
  have hl := (hp m hm).1
  rw [getD_at m (by omega)] at h
  have := ((hp m hm).2 m[j] (List.getElem_mem _)).2
  omega
def powD (j : Nat) (e : Int) : DV → DV
  | .int i => .int (if i.toNat = j then e else 0)
  | d => d
theorem powD_at (j : Nat) (e : Int) (i : Nat) : powD j e (.int (i : Int)) = .int (if i = j then e else 0) := rfl
theorem pw_range (n j : Nat) (e : Int) : (rangeD 0 n).map (powD j e) = (pw n j e).map DV.int := by
  unfold pw
  rw [List.map_map]
  refine List.ext_getElem (by rw [List.length_map, List.length_map, rangeD_len, List.length_range]) fun i h1 h2 => ?_
  rw [List.length_map, rangeD_len] at h1
  rw [List.getElem_map, List.getElem_map, List.getElem_range]
  obtain ⟨_, h4⟩ := rangeD_at (n := n) (j := i) (d := (rangeD 0 n)[i]'(by rw [rangeD_len]; exact h1)) (List.getElem?_eq_getElem _)
  rw [h4]
  rfl
def belD (j : Nat) (e : Int) : DV → Bool
  | .tup ds => match ds[j]? with | some (.int x) => decide (x < e) | _ => false
  | _ => false
theorem belD_at {j : Nat} {e : Int} {m : List Int} (h : j < m.length) : belD j e (tI m) = decide (m.getD j 0 < e) := by
  show (match (m.map DV.int)[j]? with | some (.int x) => decide (x < e) | _ => false) = _
  rw [List.getElem?_map, List.getD_eq_getElem?_getD, List.getElem?_eq_getElem h]
  rfl
theorem bel_map {n j : Nat} {B e : Int} {M : List (List Int)} (hp : Prods n B M) (hj : j < n) : ((M.map tI).filter (belD j e)).map (fun d => d) ++ [tI (pw n j e)] = (nextM n M j e).map tI := by
  unfold nextM below
  rw [List.map_append, List.map_id', List.filter_map]
  congr 2
  exact List.filter_congr fun m hm => belD_at (by rw [(hp m hm).1]; exact hj)
def lspD (p : List Int) : DV → DV
  | .tup ds => .tup ((zipD ds (p.map DV.int)).map lsD)
  | d => d
theorem lspD_at (p m : List Int) : lspD p (tI m) = tI (ls m p) := congrArg DV.tup (ls_zip m p)
theorem lsp_map (p : List Int) (M : List (List Int)) : (M.map tI).map (lspD p) = (lsl M p).map tI := by
  unfold lsl
  rw [List.map_map, List.map_map]
  exact List.map_congr_left fun m _ => lspD_at p m
theorem lsl_prods {n : Nat} {B : Int} {M : List (List Int)} {p : List Int} (h : Prods n B M) (hp : p.length = n) (p0 : ∀ y ∈ p, 0 ≤ y) (hB : 0 ≤ B) : Prods n B (lsl M p) := fun r hr => by
  obtain ⟨m, hm, rfl⟩ := List.mem_map.mp hr
  refine ⟨lsn_len (h m hm).1 hp, ?_⟩
  refine zw_all (R := fun z => 0 ≤ z ∧ z ≤ B) fun x hx y hy => ?_
  have := (h m hm).2 x hx
  have := p0 y hy
  omega
theorem next_prods {n j : Nat} {B e : Int} {M : List (List Int)} (h : Prods n B M) (he : 0 ≤ e) (hB : e ≤ B) : Prods n B (nextM n M j e) := fun r hr => by
  rcases List.mem_append.mp hr with z | z
  · exact h r (List.mem_filter.mp z).1
  · rw [List.mem_singleton.mp z]
    refine ⟨pwr_len _ _ _, fun x hx => ?_⟩
    obtain ⟨i, _, rfl⟩ := List.mem_map.mp hx
    split <;> omega
theorem leastL_le (L : List (List Int)) : (leastL L).length ≤ L.length := by
  unfold leastL
  rw [List.length_mergeSort]
  exact Nat.le_trans (List.length_filter_le _ _) (onceL_len L)
theorem gup_swap2 {g : DG} {p q : Addr} {a b c : DO} (h : q ≠ p) : gup (gup (gup g p a) q b) p c = gup (gup g p c) q b := by
  funext x
  unfold gup
  by_cases h1 : x = p
  · rw [if_pos h1, if_neg (fun z => h (z.symm.trans h1)), if_pos h1]
  · rw [if_neg h1, if_neg h1]
    by_cases h2 : x = q
    · rw [if_pos h2, if_pos h2]
    · rw [if_neg h2, if_neg h2, if_neg h1]
/-! ### the law's counts -/
def leD2 (D : Int) : DV → Bool
  | .tup [.int a, _] => decide (a ≤ D)
  | _ => false
def lfD (D : Int) : DV → DV
  | .tup [.int a, .int x] => .tup [.int x, .int (D - a)]
  | d => d
def lmD (n : Nat) : DV → DV
  | .tup [.int x, .int r] => .int (x * cn n r)
  | d => d
def itI (f : KF) (k : Int) : DV := .tup [.int k, .int (f k)]
theorem parts_map (f : KF) (D : Int) (ks : List Int) : ((ks.map (itI f)).filter (leD2 D)).map (lfD D) = (ks.filter fun k => decide (k ≤ D)).map fun k => DV.tup [.int (f k), .int (D - k)] := by
  rw [List.filter_map, List.map_map]
  rfl
theorem terms_map (n : Nat) (f : KF) (D : Int) (ls : List Int) : (ls.map fun k => DV.tup [.int (f k), .int (D - k)]).map (lmD n) = (ls.map fun k => f k * cn n (D - k)).map DV.int := by
  rw [List.map_map, List.map_map]
  rfl
theorem leastL_prods {n : Nat} {B : Int} {L : List (List Int)} (h : Prods n B L) : Prods n B (leastL L) := (leastL_is L).prods h
theorem box4 {n : Nat} {M : List (List Int)} (n8 : n ≤ 8) (hM : Prods n 4 M) : ∃ b : List Int, b.length = n ∧ (∀ y ∈ b, 0 ≤ y) ∧ Box b M ∧ b.sum ≤ 40 := by
  refine ⟨List.replicate n 4, List.length_replicate, fun y hy => by rw [(List.mem_replicate.mp hy).2]; decide, fun m hm => ?_, ?_⟩
  · have key : ∀ (k : Nat) (m : List Int), (∀ x ∈ m, x ≤ 4) → dvB m (List.replicate k 4) = true := by
      intro k
      induction k with
      | zero => intro m _; cases m <;> rfl
      | succ k ih =>
        intro m h
        cases m with
        | nil => rfl
        | cons x m =>
          rw [List.replicate_succ, dvB_cons, ih m fun y hy => h y (List.mem_cons_of_mem _ hy), decide_eq_true (h x List.mem_cons_self)]
          rfl
    exact key n m fun x hx => ((hM m hm).2 x hx).2
  · have key : ∀ k : Nat, (List.replicate k (4 : Int)).sum = 4 * k := by
      intro k
      induction k with
      | zero => rfl
      | succ k ih => rw [List.replicate_succ, List.sum_cons, ih]; omega
    rw [key n]
    omega
theorem gup_subK {g : DG} {q : Addr} {o : DO} (hq : g q = none) : Sub g (gup g q o) := fun a => by
  by_cases c : a = q
  · subst c; exact .inr hq
  · exact .inl (gup_ne c).symm
def cntD (n : Nat) (M : List (List Int)) : DV → DV
  | .int d => .int (lc (cn n) (kp M) d)
  | d => d
theorem cnt_range (n : Nat) (M : List (List Int)) (j : Nat) : (rangeD 0 j).map (cntD n M) = (List.range j).map fun (d : Nat) => DV.int (lc (cn n) (kp M) d) := by
  refine List.ext_getElem (by rw [List.length_map, List.length_map, rangeD_len, List.length_range]) fun i h1 h2 => ?_
  rw [List.length_map, rangeD_len] at h1
  rw [List.getElem_map, List.getElem_map, List.getElem_range]
  obtain ⟨_, h4⟩ := rangeD_at (n := j) (j := i) (d := (rangeD 0 j)[i]'(by rw [rangeD_len]; exact h1)) (List.getElem?_eq_getElem _)
  rw [h4]
  rfl
theorem keysK_int (ks : List Int) : (ks.map (Sum.inl : Int → Key)).map keyD = ks.map DV.int := by
  rw [List.map_map]
  rfl
def gt12D : DV → Bool
  | .tup [.int i, .int j] => decide (i > j)
  | _ => false
theorem ones_map (ds : List DV) : ((ds.filter gt12D).map fun _ => DV.int 1) = ((ds.filter gt12D).map fun _ => (1 : Int)).map DV.int := by
  rw [List.map_map]
  rfl
theorem ones_nil : ∀ {xs ys : List Int}, decide (((zipD (xs.map DV.int) (ys.map DV.int)).filter gt12D).map (fun _ => (1 : Int)) = []) = dvB xs ys := by
  intro xs ys
  rw [Bool.eq_iff_iff, decide_eq_true_eq, List.map_eq_nil_iff, List.filter_eq_nil_iff, zip_ints]
  unfold dvB
  rw [List.all_eq_true]
  constructor
  · intro h p hp
    have := h _ (List.mem_map_of_mem hp)
    rw [decide_eq_true_eq]
    have h2 : ¬ (decide (p.1 > p.2) = true) := this
    rw [decide_eq_true_eq] at h2
    omega
  · intro h d hd
    obtain ⟨p, hp, rfl⟩ := List.mem_map.mp hd
    have := of_decide_eq_true (h p hp)
    show ¬ (decide (p.1 > p.2) = true)
    rw [decide_eq_true_eq]
    omega
def eE : List (List Int) := [[1, 1, 0, 0], [0, 1, 1, 0], [0, 0, 1, 1]]
theorem eE4 : Prods 4 4 eE := by
  intro m hm
  simp only [eE, List.mem_cons, List.not_mem_nil, or_false] at hm
  rcases hm with h | h | h <;> subst h <;> exact ⟨rfl, by decide⟩
def eEf : KF := fun d => if d = 0 then 1 else if d = 2 then -3 else if d = 3 then 2 else 0
theorem eE_kp : kp (leastL eE) = eEf := by
  rw [kp_least (leastL_is _) eE4]
  funext d
  unfold eE
  rw [kp_cons, kp_cons, kp_cons, kp_nil]
  simp only [lsl, ls, List.map_cons, List.map_nil, List.zipWith_cons_cons, List.zipWith_nil_left]
  rw [kp_cons, kp_cons, kp_cons]
  simp only [lsl, ls, List.map_cons, List.map_nil, List.zipWith_cons_cons, List.zipWith_nil_left]
  rw [kp_cons]
  simp only [lsl, ls, List.map_cons, List.map_nil, List.zipWith_cons_cons, List.zipWith_nil_left, kp_nil, kz, eEf, List.sum_cons, List.sum_nil]
  omega
theorem eE_rep : RepC [0, 2, 3] eEf 40 := by
  refine ⟨by decide, fun d => ?_, by decide⟩
  unfold eEf
  simp only [List.mem_cons, List.not_mem_nil, or_false]
  constructor
  · rintro (h | h | h) <;> subst h <;> decide
  · intro h
    by_cases h0 : d = 0
    · exact .inl h0
    · by_cases h2 : d = 2
      · exact .inr (.inl h2)
      · by_cases h3 : d = 3
        · exact .inr (.inr h3)
        · rw [if_neg h0, if_neg h2, if_neg h3] at h; exact absurd rfl h
theorem rd_eqK2 {g : DG} {P : DV → Prop} {ks ls : List Key} {ns ms : List Int} (h : P (.bl (kEqB ks ns ls ms))) : rrEqK false (.dK ks (ns.map DV.int)) (.dK ls (ms.map DV.int)) g P := ⟨ks, ls, ns, ms, rfl, rfl, h⟩
end DL

/-! Deep layer XG: defs that know that nothing is being shown around them; repr; the end with tables. -/
namespace DL
open PySem PySem.Spec PyProof.Rows L2 LamX
/-- a def whose code object is known -/
structure FunC (K : PySem.W.Frag) (x qual : Str) (st : Stmt) (f : Addr) (fd : FuncData) (c : Addr) : Prop where
  ex : ∃ (oc : Value) (od : Option Addr) (kV doc pm : Value) (an : Option Addr) (ct : Value) (osl : Array (Option Value)),
    fd = PySem.W.fnOf x qual (defArgs st) (defBody st) (defScope st) .none kV doc pm an (.ref c) ct ∧ K.lookup f = some ⟨oc, od, .func fd, osl⟩ ∧ PySem.W.codeIn K (.ref c) qual = true
  kp : PySem.W.keepIn K (.ref f) = true
structure FnG (P : Program) (w : World) (K : PySem.W.Frag) (mg : Str → Option Value) (base : Heap) (k : Nat) (f : Addr) (fd : FuncData) (ps : List Str) (sp : Sp) : Prop where
  len : ∀ vs H Q E, sp vs H Q E → vs.length = ps.length
  run : ∀ (A : Around) (outer : List Env) (s : Shared) (H : Hp) (args : Args) (us : List Value) (vs : List V) (Q : VK) (E : XK), Room k A → A.guards = some [] → Env0 P w K mg base A outer s H → BindsTo s fd args (ps.zip us) → Vals vs us → sp vs H Q E →
    codeAny (model P w) A (.call (.ref f) args) (CR CX0 outer P w H s Q E) s
theorem fun_okG {P : Program} {w : World} {K : Fg} {mg : Str → Option Value} {base : Heap} {x qual : Str} {st : Stmt} {f c : Addr} {fd : FuncData} {N ps : List Str} {k : Nat} {sp : SpD} (F : FunC K x qual st f fd c) (S : FnScope N ps (defScope st))
    (len : ∀ ds g Q, sp ds g Q → ds.length = ps.length)
    (hbody : ∀ (A : Around) (outer : List Env) (s : Shared) (H : Hp) (E : XK), Room k (A.deeper (envOfC qual (defScope st) s.heap.objs.size f (.ref c))) → A.guards = some [] →
      ∃ t : TDS, PSs (cxOf CX0 P w K mg base N qual (defScope st) f (.ref c) A outer s H E).nox (defBody st) (upS K t) ∧ ∀ ds g Q, sp ds g Q → t (dEnds Q) (startD N ds) g) :
    FnG P w K mg base (k + 1) f fd ps (upSp K sp) := by
  obtain ⟨oc, od, kV, doc, pm, an, ct, osl, rfl, lk, hcd⟩ := F.ex
  refine ⟨fun vs H Q E ⟨ds, g, R, rd, rg, h, _⟩ => by rw [← rd.length]; exact len _ _ _ h, fun A outer s H args us vs Q E hr hgd e0 hb rv hsp => ?_⟩
  obtain ⟨ds, g, R, rd, rg, h, out⟩ := hsp
  refine run_ofS lk hcd S hr e0 hb rv (by rw [← rd.length]; exact len _ _ _ h) fun hr' => ?_
  obtain ⟨t, ht, hq⟩ := hbody A outer s H E hr' hgd
  refine ⟨_, ht.nox, startD N ds, g, dEnds R, start_rs rd, rg, hq ds g R h, fun δ' g' σ' H' e rg' _ z => ?_, fun d g' v H' e rg' rv z => ?_, fun _ _ _ _ _ _ _ z => z, fun _ _ _ _ _ _ _ z => z⟩
  · obtain ⟨g2, su, z⟩ := z
    exact out _ g2 _ _ (su.ext e) (su.rg rg') .non z
  · obtain ⟨g2, su, z⟩ := z
    exact out _ g2 _ _ (su.ext e) (su.rg rg') rv z
section
variable {X : Cx} {x : Str} {p pos : Pos} {e : Expr} {es : List Expr} {t : TDA}
theorem pd_callG {k : Nat} {f : Addr} {fd : FuncData} {ps : List Str} {sp : SpD} (F : FnG X.prog X.w X.K X.mg X.base k f fd ps (upSp X.K sp)) (hr : Room k X.A) (hgd : X.A.guards = some []) (hm : X.mg x = some (.ref f)) (hk : PySem.W.keepIn X.K (.ref f) = true) (hb : Binds X.K fd ps [])
    (ha : PA X (e :: es) (upA X.K t)) (hg : Gl X x := by rfl) (hdb : (x == ("__debug__" : Str)) = false := by decide) (he : starEach (e :: es) X.env = (false, eval e X.env) :: starEach es X.env := by rfl) (hpl : (backTo pos (starEach es X.env)).any (·.1) = false := by rfl) :
    PE X (.Call (.Name x p) (e :: es) [] pos) (upE X.K (dCall sp t)) := by
  refine ⟨fun pins s σ H Q I ⟨δ, g, P, rs, rg, h, out⟩ => ?_⟩
  refine wpAny_Call_Name_kw (ld_glob I hg hm ?_ hdb)
  refine PySem.W.callWith_K (h₀ := X.base) I.ok.mod.kin hk (thn (ha.run pos pins s σ H (fun vs H1 => ∃ ds g1, RDs X.K H1 ds vs ∧ RG X.K H1 g1 ∧ Ext g H g1 H1 ∧ sp ds g1 P) I ⟨δ, g, _, rs, rg, h, fun ds g1 vs H1 e1 rg1 rd1 h1 => ⟨ds, g1, rd1, rg1, e1, h1⟩⟩) fun us s1 ⟨vs, H1, I1, r1, ds, g1, rd1, rg1, e1, h1⟩ => ⟨I1.kIn, ?_⟩) he hpl
  have hsp : upSp X.K sp vs H1 Q (fun _ _ _ => False) := ⟨ds, g1, P, rd1, rg1, h1, fun d g' v H' e rg' rd' p' => out d g' v H' (e1.trans e) rg' rd' p'⟩
  have hl : us.length = ps.length := by rw [← r1.length]; exact F.len _ _ _ _ hsp
  have b := hb s1 us I1.kIn (by rw [List.append_nil]; exact hl)
  rw [List.append_nil] at b
  refine wpAny_call (codeAny_mono (F.run X.A X.stack s1 H1 ⟨us, []⟩ us vs Q (fun _ _ _ => False) hr hgd I1.env0 b r1 hsp) fun r s' hq => ?_)
  cases r with
  | error er => exact (show False from hq).elim
  | ok fl =>
    cases fl with
    | ret u => exact I1.after hq
    | next => exact False.elim hq
    | brk => exact False.elim hq
    | cont => exact False.elim hq
/-! ### repr -/
end
/-! ### facts for the printer -/
/-- a def of the top whose code object is known -/
structure DfnC (K : Fg) (mg : Str → Option Value) (n : Str) (st : Stmt) (ps : List Str) (f : Addr) (fd : FuncData) (c : Addr) : Prop where
  fn : FunC K n n st f fd c
  at_ : mg n = some (.ref f)
  bd : L2.Binds K fd ps []
theorem tabIn_mk {K : Fg} {x : Str} {f c P : Addr} {oc ccl : Value} {od cdd : Option Addr} {fd : FuncData} {osl ccs : Array (Option Value)} {vs : Array Value} (h1 : PySem.W.nsIn K mainGlobals x = some (some (.ref f))) (h2 : K.lookup f = some ⟨oc, od, .func fd, osl⟩) (h3 : fd.code = .ref c) (h4 : K.lookup c = some ⟨ccl, cdd, .fields vs, ccs⟩) (h5 : vs[11]? = some (.ref P)) :
    PySem.W.tabIn K x = some (c, P) := by
  unfold PySem.W.tabIn
  rw [h1]
  dsimp only
  rw [h2]
  dsimp only
  rw [h3]
  dsimp only
  rw [h4]
  dsimp only
  rw [h5]
/-! ### tuple(range(a, b)) -/
section
variable {X : Cx} {pos : Pos}
end
/-! ### displays, pair by pair -/
/-! ### range(a, b, c) of any step -/
section
variable {X : Cx} {tgx : Expr} {t : TDA} {pos : Pos}
end
end DL

/-! Deep layer NX: next((elt for .. in .. if ..), None): the generator is woken once, then dropped. -/
namespace DL
open PySem PySem.Spec PyProof.Rows L2 LamX GenW

/-! ### the code object of the generator expression -/
section
variable {M : Model} {A : Around} {E : Value → Shared → Prop} {s : Shared}
theorem genexpr_codeX {env : Env} {c P : Addr} {ps : Array Value} {pos : Pos} {qual : Str} {scope : Scope} {Q : Value → Shared → Prop} (hc : env.code = .ref c) (hok : s.heap.IsCode c P ps) (hP : s.heap.get? P = some (PySem.W.tabObj ps)) (hnf : codeAmong pos ps.toList = none)
    (h : ∀ c' h' tk, Heap.ExtBut P s.heap h' → s.heap.objs.size ≤ c' → c' < h'.objs.size → h'.CodeRec (.ref c') qual → h'.get? P = some (PySem.W.tabObj (ps ++ #[rawInt pos.line, rawInt pos.col, .ref c'])) → Q (.ref c') { s with heap := h', toks := tk }) :
    wpAny M A (genexprCode env pos qual scope) Q E s := by
  obtain ⟨o, vs, file, tf, flags, tg, inF, text, tt, op, ho, hd, h11, h2, h7, h9, h10, hop, hpd, htr, hne⟩ := id hok
  rw [hP] at hop
  cases hop
  unfold genexprCode codeAt
  rw [hc, if_neg (show ¬ ((Value.ref c == Value.none) = true) from Bool.false_ne_true)]
  refine wpAny_bind (wpAny_fieldsOf ho hd ?_)
  rw [h11]
  refine wpAny_bind (wpAny_fieldsOf hP rfl ?_)
  cases hq : codeAmong pos ps.toList with
  | some cv => rw [hnf] at hq; cases hq
  | none =>
    rw [h2, h7, h9, h10]
    refine wpAny_bind (wpAny_newCode fun c' P' h' tk hk hc' hP' hcode' hrec' => ?_)
    have hop' := hk _ _ hP
    refine wpAny_bind (wpAny_updateFieldsOfTheText hop' rfl ?_)
    have hnew : (Obj.mapFields (fun vs => if (codeAmong pos vs.toList).isSome = true then vs else vs ++ #[rawInt pos.line, rawInt pos.col, .ref c']) (PySem.W.tabObj ps)) = PySem.W.tabObj (ps ++ #[rawInt pos.line, rawInt pos.col, .ref c']) := by
      show ({ cls := Value.none, data := Data.fields (if (codeAmong pos ps.toList).isSome = true then ps else ps ++ #[rawInt pos.line, rawInt pos.col, .ref c']) } : Obj) = _
      rw [hnf]; rfl
    have hget := Heap.get?_update_self (h := h') (fun o => Obj.mapFields (fun vs => if (codeAmong pos vs.toList).isSome = true then vs else
      vs ++ #[rawInt pos.line, rawInt pos.col, .ref c']) o) hop' (by rw [hnew]; rfl)
    have hget := hget
    rw [hnew] at hget
    refine wpAny_bind (wpAny_fieldsOf hget rfl ?_)
    have hl : (ps ++ #[rawInt pos.line, rawInt pos.col, Value.ref c']).toList = ps.toList ++ [rawInt pos.line, rawInt pos.col, .ref c'] := by simp
    rw [hl, codeAmong_snoc _ htr hnf]
    have sb := Heap.SameBut.update h' P (fun o => Obj.mapFields (fun vs => if (codeAmong pos vs.toList).isSome = true then vs else vs ++ #[rawInt pos.line, rawInt pos.col, Value.ref c']) o)
    have hPc : c' ≠ P := Nat.ne_of_gt (Nat.lt_of_lt_of_le (Heap.lt_size hP) hc')
    refine wpAny_pure (h _ _ _ (fun b o' hb e => sb.extBut b o' hb (hk b o' e)) hc' ?_ ?_ hget)
    · show c' < (h'.update P _).objs.size
      rw [sb.1]
      exact hcode'.lt.1
    · obtain ⟨c2, oc, ws, t, e2, hoc, hd2, hv⟩ := hrec'
      cases e2
      exact ⟨_, oc, ws, t, rfl, sb.extBut _ _ hPc hoc, hd2, hv⟩
end
/-! ### the names of a generator expression -/
structure GenS (N : List Str) (sc scope : Scope) (own : List (Str × Nat)) : Prop where
  kind : scope.kind = .function
  co : scope.isCoroutine = false
  nocell : ∀ y ∈ scope.names, y.2 ≠ .cell
  zero : scope.names.lookup (".0" : Str) = some NameKind.local
  ix : ∀ p ∈ own, N[p.2]? = some p.1
  own : ∀ y ∈ scope.names, y.2 = .local → y.1 ∈ own.map (·.1) ∨ y.1 ∉ N
  free : ∀ y ∈ scope.names, y.2 = .free → sc.names.lookup y.1 = some .cell ∨ sc.names.lookup y.1 = some .free
def genSB (N : List Str) (sc scope : Scope) (own : List (Str × Nat)) : Bool :=
  decide (scope.kind = .function) && !scope.isCoroutine && decide (scope.names.lookup (".0" : Str) = some NameKind.local) && own.all (fun p => decide (N[p.2]? = some p.1)) &&
  scope.names.all fun y => !decide (y.2 = .cell) && (!decide (y.2 = .local) || decide (y.1 ∈ own.map (·.1)) || decide (y.1 ∉ N)) && (!decide (y.2 = .free) || decide (sc.names.lookup y.1 = some .cell) || decide (sc.names.lookup y.1 = some .free))
theorem genS_by {N : List Str} {sc scope : Scope} {own : List (Str × Nat)} (h : genSB N sc scope own = true) : GenS N sc scope own := by
  unfold genSB at h
  simp only [Bool.and_eq_true, Bool.or_eq_true, Bool.not_eq_true', decide_eq_true_eq, decide_eq_false_iff_not, List.all_eq_true] at h
  obtain ⟨⟨⟨⟨h1, h2⟩, h3⟩, h4⟩, h5⟩ := h
  refine ⟨h1, h2, fun y hy => (h5 y hy).1.1, h3, h4, fun y hy e => ?_, fun y hy e => ?_⟩
  · rcases (h5 y hy).1.2 with (z | z) | z
    · exact absurd e z
    · exact .inl z
    · exact .inr z
  · rcases (h5 y hy).2 with (z | z) | z
    · exact absurd e z
    · exact .inl z
    · exact .inr z
section
variable {X : Cx} {pins : List (Addr × Obj)} {σ : L2.St} {H : Hp} {s : Shared}
theorem GenS.has {scope : Scope} {own : List (Str × Nat)} (L : GenS X.N X.env.scope scope own) (ok : X.Ok) : ∀ y ∈ scope.names, y.2 = .free → ∃ c, X.env.cells.lookup y.1 = some c := fun y hy e => by
  rcases L.free y hy e with k | k
  · exact ok.has _ (.inl k)
  · exact ok.has _ (.inr k)
abbrev gxEnv (X : Cx) (scope : Scope) (C : Addr) (code : Value) : Env := genEnv scope (cloFrom X.env.cells scope.names []) C code builtinsNs X.env
/-- the context of the generator's frame, made at s, its iterator's objects at fp -/
abbrev genCx (X : Cx) (A : Around) (s : Shared) (H : Hp) (cenv : Env) (fp : List Addr) : Cx :=
  { X with A := A, s_0 := s, H_0 := H, env := cenv, outer := X.stack, stack := cenv :: X.stack, ex := fp, fn := fun _ => false, calm := true, pn := [], xe := fun _ _ => False }
/-- by the road of the kit's lemma for the start of a lambda's frame -/
theorem gen_start {A : Around} {scope : Scope} {own : List (Str × Nat)} {fp : List Addr} {code : Value} {h₁ : Heap} {tk : Nat} {G : Array GenState} {m0 : Str → Option Value} (I : Inv X pins σ H s) (hN : X.N.Nodup) (L : GenS X.N X.env.scope scope own) (hfp : ∀ b ∈ fp, FpOk X pins H b ∧ b < s.heap.objs.size)
    (hd : A.handled = none) (hfr : A.frames = some (gxEnv X scope s.heap.objs.size code :: X.stack)) (hG : AllBare G) (hns : h₁.Ns s.heap.objs.size m0) (kp : ∀ b o, s.heap.get? b = some o → h₁.get? b = some o) :
    Inv (genCx X A s H (gxEnv X scope s.heap.objs.size code) fp) [] (wipe σ (own.map (·.2))) H { s with heap := h₁, toks := tk, gens := G } := by
  have hfree := L.has I.ok
  have cm : ∀ {y c}, (cloFrom X.env.cells scope.names []).lookup y = some c → X.env.cells.lookup y = some c := fun {y c} e => by
    rcases cloFrom_mem (PySem.mem_of_lookup e) with hm | ⟨h1, h2⟩
    · cases hm
    · obtain ⟨c1, hc⟩ := hfree _ h1 rfl
      have hc : X.env.cells.lookup y = some c1 := hc
      have e2 : c = c1 := by rw [h2, hc] <;> rfl
      rw [e2]
      exact hc
  have look : ∀ {y}, scope.names.lookup y = some .free → ∃ c, (cloFrom X.env.cells scope.names []).lookup y = some c := fun {y} hl =>
    mem_lookup (cloFrom_has (cells := X.env.cells) (acc := []) (PySem.mem_of_lookup hl))
  have cellK : ∀ {c : Addr} {v : Option Value}, s.heap.IsCell c v → h₁.IsCell c v := fun {c v} ⟨o, ho, hd⟩ => ⟨_, kp _ _ ho, hd⟩
  refine ⟨⟨I.ok.mod, L.kind, I.ok.glob, rfl, Nat.le_refl _, fun y z c e1 e2 => I.ok.inj y z c (cm e1) (cm e2), fun y hy => ?_, fun y c z _ => ?_, fun _ => hd, hfr, .inr ⟨rfl, rfl⟩, fun b hb => ⟨Nat.ne_of_lt (hfp b hb).2, fun y c e z => ?_⟩, I.bs, Nat.le_trans I.ok.bsz I.sz, fun b o e hb => ?_, fun b hb z => ?_, I.stack, I.stkFree⟩,
    rfl, hG, Un.kept kp, ⟨_, hns, fun i y v e1 e2 e3 => ?_⟩, fun y c e => ?_, I.hok.fresh (Nat.le_refl _), fun y c e => ?_, fun q hq => absurd (show q ∈ ([] : List (Addr × Obj)) ++ [] from hq) (by simp), I.hok.kept kp, by rw [wipe_length]; exact I.len⟩
  · have hy : scope.names.lookup y = some .cell ∨ scope.names.lookup y = some .free := hy
    rcases hy with hy | hy
    · exact absurd rfl (L.nocell _ (PySem.mem_of_lookup hy))
    · exact look hy
  · have z : false = true := z
    cases z
  · have e : (cloFrom X.env.cells scope.names []).lookup y = some c := e
    exact (hfp b hb).1.2.2.2.2.1 y c (cm e) z
  · rcases (hfp b hb).1.2.2.2.1 with z | z
    · exact I.ok.noex b o e z
    · exact absurd (Nat.lt_of_lt_of_le (Heap.lt_size e) (Nat.le_trans I.ok.bsz z)) (Nat.lt_irrefl _)
  · rcases List.mem_cons.mp (I.stkSub b z) with z | z
    · exact (hfp b hb).1.2.1 z
    · exact (hfp b hb).1.2.2.1 z
  · obtain ⟨e2, hne⟩ := wipe_some e2
    have e1 : X.N[i]? = some y := e1
    have e3 : Vis scope y := e3
    rcases e3 with k | k | k
    · exfalso
      rcases L.own _ (PySem.mem_of_lookup k) rfl with e' | e'
      · obtain ⟨p, hp, hpy⟩ := List.mem_map.mp e'
        have e3 := L.ix p hp
        have hpy : p.1 = y := hpy
        rw [hpy] at e3
        exact hne (List.mem_map.mpr ⟨p, hp, nodup_ix hN e3 e1⟩)
      · exact e' (List.mem_of_getElem? e1)
    · exact absurd rfl (L.nocell _ (PySem.mem_of_lookup k))
    · obtain ⟨m, hn, hl⟩ := I.loc
      have hvis : Vis X.env.scope y := (L.free _ (PySem.mem_of_lookup k) rfl).elim (fun k => .inr (.inl k)) (fun k => .inr (.inr k))
      obtain ⟨w', r, q⟩ := hl i y v e1 e2 hvis
      obtain ⟨c2, h2⟩ := look k
      refine ⟨w', r, .inr ⟨.inr k, c2, h2, ?_⟩⟩
      have c1 := cm h2
      rcases q with ⟨k', _⟩ | ⟨_, c3, e', z⟩
      · have k' : X.env.scope.names.lookup y = some .local := k'
        rcases L.free _ (PySem.mem_of_lookup k) rfl with k2 | k2 <;> rw [show X.env.scope.names.lookup y = _ from k2] at k' <;> cases k'
      · rw [c1] at e'
        cases e'
        exact cellK z
  · obtain ⟨w', z⟩ := I.cell y c (cm e)
    exact ⟨w', cellK z⟩
  · exact I.freeC y c (cm e)
end
/-! ### the search -/
def dFind (tg : Tg) (own : List Nat) (tt : TDT) (te : TDE) (δ : DS) : List DV → DG → (DV → DG → Prop) → Prop
  | [], g, Q => Q .non g
  | d :: ds, g, Q => match bindT tg d (wipeD δ own) with
    | some δ2 => tt δ2 g fun b g3 => if b = true then te δ2 g3 Q else dFind tg own tt te δ ds g3 Q
    | none => False
/-- next((te for tg in wi if tt), None); P: the maker's table -/
def dNx (P : Addr) (q : Str) (wi : TDI) (tg : Tg) (own : List Nat) (tt : TDT) (te : TDE) : TDE := fun δ g Q => wi δ g fun ds g1 => (∃ T, TbG T g1 ∧ g1 P = some (.tbl q)) ∧ dFind tg own tt te δ ds g1 Q
/-- the ends of the one run -/
def nxEnd (G : Cx) (Q : VK) : GenEnd := fun _ _ r s₁ => ((r = .ok (.ret .none) ∨ r = .ok .next) ∧ ∃ σ' H', Inv G [] σ' H' s₁ ∧ Q .non H') ∨ ∃ e, r = .error e ∧ False
def nxYld (G : Cx) (Q : VK) : Protocol := fun _ _ v s₁ _ => ∃ pins σ' x H', Inv G pins σ' H' s₁ ∧ RelV x v ∧ Q x H'
section
variable {X : Cx} {A : Around} {elt tgx iter : Expr} {ifs : List Expr} {scope : Scope} {pos : Pos} {s3 : Shared} {H3 HA : Hp} {cenv : Env} {fp : List Addr} {it : Addr} {tn : Nat → Heap → Prop} {J : It} {ds : List DV} {tg : Tg} {own : List Nat} {tt : TDT} {te : TDE} {δ : DS} {σ : L2.St} {gA : DG} {P : DV → DG → Prop} {Q : VK}
/-- by the road of the kit's seg_genLoop, the tests and the elements free -/
theorem seg_find (T : Turn X.prog X.w X.K tgx J fp it tn) (dw : DWalk X.K J ds H3) (hix : ∀ i ∈ tg.ix, i ∈ own) (rs : RS X.K H3 δ σ) (hco : cenv.scope.isCoroutine = false)
    (hg : PG (genCx X (A.deeper cenv) s3 H3 cenv fp) tgx (tgG X.K tg)) (ht : PTs (genCx X (A.deeper cenv) s3 H3 cenv fp) ifs (upT X.K tt)) (he : PE (genCx X (A.deeper cenv) s3 H3 cenv fp) elt (upE X.K te))
    (k : ∀ d g' v H', Ext gA HA g' H' → RG X.K H' g' → RD X.K H' d v → P d g' → Q v H') :
    ∀ (n i : Nat) (H : Hp) (g : DG) (s₀ s : Shared), ds.length - i = n → i ≤ ds.length → Inv (genCx X (A.deeper cenv) s3 H3 cenv fp) [] (wipe σ own) H s → tn i s.heap → (∀ b ∈ fp, H b = none) → Kp H3 H → RG X.K H g → Ext gA HA g H → dFind tg own tt te δ (ds.drop i) g P →
      Seg (model X.prog X.w) A (nxEnd (genCx X (A.deeper cenv) s3 H3 cenv fp) Q) (nxYld (genCx X (A.deeper cenv) s3 H3 cenv fp) Q) 1 s₀
        (.compLoop (.GeneratorExp elt [⟨tgx, iter, ifs, 0⟩] scope pos) 0 (.ref it) .none cenv) ((model X.prog X.w).den (.compLoop (.GeneratorExp elt [⟨tgx, iter, ifs, 0⟩] scope pos) 0 (.ref it) .none cenv)) [] s := by
  have hov : A.over (.compLoop (.GeneratorExp elt [⟨tgx, iter, ifs, 0⟩] scope pos) 0 (.ref it) .none cenv) [] = A.deeper cenv := by rfl
  have stat : ∀ {σ' : L2.St} {H' : Hp} {s' : Shared}, Inv (genCx X (A.deeper cenv) s3 H3 cenv fp) [] σ' H' s' → (∀ b ∈ fp, H' b = none) → ∀ b ∈ fp, FpOk (genCx X (A.deeper cenv) s3 H3 cenv fp) [] H' b := fun {σ' H' s'} I' hn b hb =>
    ⟨hn b hb, (I'.ok.exf b hb).1, I'.ok.exfs b hb, .inl hb, fun x c e => (I'.ok.exf b hb).2 x c e, fun p hp => absurd (show p ∈ ([] : List (Addr × Obj)) ++ [] from hp) (by simp)⟩
  intro n
  induction n with
  | zero =>
    intro i H g s₀ s hn hi I st hf kp rg ex q
    have ei : i = ds.length := by omega
    subst ei
    rw [List.drop_length] at q
    show Seg _ A _ _ _ s₀ _ ((compTurn (.GeneratorExp elt [⟨tgx, iter, ifs, 0⟩] scope pos) 0 (.ref it) .none cenv).onRaise (leaving cenv)) [] s
    rw [compTurn_gen, Sem.onRaise_eq_wrap]
    refine seg_bind_wrap (wpAny_standAt ?_)
    refine seg_bind_wrap ?_
    rw [hov]
    refine thnF (T.done (genCx X (A.deeper cenv) s3 H3 cenv fp) rfl rfl rfl rfl ds.length [] s _ H (fun _ _ => False) I (stat I hf) st (dw.stops H kp)) fun r s1 ⟨er, I1⟩ => ?_
    subst er
    exact seg_end (.ok .next) (.inl ⟨.inr rfl, _, H, I1, k .non g .non H ex rg .non q⟩)
  | succ n ih =>
    intro i H g s₀ s hn hi I st hf kp rg ex q
    have hlt : i < ds.length := by omega
    have hd : ds.drop i = ds[i] :: ds.drop (i + 1) := List.drop_eq_getElem_cons hlt
    rw [hd] at q
    have q' : (match bindT tg ds[i] (wipeD δ own) with
      | some δ2 => tt δ2 g fun b g3 => if b = true then te δ2 g3 P else dFind tg own tt te δ (ds.drop (i + 1)) g3 P
      | none => False) := q
    show Seg _ A _ _ _ s₀ _ ((compTurn (.GeneratorExp elt [⟨tgx, iter, ifs, 0⟩] scope pos) 0 (.ref it) .none cenv).onRaise (leaving cenv)) [] s
    rw [compTurn_gen, Sem.onRaise_eq_wrap]
    refine seg_bind_wrap (wpAny_standAt ?_)
    refine seg_bind_wrap ?_
    rw [hov]
    refine thnF (T.item (genCx X (A.deeper cenv) s3 H3 cenv fp) rfl rfl rfl rfl i [] s _ H (fun _ _ => False) I (stat I hf) st (dw.goes i H hlt kp)) fun r s1 ⟨u, er, h1⟩ => ?_
    subst er
    dsimp only
    refine seg_bind_wrap ?_
    rw [hov]
    refine thnF h1 fun _ s2 ⟨x, H2, I2, rx, y, st2, n2⟩ => ?_
    obtain ⟨gr, rd⟩ := dw.yields i H x H2 ds[i] (by simp [hlt]) kp y
    split at q'
    · rename_i δ2 eb
      have rg2 := step_rg gr rg
      have ex2 := ex.trans (step_ext gr rg)
      have kp2 := kp.trans (step_kp gr)
      have rs2 : RS X.K H2 (wipeD δ own) (wipe σ own) := (rs.mono kp2).wipe own
      have I2' := I2.pinned (stat I2 n2) (T.obj _ _ st2)
      refine seg_bind_wrap ?_
      rw [hov]
      refine thnF (hg.run _ s2 _ H2 x u (fun σ' H' => H' = H2 ∧ RS X.K H2 δ2 σ' ∧ wipe σ' own = wipe σ own) I2' rx (tg_run rd rs2 eb fun σ3 rs3 hw => ⟨rfl, rs3, by rw [hw own hix]; exact wipe_wipe σ own⟩)) fun _ s3' ⟨σ3, H3', I3, eH, rs3, hw⟩ => ?_
      subst eH
      refine seg_bind_wrap ?_
      rw [hov]
      refine thnF (ht.run _ s3' σ3 H3' (fun b H' => ∃ g', Ext g H3' g' H' ∧ RG X.K H' g' ∧ (if b = true then te δ2 g' P else dFind tg own tt te δ (ds.drop (i + 1)) g' P)) I3 ⟨δ2, g, _, rs3, rg2, q', fun b g' H' e rg' z => ⟨g', e, rg', z⟩⟩) fun b s4 ⟨H4, I4, g4, e4, rg4, z⟩ => ?_
      have pin' : ∀ b ∈ fp, ∀ o, s2.heap.get? b = some o → s4.heap.get? b = some o ∧ H4 b = none := fun b hb o e =>
        let z := I4.pin (b, o) (List.mem_append_right _ (List.mem_append_right _ (mem_pinsAt hb e)))
        ⟨z.1, z.2.1⟩
      cases b with
      | false =>
        simp only [Bool.false_eq_true, if_false] at z ⊢
        have hl : (wipe σ own).length = σ3.length := by rw [← hw, wipe_length]
        refine seg_again rfl (ih (i + 1) H4 g4 s₀ s4 (by omega) hlt ((I4.unpinned (pins := [])).weak hl (fun j v e => ?_)) (T.keep _ _ _ st2 fun b hb o e => (pin' b hb o e).1) (fun b hb => ?_) (kp2.trans (e4.kp rg2)) rg4 (ex2.trans e4) z)
        · rw [← hw] at e
          exact (wipe_some e).1
        · obtain ⟨o, e, _⟩ := T.obj _ _ st2 b hb
          exact (pin' b hb o e).2
      | true =>
        simp only [if_true] at z ⊢
        have hy : ∀ v, yieldOut cenv v = yieldValue v := fun v => by simp only [yieldOut, hco, Bool.false_eq_true, if_false]
        simp only [hy]
        rw [Sem.bind_eq_wrap', Sem.bind_eq_wrap', Sem.wrap_wrap, Sem.wrap_wrap]
        refine seg_wrap ?_
        rw [hov]
        refine thnF (he.run _ s4 σ3 H4 Q I4 ⟨δ2, g4, P, rs3.mono (e4.kp rg2), rg4, z, fun d g' v H' e rg' rd' p => k d g' v H' ((ex2.trans e4).trans e) rg' rd' p⟩) fun yv s5 ⟨v, H5, I5, rv, hQ⟩ => ?_
        exact seg_at (seg_yield rfl rfl rfl ⟨_, _, v, H5, I5, rv, hQ⟩)
    · exact q'.elim
theorem seg_find0 {s₀ s : Shared} (T : Turn X.prog X.w X.K tgx J fp it tn) (st : tn 0 s.heap)
    (loop : ∀ s₀, Seg (model X.prog X.w) A (nxEnd (genCx X (A.deeper cenv) s3 H3 cenv fp) Q) (nxYld (genCx X (A.deeper cenv) s3 H3 cenv fp) Q) 1 s₀
        (.compLoop (.GeneratorExp elt [⟨tgx, iter, ifs, 0⟩] scope pos) 0 (.ref it) .none cenv) ((model X.prog X.w).den (.compLoop (.GeneratorExp elt [⟨tgx, iter, ifs, 0⟩] scope pos) 0 (.ref it) .none cenv)) [] s) :
    Seg (model X.prog X.w) A (nxEnd (genCx X (A.deeper cenv) s3 H3 cenv fp) Q) (nxYld (genCx X (A.deeper cenv) s3 H3 cenv fp) Q) 1 s₀
      (.compStart (.GeneratorExp elt [⟨tgx, iter, ifs, 0⟩] scope pos) 0 (.ref it) .none cenv) ((model X.prog X.w).den (.compStart (.GeneratorExp elt [⟨tgx, iter, ifs, 0⟩] scope pos) 0 (.ref it) .none cenv)) [] s := by
  show Seg _ A _ _ _ s₀ _ ((compStart (.GeneratorExp elt [⟨tgx, iter, ifs, 0⟩] scope pos) 0 (.ref it) .none cenv).onRaise (leaving cenv)) [] s
  unfold compStart
  rw [Sem.onRaise_eq_wrap]
  show Seg _ A _ _ _ s₀ _ ((ask >>= _).wrap _ _ _ _) [] s
  refine seg_bind_wrap (wpAny_askSetting ?_)
  split
  · exact seg_again rfl (loop _)
  · first
      | exact seg_bind_wrap (wpAny_rule (seg_bind_wrap (wpAny_standAt (seg_bind_wrap (T.self _ 0 s _ _ st (seg_again rfl (loop _)))))))
      | (refine seg_bind_wrap (wpAny_rule ?_); show Seg _ A _ _ _ s₀ _ ((standAt iter.pos >>= _).wrap _ _ _ _) [] s; exact seg_bind_wrap (wpAny_standAt (seg_bind_wrap (T.self _ 0 s _ _ st (seg_again rfl (loop _))))))
end
/-! ### the rule -/
section
variable {X : Cx} {pins : List (Addr × Obj)} {σ : L2.St} {H : Hp} {s : Shared}
/-- the code object is new, or found in the table -/
theorem gen_code {T : List (Addr × Str)} {c P : Addr} {scope : Scope} {pos : Pos} {A : Around} {E : Value → Shared → Prop} {Q : Value → Shared → Prop} (I : Inv X pins σ H s) (TB : TabB X.base X.mg c P) (hcode : X.env.code = .ref c)
    (hm : (P, X.env.qual ++ "<genexpr>") ∈ T) (hu : ∀ p ∈ T, p.1 = P → p.2 = X.env.qual ++ "<genexpr>") (hT : Tabs T H)
    (h : ∀ (code : Value) (H1 : Hp) (s' : Shared), Inv X pins σ H1 s' → ExtN H H1 → Tabs T H1 → s'.gens = s.gens → (∀ b o, H b = none → s.heap.get? b = some o → s'.heap.get? b = some o ∧ H1 b = none) → Q code s') :
    wpAny (model X.prog X.w) A (genexprCode X.env pos (X.env.qual ++ "<genexpr>") scope) Q E s := by
  obtain ⟨ps, hP, ht, ha⟩ := hT _ hm
  have hP' : s.heap.get? P = some { cls := .none, data := .fields ps } := I.hok P _ hP
  have C := TB.code.keeps I.bk
  cases hc : codeAmong pos ps.toList with
  | none =>
    refine genexpr_codeX hcode (C.code hP' ht) hP' hc fun c' h' tk hx hge hlt hrec htb => ?_
    obtain ⟨c2, oc, vs, t, e2, hoc, hd, hv⟩ := hrec
    cases e2
    have nC : H c' = none := I.hok.fresh hge
    have I1 := inv_table (t' := tk) (more := #[rawInt pos.line, rawInt pos.col, .ref c']) (h' := h') I hP hx htb hge ⟨oc, vs, t, hoc, hd, hv⟩
    have hE : ExtN H (upd (upd H P (.tbl (ps ++ #[rawInt pos.line, rawInt pos.col, .ref c']))) c' (CodeO c' (X.env.qual ++ "<genexpr>"))) := fun b o e n => by
      rw [upd_ne (ne_of_none e nC), upd_ne (fun z => n ps (Option.some.inj (e.symm.trans (by rw [z]; exact hP))))]
      exact e
    have eL : (ps ++ #[rawInt pos.line, rawInt pos.col, .ref c']).toList = ps.toList ++ [rawInt pos.line, rawInt pos.col, .ref c'] := by simp
    refine h (.ref c') _ _ I1 hE (fun p hp => ?_) rfl (fun b o hb e => ?_)
    · by_cases hb : p.1 = P
      · rw [hu p hp hb, hb]
        refine ⟨_, by rw [upd_ne (ne_of_none hP nC), upd_same], by rw [eL]; exact PySem.TriplesOk_snoc _ _ _ _ ht, fun p' cv hcv => ?_⟩
        rw [eL] at hcv
        rcases among_app _ ht hcv with z | z
        · obtain ⟨c0, e1, e2⟩ := ha p' cv z
          exact ⟨c0, e1, hE _ _ e2 codeO_ne⟩
        · exact ⟨c', z, upd_same⟩
      · obtain ⟨ps', a1, a2, a3⟩ := hT p hp
        refine ⟨ps', by rw [upd_ne (ne_of_none a1 nC), upd_ne hb]; exact a1, a2, fun p' cv hcv => ?_⟩
        obtain ⟨c0, e1, e2⟩ := a3 p' cv hcv
        exact ⟨c0, e1, hE _ _ e2 codeO_ne⟩
    · have n1 : b ≠ P := fun z => by rw [z, hP] at hb; cases hb
      have n2 : b ≠ c' := Nat.ne_of_lt (Nat.lt_of_lt_of_le (Heap.lt_size e) hge)
      exact ⟨hx b o n1 e, by rw [upd_ne n2, upd_ne n1]; exact hb⟩
  | some cv =>
    obtain ⟨c', e, hco⟩ := ha pos cv hc
    obtain ⟨o, vs, file, tf, flags, tg, inF, text, tt, op, ho, hd, h11, h2, h7, h9, h10, hop, hpd, htr, hne⟩ := C.code hP' ht
    rw [hP'] at hop
    cases hop
    unfold genexprCode codeAt
    rw [hcode, if_neg (show ¬ ((Value.ref c == Value.none) = true) from Bool.false_ne_true)]
    refine wpAny_bind (wpAny_fieldsOf ho hd ?_)
    rw [h11]
    refine wpAny_bind (wpAny_fieldsOf hP' rfl ?_)
    rw [hc]
    exact wpAny_pure (h cv H s I (ExtN.refl H) hT rfl fun b o hb e => ⟨e, hb⟩)
theorem pd_nx {elt tgx iter : Expr} {ifs : List Expr} {scope : Scope} {own : List (Str × Nat)} {wi : TDI} {tg : Tg} {tt : TDT} {te : TDE} {c P : Addr} {k : Nat} {p gpos cp pos : Pos} {kk : Nat}
    (hm : X.mg "next" = none) (hN : X.N.Nodup) (TB : TabB X.base X.mg c P) (hr : Room (k + 2) X.A) (hgd : X.A.guards = some []) (hi : PI X tgx iter (upI X.K wi)) (L : GenS X.N X.env.scope scope own)
    (hg : ∀ (A : Around) (s : Shared) (H : Hp) (C : Addr) (code : Value) (fp : List Addr), Room k A → A.guards = some [] → PG (genCx X A s H (gxEnv X scope C code) fp) tgx (tgG X.K tg))
    (ht : ∀ (A : Around) (s : Shared) (H : Hp) (C : Addr) (code : Value) (fp : List Addr), Room k A → A.guards = some [] → PTs (genCx X A s H (gxEnv X scope C code) fp) ifs (upT X.K tt))
    (he : ∀ (A : Around) (s : Shared) (H : Hp) (C : Addr) (code : Value) (fp : List Addr), Room k A → A.guards = some [] → PE (genCx X A s H (gxEnv X scope C code) fp) elt (upE X.K te))
    (hix : ∀ i ∈ tg.ix, i ∈ own.map (·.2) := by decide) (hcode : X.env.code = .ref c := by rfl) (hgl : Gl X "next" := by rfl) (hs : ∀ x, genFold iter X.env x = pure x := by intro _; rfl)
    (hst : starEach [.GeneratorExp elt [⟨tgx, iter, ifs, 0⟩] scope gpos, .Constant .none kk cp] X.env = (false, eval (.GeneratorExp elt [⟨tgx, iter, ifs, 0⟩] scope gpos) X.env) :: starEach [.Constant .none kk cp] X.env := by rfl)
    (hst2 : backTo pos (starEach [.Constant .none kk cp] X.env) = (false, eval (.Constant .none kk cp) X.env) :: [] := by rfl) :
    PE X (.Call (.Name "next" p) [.GeneratorExp elt [⟨tgx, iter, ifs, 0⟩] scope gpos, .Constant .none kk cp] [] pos) (upE X.K (dNx P (X.env.qual ++ "<genexpr>") wi tg (own.map (·.2)) tt te)) := by
  refine ⟨fun pins s σ H Q I ⟨δ, g, Po, rs, rg, h, out⟩ => ?_⟩
  refine wpAny_Call_Name_kw (ld_blt (u := .builtin "next") I hgl hm (by rfl) ?_)
  refine PyProof.Rows.callWith_builtin1 ?_ hst (by rfl)
  rw [hst]
  show wpAny _ _ (spliced ((false, eval (.GeneratorExp elt [⟨tgx, iter, ifs, 0⟩] scope gpos) X.env) :: backTo pos (starEach [.Constant .none kk cp] X.env))) _ _ s
  rw [hst2]
  refine Calls.spliced_cons (wpAny_GeneratorExp_make L.co (closure_ok (L.has I.ok)) L.nocell L.zero L.kind (by have := hr.dp; omega) (wpAny_mono (hi.run pins s σ H (fun J H' => ∃ ds g1, Ext g H g1 H' ∧ RG X.K H' g1 ∧ DWalk X.K J ds H' ∧ (∃ T, TbG T g1 ∧ g1 P = some (.tbl (X.env.qual ++ "<genexpr>"))) ∧ dFind tg (own.map (·.2)) tt te δ ds g1 Po) I
    ⟨δ, g, _, rs, rg, h, fun ds g' J H' e rg' dw z => ⟨ds, g', e, rg', dw, z⟩⟩) (fun v s1 h1 => wpAny_mono h1 (fun itv s2 h2 => ?_) fun _ _ e => e) fun _ _ e => e) hs)
  obtain ⟨it, fp, tn, J, H2, rfl, I2, T, st2, f2, ds, g1, e1, rg1, dw, ⟨Tb, hT, hP⟩, q⟩ := h2
  refine ⟨I2.nolimit, ?_⟩
  refine gen_code I2 TB hcode (hT.only P _ hP) (fun e he z => by
      have h1 := hT.all e he
      rw [z, hP] at h1
      injection h1 with h1
      injection h1 with h1
      exact h1.symm) (hT.tabs rg1) fun code H3 s3 I3 eN T1 eG kp3 => ?_
  obtain ⟨bm, ob, hbm, hne0, _, hneP, hbo, hcls, hdict, hdata⟩ := TB.bm.keeps I3.bk
  rw [show X.env.globals = mainGlobals from I3.ok.glob]
  refine wpAny_builtinsFor (I3.mod.glob.keeps I3.bk) hbm hne0 hbo hcls hdict hdata ?_
  intro h' hns hsb
  refine Calls.spliced_cons (Constant_none (Calls.spliced_nil ?_))
  have rg3 : RG X.K H3 g1 := rg_extN rg1 hT eN T1
  have kpH : Kp H2 H3 := kp_extN eN
  have sz : ∀ b ∈ fp, ∃ o, s2.heap.get? b = some o ∧ (s3.heap.get? b = some o ∧ H3 b = none) := fun b hb => by
    obtain ⟨o, e, _⟩ := T.obj _ _ st2 b hb
    exact ⟨o, e, kp3 b o (f2 b hb).1 e⟩
  have f3 : ∀ b ∈ fp, FpOk X pins H3 b ∧ b < s3.heap.objs.size := fun b hb => by
    obtain ⟨o, _, e3, n3⟩ := sz b hb
    exact ⟨⟨n3, (f2 b hb).2⟩, Heap.lt_size e3⟩
  have st3 : tn 0 s3.heap := T.keep _ _ _ st2 fun b hb o e => by
    obtain ⟨o', e', e3, _⟩ := sz b hb
    rw [e] at e'
    cases e'
    exact e3
  have kp' : ∀ b o, s3.heap.get? b = some o → h'.get? b = some o := fun b o e => hsb.extBut b o (Nat.ne_of_lt (Heap.lt_size e)) (Heap.get?_push_of_some _ e)
  generalize hgo : ({ cls := .type "generator", data := .fields #[.int s3.gens.size 0, .str "<genexpr>" (s3.toks + 1), .str (X.env.qual ++ "<genexpr>") (s3.toks + 1 + 1)] } : Obj) = go
  have kp5 : ∀ b o, s3.heap.get? b = some o → (h'.push go).get? b = some o := fun b o e => Heap.get?_push_of_some _ (kp' b o e)
  have hgen : (h'.push go).IsGen h'.objs.size s3.gens.size := ⟨go, _, _, by rw [← hgo]; exact Heap.get?_push_size _ rfl, by rw [← hgo], by rw [← hgo], by rw [← hgo]⟩
  generalize hc0 : (Code.compStart (.GeneratorExp elt [⟨tgx, iter, ifs, 0⟩] scope gpos) 0 (.ref it) .none (genEnv scope (cloFrom X.env.cells scope.names []) s3.heap.objs.size code builtinsNs X.env)) = c0
  refine Calls.call_function_entry (by decide +kernel) (by decide +kernel) PySem.W.kdk_entry_next (PySem.W.kdk_args_next2 _ _) ?_
  unfold Builtin.«next»
  refine wpAny_bind (m := someArgs "next" 1 2 _) (wpAny_of_eq (a := [Value.ref h'.objs.size, .none]) (by first | rfl | kernel_rfl!) ?_)
  dsimp only
  refine wpAny_bind (wpAny_specialOf (name := Str.ofString "__next__") (Heap.IsGen.typeIs (s := { s3 with gens := _, toks := _, heap := h'.push go }) hgen) slot_gen_next.lookup ?_)
  refine wpAny_ite_split (fun hab => absurd hab (by decide)) (fun _ => ?_)
  have back : ∀ {pins' : List (Addr × Obj)} {σ' : L2.St} {H' : Hp} {s' : Shared} {x : GenState}, Inv (genCx X (X.A.in1.in1.deeper (gxEnv X scope s3.heap.objs.size code)) s3 H3 (gxEnv X scope s3.heap.objs.size code) fp) pins' σ' H' s' → x.bare = true → Inv X pins σ H' (s'.setGen s3.gens.size x) := fun {pins' σ' H' s' x} J hx =>
    I3.call' (ch := fp) J.os J.base J.hok (allBare_setGen J.bare hx) fun b hb => ⟨(f3 b hb).1.2.2.2.1, (f3 b hb).1.2.1, (f3 b hb).1.2.2.2.2.1, (f3 b hb).1.2.2.2.2.2⟩
  have hdp := hr.dp
  have hun := hr.un
  refine wpAny_bind (next_genG (n := 1) (gs := .fresh c0) (F := fun _ _ s₁ => ∃ σ' H', Inv (genCx X (X.A.in1.in1.deeper (gxEnv X scope s3.heap.objs.size code)) s3 H3 (gxEnv X scope s3.heap.objs.size code) fp) [] σ' H' s₁ ∧ Q .non H') (Er := fun _ _ => False) (Y := nxYld (genCx X (X.A.in1.in1.deeper (gxEnv X scope s3.heap.objs.size code)) s3 H3 (gxEnv X scope s3.heap.objs.size code) fp) Q)
    (A := X.A.in1) hr.hd (I3.nolimit.keeps kp5) (by show X.A.depth < _; omega) hgen (Array.getElem?_push_size ..) ⟨rfl, ?_⟩ (fun v s₁ gs' hb ⟨pins', σ', x, H', J, rv, hQ⟩ => ?_) (fun s₁ ⟨σ', H', J, hQ⟩ h2 hk2 => ?_) fun e s₁ z => z.elim)
  · have rm : Room (k + 1) X.A.in1.in1 := ⟨hr.hd, by show X.A.depth + 3 * (k + 1) + 5 < _; omega, by show X.A.units + 1 + 1 + 16 * (k + 1) + 200 < _; omega⟩
    have rm2 := rm.deeper (gxEnv X scope s3.heap.objs.size code)
    have hgd2 : (X.A.in1.in1.deeper (gxEnv X scope s3.heap.objs.size code)).guards = some [] := hgd
    rw [← hc0]
    have bare0 : AllBare (s3.gens.push (GenState.fresh c0)) := AllBare.push I3.bare rfl
    have I4 := gen_start (tk := s3.toks + 1 + 1 + 1) (G := (Shared.setGen { s3 with gens := s3.gens.push (.fresh c0) } s3.gens.size .running).gens) (A := X.A.in1.in1.deeper (gxEnv X scope s3.heap.objs.size code)) (code := code) (h₁ := h'.push go) I3 hN L f3 hr.hd (Around.frames_deeper (A := X.A.in1.in1) I3.ok.frames) (allBare_setGen (s := { s3 with gens := s3.gens.push (.fresh c0) }) bare0 rfl) (hns.push _) kp5
    have st4 : tn 0 (h'.push go) := T.keep _ _ _ st3 fun b _ o e => kp5 b o e
    rw [hc0]
    rw [← hc0]
    refine seg_find0 T st4 fun s₀' => ?_
    refine seg_find (gA := g) (HA := H) (P := Po) T ⟨fun i H' hi k' => dw.goes i H' hi (kpH.trans k'), fun H' k' => dw.stops H' (kpH.trans k'), fun i H1 x H' d hd k' y => dw.yields i H1 x H' d hd (kpH.trans k') y⟩ hix ((rs.mono (e1.kp rg)).mono kpH) L.co (hg _ s3 H3 _ code fp rm2 hgd2) (ht _ s3 H3 _ code fp rm2 hgd2) (he _ s3 H3 _ code fp rm2 hgd2) out
      ds.length 0 H3 g1 s₀' _ (Nat.sub_zero _) (Nat.zero_le _) ?_ st4 (fun b hb => (f3 b hb).1.1) Kp.refl rg3 (e1.trans (ext_extN eN)) q
    rw [hc0]
    exact I4
  · exact wpAny_pure ⟨v, rfl, x, H', back J hb, rv, hQ⟩
  · refine wpAny_pure ⟨.none, rfl, .non, H', ?_, rfl, hQ⟩
    have J2 := back J (x := .finished) rfl
    exact J2.kept (t' := s₁.toks) hk2
end
/-! ### to be read step by step -/
theorem rd_gnx {P : Addr} {q : Str} {wi : TDI} {tg : Tg} {own : List Nat} {tt : TDT} {te : TDE} {δ : DS} {g : DG} {Q : DV → DG → Prop} (h : wi δ g fun ds g1 => (∃ T, TbG T g1 ∧ g1 P = some (.tbl q)) ∧ dFind tg own tt te δ ds g1 Q) : dNx P q wi tg own tt te δ g Q := h
theorem rd_gnxK {P : Addr} {q : Str} {T : List (Addr × Str)} {g : DG} {B : Prop} (h : TbG T g) (hP : g P = some (.tbl q)) (k : B) : (∃ T, TbG T g ∧ g P = some (.tbl q)) ∧ B := ⟨⟨T, h, hP⟩, k⟩
/-- the items are f's of plain things; the test keeps the heap and tells p -/
theorem find_first {α : Type} {tg : Tg} {own : List Nat} {tt : TDT} {te : TDE} {δ : DS} {g : DG} {Q : DV → DG → Prop} (f r : α → DV) (p : α → Bool) : ∀ (xs : List α),
    (∀ x ∈ xs, ∃ δ2, bindT tg (f x) (wipeD δ own) = some δ2 ∧ ∀ R : Bool → DG → Prop, R (p x) g → tt δ2 g R) → (∀ x ∈ xs, p x = true → ∀ δ2, bindT tg (f x) (wipeD δ own) = some δ2 → Q (r x) g → te δ2 g Q) →
    Q ((xs.find? p).elim .non r) g → dFind tg own tt te δ (xs.map f) g Q
  | [], _, _, h => h
  | x :: xs, h1, h2, h => by
    obtain ⟨δ2, e, ht⟩ := h1 x List.mem_cons_self
    show (match bindT tg (f x) (wipeD δ own) with
      | some δ2 => tt δ2 g fun b g3 => if b = true then te δ2 g3 Q else dFind tg own tt te δ (xs.map f) g3 Q
      | none => False)
    rw [e]
    refine ht _ ?_
    rw [List.find?_cons] at h
    cases hp : p x with
    | true =>
      rw [hp] at h
      rw [if_pos rfl]
      exact h2 x List.mem_cons_self hp δ2 e h
    | false =>
      rw [hp] at h
      rw [if_neg Bool.false_ne_true]
      exact find_first f r p xs (fun y hy => h1 y (List.mem_cons_of_mem _ hy)) (fun y hy => h2 y (List.mem_cons_of_mem _ hy)) h
end DL

/-! Deep layer XT: the end of a law whose defs make lambdas: the tables of their code objects are tracked from the start. By the road of the kit's end with tables. -/
namespace DL
open PySem PySem.Spec PyProof.Rows L2 LamX
/-- what stands at the law's entry: the part, the names, the tables of the makers, the script at a -/
structure AtTop (K : PySem.W.Frag) (mg mb : Str → Option Value) (s : Shared) (cs : List (Addr × Addr)) (a : Addr) (vs : List Value) : Prop where
  kin : K.In s.heap
  glob : s.heap.Ns mainGlobals mg
  blt : s.heap.Ns builtinsNs mb
  boot : ∀ x : Str, x ≠ "__name__" → mb x = bootBuiltins x
  lim : s.heap.NoLimit
  gens : s.gens = #[]
  code : ∀ p ∈ cs, PySem.W.CodeHd s.heap p.1 p.2 ∧ s.heap.get? p.2 = some { cls := .none, data := .fields #[] } ∧ K.lookup p.2 = none
  bmod : ∃ (bm : Addr) (ob : Obj), mg "__builtins__" = some (.ref bm) ∧ bm ≠ builtinsNs ∧ s.heap.get? bm = some ob ∧ ob.cls = .type "module" ∧ ob.dict = some builtinsNs ∧ ob.data = .plain
  scr : s.heap.get? a = some { cls := .type "list", data := .seq vs.toArray }
/-- what may be tracked there: the tables, and the script where the part does not bear it -/
structure Tracks (K : PySem.W.Frag) (cs : List (Addr × Addr)) (a : Addr) (H : Hp) : Prop where
  tb : ∀ p ∈ cs, H p.2 = some (.tbl #[])
  only : ∀ b, H b = none ∨ b ∈ cs.map (·.2) ∨ ∃ o xs, H b = some (.frz o (.lst xs))
  at_ : ∀ b, H b ≠ none → b = a ∨ b ∈ cs.map (·.2)
  free : H a ≠ none → K.lookup a = none
section
variable {P : Program} {w : World} {K : PySem.W.Frag} {mg mb : Str → Option Value} {s : Shared} {cs : List (Addr × Addr)} {a : Addr} {vs : List Value} {H : Hp}
theorem AtTop.tab (D : AtTop K mg mb s cs a vs) {b : Addr} (hb : b ∈ cs.map (·.2)) : s.heap.get? b = some { cls := .none, data := .fields #[] } ∧ K.lookup b = none := by
  obtain ⟨p, hp, rfl⟩ := List.mem_map.mp hb
  exact (D.code p hp).2
theorem AtTop.apart (D : AtTop K mg mb s cs a vs) : a ∉ cs.map (·.2) := fun z => by
  have q := (D.tab z).1.symm.trans D.scr
  injection q with q
  injection q with _ _ q
  cases q
/-- an object that is neither a list nor an empty table is not tracked -/
theorem Tracks.off (T : Tracks K cs a H) (D : AtTop K mg mb s cs a vs) {b : Addr} {o : Obj} (e : s.heap.get? b = some o) (h1 : ∀ us n, o.data ≠ .seq us n) (h2 : o.data ≠ .fields #[]) : H b = none := by
  by_cases q : H b = none
  · exact q
  rcases T.at_ b q with z | z
  · subst z
    cases e.symm.trans D.scr
    exact absurd rfl (h1 _ _)
  · cases e.symm.trans (D.tab z).1
    exact absurd rfl h2
theorem Tracks.ns (T : Tracks K cs a H) (D : AtTop K mg mb s cs a vs) {b : Addr} {m : Str → Option Value} : s.heap.Ns b m → (hidT s.heap H).Ns b m := fun ⟨o, es, ep, e, d, r⟩ =>
  ⟨o, es, ep, hidT_get e (T.off D e (fun us n z => by rw [d] at z; cases z) fun z => by rw [d] at z; cases z), d, r⟩
theorem Tracks.kin (T : Tracks K cs a H) (D : AtTop K mg mb s cs a vs) : K.In (hidT s.heap H) := fun b o e => by
  refine hidT_get (D.kin b o e) ?_
  by_cases q : H b = none
  · exact q
  rcases T.at_ b q with z | z
  · subst z
    rw [T.free q] at e
    cases e
  · rw [(D.tab z).2] at e
    cases e
theorem Tracks.mod (T : Tracks K cs a H) (D : AtTop K mg mb s cs a vs) : L2.Mod K mg (hidT s.heap H) :=
  ⟨T.kin D, T.ns D D.glob, ⟨mb, T.ns D D.blt, D.boot⟩, by obtain ⟨mc, h1, h2⟩ := D.lim; exact ⟨mc, T.ns D h1, h2⟩⟩
/-- what the making of a lambda asks, told under the tracked things -/
theorem Tracks.tabB (T : Tracks K cs a H) (D : AtTop K mg mb s cs a vs) {p : Addr × Addr} (hp : p ∈ cs) : TabB (hidT s.heap H) mg p.1 p.2 := by
  obtain ⟨hc, ht, _⟩ := D.code p hp
  have nd : ∀ {b : Addr} {m : Str → Option Value}, s.heap.Ns b m → b ≠ p.2 := fun ⟨o, es, ep, e, d, _⟩ z => by
    subst z
    cases e.symm.trans ht
    cases d
  refine ⟨?_, ?_, nd D.glob⟩
  · obtain ⟨o, us, file, tf, flags, tg, inF, text, tt, e1, r1, r2, r3, rest⟩ := hc
    refine ⟨o, us, file, tf, flags, tg, inF, text, tt, hidT_get e1 (T.off D e1 (fun ys n z => by rw [r2] at z; cases z) fun z => ?_), r1, r2, r3, rest⟩
    rw [r2] at z
    cases z
    simp at r3
  · obtain ⟨bm, ob, b1, b2, b3, b4, b5, b6⟩ := D.bmod
    have hx : bm ≠ mainGlobals ∧ bm ≠ p.2 := by
      constructor
      · intro z
        obtain ⟨o, es, ep, e, d, _⟩ := D.glob
        rw [← z] at e
        cases e.symm.trans b3
        rw [b6] at d
        cases d
      · intro z
        rw [z] at b3
        cases b3.symm.trans ht
        cases b6
    exact ⟨bm, ob, b1, b2, hx.1, hx.2, hidT_get b3 (T.off D b3 (fun ys n z => by rw [b6] at z; cases z) fun z => by rw [b6] at z; cases z), b4, b5, b6⟩
theorem Tracks.env (T : Tracks K cs a H) (D : AtTop K mg mb s cs a vs) (hok : HOk P w H s.heap) : Env0 P w K mg (hidT s.heap H) callerA [] s H :=
  ⟨rfl, T.mod D, fun b o e => of_hidT e, Nat.le_of_eq (hidT_size _ _), trivial, fun b hb => absurd (show b ∈ ([] : List Addr) from hb) (by simp), hok, .of_eq D.gens⟩
/-- all that stood there stands there still, the tables but grown -/
theorem Tracks.kept (T : Tracks K cs a H) (D : AtTop K mg mb s cs a vs) (hok : HOk P w H s.heap) {H' : Hp} {s' : Shared} (hok' : HOk P w H' s'.heap) (keep : ∀ b o, H b = none → s.heap.get? b = some o → s'.heap.get? b = some o)
    (frzs : ∀ b o xs, H b = some (.frz o xs) → H' b = some (.frz o xs)) (tbls : ∀ b ps, H b = some (.tbl ps) → ∃ more, H' b = some (.tbl (ps ++ more))) : OldK s.heap s'.heap := by
  have grown : ∀ b ∈ cs.map (·.2), ∃ more : Array Value, s'.heap.get? b = some { cls := .none, data := .fields more } := fun b hb => by
    obtain ⟨p, hp, rfl⟩ := List.mem_map.mp hb
    obtain ⟨more, z⟩ := tbls _ _ (T.tb p hp)
    exact ⟨_, hok' _ _ z⟩
  have same : ∀ b o, b ∉ cs.map (·.2) → s.heap.get? b = some o → s'.heap.get? b = some o := fun b o nb e => by
    rcases T.only b with q | q | ⟨o2, xs, q⟩
    · exact keep b o q e
    · exact absurd q nb
    · cases e.symm.trans (hok b _ q).1
      exact (hok' b _ (frzs b _ _ q)).1
  refine ⟨fun b o e => ?_, fun b o e => ?_⟩ <;> by_cases hb : b ∈ cs.map (·.2)
  · obtain ⟨p, hp, rfl⟩ := List.mem_map.mp hb
    obtain ⟨more, hm⟩ := grown _ hb
    obtain ⟨hc, ht, _⟩ := D.code p hp
    cases e.symm.trans ht
    exact .inr (.inl ⟨(hc.tab ht).isCodeTable, rfl, #[], more, rfl, by rw [Array.empty_append]; exact hm⟩)
  · exact .inl (same b o hb e)
  · obtain ⟨more, hm⟩ := grown _ hb
    exact ⟨_, hm⟩
  · exact ⟨o, same b o hb e⟩
/-- the tables alone -/
def hpT (cs : List (Addr × Addr)) : Hp := fun b => if b ∈ cs.map (·.2) then some (.tbl #[]) else none
theorem hpT_in {b : Addr} (h : b ∈ cs.map (·.2)) : hpT cs b = some (.tbl #[]) := if_pos h
theorem hpT_out {b : Addr} (h : b ∉ cs.map (·.2)) : hpT cs b = none := if_neg h
/-- where the script's list lies in the part, the tables alone are tracked; else the list, too -/
theorem AtTop.start (D : AtTop K mg mb s cs a vs) {ns : List Int} (hi : IntsAre vs ns) (hl : ns.length ≤ sizeLine) : ∃ H : Hp, Tracks K cs a H ∧ HOk P w H s.heap ∧ SqL K H a (ns.map V.int) := by
  have rv := vals_ints hi
  have len := hi.length
  have mem : ∀ p ∈ cs, p.2 ∈ cs.map (·.2) := fun p hp => List.mem_map.mpr ⟨p, hp, rfl⟩
  have dec : ∀ b, (b ∈ cs.map (·.2) ∧ hpT cs b = some (.tbl #[])) ∨ hpT cs b = none := fun b => by
    by_cases hb : b ∈ cs.map (·.2)
    · exact .inl ⟨hb, hpT_in hb⟩
    · exact .inr (hpT_out hb)
  cases hk : K.lookup a with
  | some o =>
    cases (D.kin a o hk).symm.trans D.scr
    refine ⟨hpT cs, ⟨fun p hp => hpT_in (mem p hp), fun b => ?_, fun b q => ?_, fun q => absurd (hpT_out D.apart) q⟩, fun b u q => ?_, .inr ⟨_, vs.toArray, _, hk, rfl, rfl, rfl, by rw [List.size_toArray, len]; exact hl, by simpa using rv⟩⟩
    · rcases dec b with z | z
      · exact .inr (.inl z.1)
      · exact .inl z
    · rcases dec b with z | z
      · exact .inr z.1
      · exact absurd z q
    · rcases dec b with z | z
      · cases z.2.symm.trans q
        exact (D.tab z.1).1
      · cases z.symm.trans q
  | none =>
    have at1 : upd (hpT cs) a (.frz { cls := .type "list", data := .seq vs.toArray } (.lst (ns.map V.int))) a = some (.frz { cls := .type "list", data := .seq vs.toArray } (.lst (ns.map V.int))) := upd_same
    have at2 : ∀ {b : Addr}, b ≠ a → upd (hpT cs) a (.frz { cls := .type "list", data := .seq vs.toArray } (.lst (ns.map V.int))) b = hpT cs b := fun h => upd_ne h
    refine ⟨upd (hpT cs) a (.frz { cls := .type "list", data := .seq vs.toArray } (.lst (ns.map V.int))), ⟨fun p hp => ?_, fun b => ?_, fun b q => ?_, fun _ => hk⟩, fun b u q => ?_, .inl (.inr ⟨_, at1⟩)⟩
    · rw [at2 fun z => D.apart (by rw [← z]; exact mem p hp)]
      exact hpT_in (mem p hp)
    · by_cases hb : b = a
      · rw [hb, at1]
        exact .inr (.inr ⟨_, _, rfl⟩)
      · rw [at2 hb]
        rcases dec b with z | z
        · exact .inr (.inl z.1)
        · exact .inl z
    · by_cases hb : b = a
      · exact .inl hb
      · rw [at2 hb] at q
        rcases dec b with z | z
        · exact .inr z.1
        · exact absurd z q
    · by_cases hb : b = a
      · rw [hb, at1] at q
        cases q
        rw [hb]
        exact ⟨D.scr, by rw [List.length_map]; exact hl, vs, _, rv, D.scr⟩
      · rw [at2 hb] at q
        rcases dec b with z | z
        · cases z.2.symm.trans q
          exact (D.tab z.1).1
        · cases z.symm.trans q
/-- the law's def, called at the top -/
theorem law_callG {k : Nat} {fa : Addr} {fd : FuncData} {x : Str} {sp : Sp} {ns : List Int} (D : AtTop K mg mb s cs a vs) (hi : IntsAre vs ns) (hl : ns.length ≤ sizeLine) (hr : Room k callerA)
    (F : ∀ base : Heap, K.In base → base.Ns mainGlobals mg → (∀ p ∈ cs, TabB base mg p.1 p.2) → FnG P w K mg base k fa fd [x] sp) (hbind : ∀ (s : Shared) (u : Value), BindsTo s fd ⟨[u], []⟩ [(x, u)])
    (hsp : ∀ H : Hp, (∀ p ∈ cs, H p.2 = some (.tbl #[])) → (∀ b, H b = none ∨ b ∈ cs.map (·.2) ∨ ∃ o xs, H b = some (.frz o (.lst xs))) → SqL K H a (ns.map V.int) → sp [.ref a] H (fun v _ => v = .bl true) fun _ _ _ => False) :
    codeAny (model P w) callerA (.call (.ref fa) ⟨[.ref a], []⟩) (fun r s' => r = .ok (.ret (.bool true)) ∧ OldK s.heap s'.heap ∧ s'.os = s.os ∧ AllBare s'.gens) s := by
  obtain ⟨H, T, hok, hs⟩ := D.start (P := P) (w := w) hi hl
  have G := F (hidT s.heap H) (T.kin D) (T.ns D D.glob) fun p hp => T.tabB D hp
  refine codeAny_mono (G.run callerA [] s H ⟨[.ref a], []⟩ [.ref a] [.ref a] _ (fun _ _ _ => False) hr rfl (T.env D hok) (hbind s (.ref a)) (.cons rfl .nil) (hsp H T.tb T.only hs)) fun r s' h => ?_
  match r, h with
  | .error _, h => exact (show False from h).elim
  | .ok .next, h => exact False.elim h
  | .ok .brk, h => exact False.elim h
  | .ok .cont, h => exact False.elim h
  | .ok (.ret u), h =>
    obtain ⟨v, H', os, bare, un, hok', r', q⟩ := h
    have q' : v = .bl true := q
    subst q'
    obtain rfl : u = Value.bool true := r'
    exact ⟨rfl, T.kept D hok hok' (fun b o n e => un.keep b o e n (by intro z; exact absurd (show b ∈ ([] : List Addr) from z) (by simp)) (by simp)) (fun b o xs z => un.frzs b o xs z) (fun b ps z => un.tbls b ps z), os, bare⟩
end
/-- what is known of the law's promise at the head's heap -/
def LawAtG (l : PySem.W.OpenLaw) (w : World) (K : PySem.W.Frag) (k n : Nat) (x : Str) (mg : Str → Option Value) (fa : Addr) (h : Heap) : Prop :=
  ∃ (fd : FuncData) (cs : List (Addr × Addr)) (sp : Sp), (∀ p ∈ cs, PySem.W.CodeHd h p.1 p.2 ∧ h.get? p.2 = some { cls := .none, data := .fields #[] } ∧ K.lookup p.2 = none) ∧ (∀ (s : Shared) (u : Value), BindsTo s fd ⟨[u], []⟩ [(x, u)]) ∧
    (∀ (H : Hp) (a : Addr) (ns : List Int), ns.length ≤ n → (∀ p ∈ cs, H p.2 = some (.tbl #[])) → (∀ b, H b = none ∨ b ∈ cs.map (·.2) ∨ ∃ o xs, H b = some (.frz o (.lst xs))) → SqL K H a (ns.map V.int) → sp [.ref a] H (fun v _ => v = .bl true) fun _ _ _ => False) ∧
    ∀ base : Heap, K.In base → base.Ns mainGlobals mg → (∀ p ∈ cs, TabB base mg p.1 p.2) → FnG l.prog w K mg base k fa fd [x] sp
theorem walk_ofG {l : PySem.W.OpenLaw} {n k : Nat} {q : Program} {loose : List Str} {XP : (Str → Option Value) → Heap → Prop} {YP : World → Heap → Prop} {d : DefRec} {K : Params → PySem.W.Frag} {x : Str}
    (hn : l.most = some n) (hn2 : n ≤ sizeLine) (hdf : d.params.defaults = []) (hr : Room k callerA) (hY : ∀ (w : World) (h : Heap), YP w h → (K w.params).In h)
    (F : ∀ (w : World) (mg : Str → Option Value) (fa : Addr) (h : Heap), (K w.params).In h → h.Ns mainGlobals mg → mg d.name = some (.ref fa) →
      (∀ (y : Str) (c P : Addr), ((recsOf q).find? fun e => e.name == y).isSome = true → PySem.W.tabIn (K w.params) y = some (c, P) → PySem.W.CodeHd h c P ∧ h.get? P = some { cls := .none, data := .fields #[] }) → LawAtG l w (K w.params) k n x mg fa h) :
    PySem.W.WalkO q loose XP YP l.row.toRowW d [] (fun f vs => PySem.call f vs) := by
  refine Att.attach_callB hn hdf fun w s₀ s₁ mg mb fa o pm cd doc a vs ns G Y ho hd hcd hmg hobj hints hlen hbits hg => ?_
  have KX := hY w _ Y
  obtain ⟨fd, cs, sp, hT, hb, hsp, hF⟩ := F w mg fa _ KX G.T.g hmg fun y c P hf ht => by
    obtain ⟨d2, e⟩ := Option.isSome_iff_exists.mp hf
    exact PySem.W.tab_of G.T KX e ht
  exact law_callG ⟨KX, G.T.g, G.T.b, G.T.builtins, G.T.nolimit, hg, hT, G.T.bmain, hobj⟩ hints (Nat.le_trans hlen hn2) hr hF hb fun H hH hO hS => hsp H a ns hlen hH hO hS
/-- the tables, as g tells of them -/
def gT (T : List (Addr × Str)) : DG := fun a => (T.find? fun p => p.1 == a).map fun p => .tbl p.2
theorem gT_tb : ∀ {T : List (Addr × Str)}, (T.map (·.1)).Nodup → TbG T (gT T)
  | [], _ => ⟨fun p hp => (List.not_mem_nil hp).elim, fun a q e => by cases e⟩
  | t :: T, h => by
    rw [List.map_cons, List.nodup_cons] at h
    have ih := gT_tb h.2
    have at_ : ∀ a, gT (t :: T) a = if t.1 = a then some (.tbl t.2) else gT T a := fun a => by
      unfold gT
      rw [List.find?_cons]
      by_cases c : t.1 = a
      · have : (t.1 == a) = true := by simpa using c
        rw [this, if_pos c]
        rfl
      · have : (t.1 == a) = false := by simpa using c
        rw [this, if_neg c]
    refine ⟨fun p hp => ?_, fun a q e => ?_⟩
    · rw [at_]
      rcases List.mem_cons.mp hp with z | z
      · rw [z, if_pos rfl]
      · rw [if_neg (fun (y : t.1 = p.1) => h.1 (by rw [y]; exact List.mem_map.mpr ⟨p, z, rfl⟩))]
        exact ih.all p z
    · rw [at_] at e
      by_cases c : t.1 = a
      · rw [if_pos c] at e
        injection e with e
        injection e with e
        subst c e
        exact List.mem_cons_self
      · rw [if_neg c] at e
        exact List.mem_cons_of_mem _ (ih.only a q e)
theorem law_startG {K : Fg} {sp : SpD} {H : Hp} {a : Addr} {ns : List Int} {T : List (Addr × Str)} (hT : ∀ p ∈ T, H p.1 = some (.tbl #[])) (hO : ∀ b, H b = none ∨ b ∈ T.map (·.1) ∨ ∃ o xs, H b = some (.frz o (.lst xs))) (hS : SqL K H a (ns.map V.int)) (nd : (T.map (·.1)).Nodup) (h : sp [.scr ns] (gT T) fun d _ => d = .bl true) :
    upSp K sp [.ref a] H (fun v _ => v = .bl true) fun _ _ _ => False := by
  have tb := gT_tb nd
  have sc : ScL K H a ns := by
    rcases hS with (h | h) | h
    · rcases hO a with e | e | ⟨o, xs, e⟩
      · rw [h] at e; cases e
      · obtain ⟨p, hp, rfl⟩ := List.mem_map.mp e
        rw [hT p hp] at h; cases h
      · rw [h] at e; cases e
    · exact .inl h
    · exact .inr h
  refine ⟨[.scr ns], gT T, _, .cons (.scr sc) .nil, fun b o e => ?_, h, fun d g' v H' _ _ r e => ?_⟩
  · cases o with
    | tbl q => exact TabS.nil (hT (b, q) (tb.only b q e))
    | _ =>
      unfold gT at e
      obtain ⟨p, _, z⟩ := Option.map_eq_some_iff.mp e
      cases z
  · subst e
    cases r
    rfl
/-- the law's promise, from the facts of its top -/
theorem law_endG {l : PySem.W.OpenLaw} {w : World} {K : Fg} {h : Heap} {mg : Str → Option Value} {f c : Addr} {fd : FuncData} {k n : Nat} {nm x : Str} {st : Stmt} {sp : SpD} (cs : List (Addr × Addr)) (T : List (Addr × Str)) (_ : DfnC K mg nm st [x] f fd c)
    (b : ∀ (s : Shared) (v : Value), BindsTo s fd ⟨[v], []⟩ [(x, v)]) (hcs : ∀ p ∈ cs, PySem.W.CodeHd h p.1 p.2 ∧ h.get? p.2 = some { cls := .none, data := .fields #[] } ∧ K.lookup p.2 = none) (hm : T.map (·.1) = cs.map (·.2)) (nd : (T.map (·.1)).Nodup)
    (h0 : ∀ ns : List Int, TbG T (gT T) → sp [.scr ns] (gT T) fun d _ => d = .bl true) (F : ∀ base : Heap, K.In base → base.Ns mainGlobals mg → (∀ p ∈ cs, TabB base mg p.1 p.2) → FnG l.prog w K mg base k f fd [x] (upSp K sp)) : LawAtG l w K k n x mg f h :=
  ⟨fd, cs, _, hcs, b, fun H a ns _ hT hO hS => law_startG (T := T) (fun p hp => by
      have : p.1 ∈ cs.map (·.2) := by rw [← hm]; exact List.mem_map.mpr ⟨p, hp, rfl⟩
      obtain ⟨e, he, ee⟩ := List.mem_map.mp this
      rw [← ee]
      exact hT e he) (fun b => by rw [hm]; exact hO b) hS nd (h0 ns (gT_tb nd)), F⟩
end DL

/-! k14: the readings' maps. -/
namespace DL
open PySem L2
/-- the numbers of a tuple -/
def ofT : DV → List Int
  | .tup ds => ds.map fun d => match d with | .int i => i | _ => 0
  | _ => []
theorem ofT_tI (m : List Int) : ofT (tI m) = m := by
  show (m.map DV.int).map _ = m
  rw [List.map_map]
  exact (List.map_congr_left fun x _ => rfl).trans (List.map_id m)
theorem en_ints14 (m : List Int) : enD (m.map DV.int) = (List.range m.length).map fun (i : Nat) => DV.tup [.int (i : Int), .int (m.getD i 0)] := by
  have hl : (enD (m.map DV.int)).length = m.length := by
    unfold enD
    rw [zipD_len, rangeD_len, List.length_map, Nat.min_self]
  refine List.ext_getElem? fun i => ?_
  by_cases hi : i < m.length
  · rw [List.getElem?_map, List.getElem?_range hi]
    have h1 : i < (enD (m.map DV.int)).length := by omega
    rw [List.getElem?_eq_getElem h1]
    obtain ⟨x, y, e1, e2, e3⟩ := zipD_get (List.getElem?_eq_getElem h1)
    obtain ⟨_, ex⟩ := rangeD_at e1
    rw [List.getElem?_map] at e2
    obtain ⟨z, ez, ey⟩ := Option.map_eq_some_iff.mp e2
    have eg : m.getD i 0 = z := by rw [List.getD_eq_getElem?_getD, ez]; rfl
    rw [show (enD (m.map DV.int))[i] = DV.tup [x, y] from e3, ex, ← ey]
    show _ = some (DV.tup [.int (i : Int), .int (m.getD i 0)])
    rw [eg]
  · rw [List.getElem?_eq_none (by omega), List.getElem?_eq_none (by rw [List.length_map, List.length_range]; omega)]
theorem any_ints (i : Int) : ∀ s : List Int, ((s.map DV.int).any fun d => eqD d (.int i)) = decide (i ∈ s)
  | [] => rfl
  | x :: s => by
    rw [List.map_cons, List.any_cons, any_ints i s, eqD_int]
    by_cases h : x = i
    · subst h; simp
    · rw [decide_eq_false h, Bool.false_or]
      by_cases h2 : i ∈ s
      · rw [decide_eq_true h2, decide_eq_true (List.mem_cons_of_mem _ h2)]
      · rw [decide_eq_false h2, decide_eq_false (fun z => (List.mem_cons.mp z).elim (fun e => h e.symm) h2)]
/-- entry > 0 and place not in s -/
def freeD (s : List Int) : DV → Bool
  | .tup [.int i, .int e] => decide (0 < e) && !decide (i ∈ s)
  | _ => false
theorem freeD_at (s m : List Int) : ((enD (m.map DV.int)).any (freeD s)) = freeM s m := by
  rw [en_ints14, List.any_map]
  rfl
def ltLen (k : Int) : DV → Bool
  | .tup ds => decide ((ds.length : Int) < k)
  | _ => false
def eqLen (k : Int) : DV → Bool
  | .tup ds => decide ((ds.length : Int) = k)
  | _ => false
def endT (n : Int) : DV → DV
  | .tup ds => .tup (ds ++ [.int n])
  | d => d
theorem endT_tI (n : Int) (x : List Int) : endT n (tI x) = tI (x ++ [n]) := by
  show DV.tup (x.map DV.int ++ [.int n]) = .tup ((x ++ [n]).map DV.int)
  rw [List.map_append]; rfl
theorem fil_tIs {p : DV → Bool} {q : List Int → Bool} (h : ∀ x, p (tI x) = q x) (L : List (List Int)) : (L.map tI).filter p = (L.filter q).map tI := by
  rw [filter_map']
  congr 1
  exact List.filter_congr fun x _ => h x
theorem map_tIs {f : DV → DV} {q : List Int → List Int} (h : ∀ x, f (tI x) = tI (q x)) (L : List (List Int)) : (L.map tI).map f = (L.map q).map tI := by
  rw [List.map_map, List.map_map]
  exact List.map_congr_left fun x _ => h x
theorem setsK_D (k n : Nat) : (setsK k n).map tI ++ (((setsK k n).map tI).filter (ltLen (k : Int))).map (endT (n : Int)) = (setsK k (n + 1)).map tI := by
  rw [fil_tIs (q := fun s => decide (s.length < k)), map_tIs (q := fun s => s ++ [(n : Int)]) (endT_tI _), ← List.map_append]
  · rfl
  · intro x
    show decide (((x.map DV.int).length : Int) < k) = _
    rw [List.length_map]
    exact decide_eq_decide.mpr (by omega)
theorem setsE_D (n k : Nat) : (((setsK k n).map tI).filter (eqLen (k : Int))).map (fun d => d) = (setsE n k).map tI := by
  rw [List.map_id', fil_tIs (q := fun s => decide (s.length = k)), setsE_is]
  intro x
  show decide (((x.map DV.int).length : Int) = k) = _
  rw [List.length_map]
  exact decide_eq_decide.mpr (by omega)
theorem setsK_le {k n : Nat} (h : n ≤ 8) : (setsK k n).length ≤ 256 := Nat.le_trans setsK_len (Nat.le_trans (Nat.pow_le_pow_right (by decide) h) (by decide))
theorem setsK_each {k n : Nat} {x : List Int} (h : x ∈ setsK k n) : x.length ≤ n := by
  rw [setsK_is] at h
  exact sets_len_le (List.mem_filter.mp h).1
theorem fsK_step {n k : Nat} {M : List (List Int)} (h : (setsE n k).find? (freeB M) = none) : fsK n M (k + 1) = fsK n M k := by rw [fsK, h]; rfl
theorem fsK_hit {n k : Nat} {M : List (List Int)} {s : List Int} (h : (setsE n k).find? (freeB M) = some s) : fsK n M (k + 1) = some s := by rw [fsK, h]; rfl
/-! ### the law's side -/
theorem leastL_two (G : List (List Int)) : leastL (leastL G) = leastL G := (leastL_is (leastL G)).uniq (least_self (leastL_is G))
theorem pick123 {d : DV} (h : d ∈ [DV.int 1, .int 2, .int 3]) : ∃ t : Int, d = .int t ∧ 1 ≤ t ∧ t ≤ 3 := by
  simp only [List.mem_cons, List.not_mem_nil, or_false] at h
  rcases h with h | h | h
  · exact ⟨1, h, by decide, by decide⟩
  · exact ⟨2, h, by decide, by decide⟩
  · exact ⟨3, h, by decide, by decide⟩
theorem atI_last (s : List Int) (h : s ≠ []) : atI (s.map DV.int) (-1) = some (.int (s.getLast h)) := by
  have hl : 0 < s.length := List.length_pos_iff.mpr h
  have e : ixN (s.map DV.int).length (-1) = some (s.length - 1) := by
    unfold ixN
    rw [List.length_map]
    simp only [show ¬ (0 : Int) ≤ -1 by decide, if_false]
    first
      | (rw [if_pos (by omega)]; congr 1; omega)
      | (rw [if_neg (by omega)]; congr 1; omega)
      | (split <;> first | (congr 1; omega) | omega)
  unfold atI
  rw [e]
  show (s.map DV.int)[s.length - 1]? = _
  rw [List.getElem?_map, List.getElem?_eq_getElem (by omega), List.getLast_eq_getElem]
  rfl
def eF : List (List Int) := [[1, 1, 0, 0], [0, 1, 1, 0], [0, 0, 1, 1]]
def eF' : List (List Int) := [[0, 0, 1, 1], [0, 1, 1, 0], [1, 1, 0, 0]]
theorem eF_pr : Prods 4 8 eF := by unfold Prods eF; decide
theorem eF_is : leastL eF = eF' := leastL_eq (by decide +kernel)
def eH : List (List Int) := [[2, 0], [0, 3]]
theorem eF60 : Prods 4 60 eF' := by unfold Prods eF'; decide
theorem nil_is14 : leastL [] = [] := leastL_eq (by decide +kernel)
theorem nil_pr14 (n : Nat) (B : Int) : Prods n B [] := fun m hm => by cases hm
end DL

/-! k13: the row, the steady degree, the weight; the readings' maps. -/
namespace DL
open PySem L2
/-- the polynomial's value at d -/
def sv (n : Nat) (f : KF) (d : Int) : Int := svN n f 64 d
theorem svN_more {n : Nat} {f : KF} {d : Int} {N : Nat} (h : ∀ i, (64 : Int) ≤ i → f i = 0) (hN : 64 ≤ N) : svN n f N d = sv n f d :=
  sumTo_more (fun i hi => by rw [h i (by omega), Int.zero_mul]) hN
theorem sv_zero (n : Nat) {f : KF} (h : ∀ d, f d = 0) (d : Int) : sv n f d = 0 := sumTo_zero fun i _ => by rw [h, Int.zero_mul]
/-- in all letters as few as the dimension tells -/
theorem sv_form {n k : Nat} {f : KF} {v : Int} (h : GQ (n - k) f v) (hk : 1 ≤ k) (hn : k ≤ n) (hf : ∀ i, (64 : Int) ≤ i → f i = 0) : (∀ d, dwn (k - 1) (sv n f) d = v) ∧ ∀ d, dwn k (sv n f) d = 0 := by
  obtain ⟨Q, B, q1, q2, q3, q4⟩ := h
  have e : sv n f = fun d => sumTo (fun i => Q i * ph (k - 1) d i) (B + n + 65) := by
    funext d
    rw [← svN_more hf (N := B + n + 65) (by omega), svN_Q q1 q2 q3 (by omega) (by omega), show n - 1 - (n - k) = k - 1 by omega]
  have e2 : sumTo (fun i => Q i) (B + n + 65) = v := by rw [sumTo_more (B := B) (fun i hi => q2 i (by omega)) (by omega)]; exact q4
  rw [e]
  refine ⟨fun d => by rw [dwn_last, e2], fun d => ?_⟩
  have := dwn_past (Q := Q) (N := B + n + 65) (k - 1) d
  rwa [show k - 1 + 1 = k by omega] at this
theorem cn_bn {n : Nat} (n1 : 1 ≤ n) (j : Nat) : cn n j = bn (n - 1) ((j : Int) + (n - 1 : Nat)) := by
  unfold cn
  rw [show ((j : Int) + n - 1) = ((j + n - 1 : Nat) : Int) by omega, show ((n : Int) - 1) = ((n - 1 : Nat) : Int) by omega, mcComb_ch (by omega),
    show (j : Int) + ((n - 1 : Nat) : Int) = ((j + n - 1 : Nat) : Int) by omega, bn_nat]
theorem lc_ph {n : Nat} (n1 : 1 ≤ n) (f : KF) (D : Nat) : lc (cn n) f D = sumTo (fun i => f i * ph (n - 1) D i) (D + 1) := by
  unfold lc
  rw [show ((D : Int) + 1).toNat = D + 1 by omega]
  refine sumTo_congr fun i hi => ?_
  rw [show ((D : Int) - (i : Int)) = ((D - i : Nat) : Int) by omega, cn_bn n1]
  unfold ph
  rw [show ((D - i : Nat) : Int) = (D : Int) - i by omega]
/-- the counts agree with the polynomial from the last key's degree on -/
theorem lc_sv {n : Nat} (n1 : 1 ≤ n) {f : KF} {m : Int} (hf : ∀ d, m < d → f d = 0) (hm : m ≤ 63) {D : Nat} (hD : m - n + 1 ≤ D) : lc (cn n) f D = sv n f D := by
  rw [lc_ph n1]
  have z1 : ∀ i : Nat, D + 1 ≤ i → f i * ph (n - 1) D i = 0 := fun i hi => by
    by_cases c : m < i
    · rw [hf _ c, Int.zero_mul]
    · have : ph (n - 1) D i = 0 := by
        unfold ph
        rw [show (D : Int) - i + ((n - 1 : Nat) : Int) = ((D + (n - 1) - i : Nat) : Int) by omega, bn_nat, ch_big (by omega)]
        rfl
      rw [this, Int.mul_zero]
  have z2 : ∀ i : Nat, 64 ≤ i → f i * ph (n - 1) D i = 0 := fun i hi => by rw [hf _ (by omega), Int.zero_mul]
  show _ = sumTo (fun i => f i * ph (n - 1) D i) 64
  by_cases c : D + 1 ≤ 64
  · exact (sumTo_more z1 c).symm
  · exact sumTo_more z2 (by omega)
/-- the least degree from which on the counts are the polynomial's values -/
def IsSt (n : Nat) (f : KF) (s : Nat) : Prop := (∀ d : Nat, s ≤ d → lc (cn n) f d = sv n f d) ∧ (0 < s → lc (cn n) f ((s : Int) - 1) ≠ sv n f ((s : Int) - 1))
theorem IsSt.le {n : Nat} (n1 : 1 ≤ n) {f : KF} {m : Int} (hf : ∀ d, m < d → f d = 0) (hm : m ≤ 63) {s : Nat} (h : IsSt n f s) : (s : Int) ≤ max 0 (m - n + 1) := by
  by_cases c : s = 0
  · omega
  · refine Classical.byContradiction fun z => h.2 (by omega) ?_
    have := lc_sv n1 hf hm (D := s - 1) (by omega)
    rw [show ((s - 1 : Nat) : Int) = (s : Int) - 1 by omega] at this
    exact this
theorem IsSt.uniq {n : Nat} {f : KF} {s t : Nat} (h : IsSt n f s) (h' : IsSt n f t) : s = t := by
  have key : ∀ {s t : Nat}, IsSt n f s → IsSt n f t → ¬ s < t := fun {s t} h h' z => h'.2 (by omega) (by
    have := h.1 (t - 1) (by omega)
    rwa [show ((t - 1 : Nat) : Int) = (t : Int) - 1 by omega] at this)
  have := key h h'
  have := key h' h
  omega
/-! ### a lot's row and weight -/
def dimN (n : Nat) (M : List (List Int)) : Nat := (dimI n M).toNat
def rowI (n : Nat) (M : List (List Int)) : List Int := (List.range (dimN n M)).map fun j => dwn j (sv n (kp M)) 0
def wI (n : Nat) (M : List (List Int)) : Int := if 0 < dimI n M then dwn (dimN n M - 1) (sv n (kp M)) 0 else sumTo (fun (d : Nat) => lc (cn n) (kp M) d) 41
theorem dim_cases {n : Nat} {B : Int} {M : List (List Int)} (hp : Prods n B M) : (dimI n M = -1 ∧ ∀ d, kp M d = 0) ∨ ∃ s v, fsI n M = some s ∧ dimI n M = s.length ∧ s.length ≤ n ∧ 1 ≤ v ∧ GQ (n - s.length) (kp M) v := by
  cases e : fsI n M with
  | none =>
    refine .inl ⟨by unfold dimI; rw [e]; rfl, fun d => ?_⟩
    have h1 := fsI_none e [] (nil_sets n)
    rw [free_nil hp] at h1
    have h2 : List.replicate n 0 ∈ M := by simpa using h1
    exact kp_one (Nnn.of hp) h2 (fun y hy => (List.mem_replicate.mp hy).2) d
  | some s =>
    obtain ⟨v, v1, hv⟩ := dim_GQ (Nnn.of hp) e
    exact .inr ⟨s, v, rfl, by unfold dimI; rw [e]; rfl, sets_len_le (fsI_some e).1, v1, hv⟩
theorem dimN_le {n : Nat} {B : Int} {M : List (List Int)} (hp : Prods n B M) : dimN n M ≤ n := by
  unfold dimN
  rcases dim_cases hp with ⟨h, _⟩ | ⟨s, v, _, h, hn, _⟩ <;> omega
/-- the polynomial has fewer degrees than the dimension -/
theorem dwn_dim {n : Nat} {B : Int} {M : List (List Int)} (hp : Prods n B M) (hn : 1 ≤ n) (hf : ∀ i, (64 : Int) ≤ i → kp M i = 0) : ∀ x, dwn (dimN n M) (sv n (kp M)) x = 0 := by
  unfold dimN
  rcases dim_cases hp with ⟨h, h0⟩ | ⟨s, v, _, h, hs, _, hv⟩
  · rw [h]
    exact fun x => sv_zero n h0 x
  · rw [h, show ((s.length : Int)).toNat = s.length by omega]
    by_cases c : s.length = 0
    · rw [c]
      intro x
      obtain ⟨Q, A, q1, q2, q3, _⟩ := hv
      rw [c, Nat.sub_zero] at q3
      show sv n (kp M) x = 0
      rw [← svN_more hf (N := A + n + 65) (by omega)]
      exact svN_0 q1 q2 q3 hn (by omega) x
    · exact (sv_form hv (by omega) hs hf).2
theorem row_at {n : Nat} {B : Int} {M : List (List Int)} (hp : Prods n B M) (hn : 1 ≤ n) (hf : ∀ i, (64 : Int) ≤ i → kp M i = 0) (d : Int) : sv n (kp M) d = sumTo (fun j => dwn j (sv n (kp M)) 0 * bn j d) (dimN n M) :=
  newton _ _ (dwn_dim hp hn hf) d
/-- the weight is Q's value at 1 -/
theorem wI_Q {n : Nat} (n1 : 1 ≤ n) {M : List (List Int)} {v : Int} (hf : ∀ i, (40 : Int) < i → kp M i = 0) {k : Nat} (hk : k ≤ n) (hd : dimI n M = (k : Int)) (hv : GQ (n - k) (kp M) v) : wI n M = v := by
  have hf64 : ∀ i, (64 : Int) ≤ i → kp M i = 0 := fun i hi => hf i (by omega)
  unfold wI dimN
  rw [hd]
  by_cases c : 0 < (k : Int)
  · rw [if_pos c, show ((k : Int)).toNat = k by omega]
    exact (sv_form hv (by omega) hk hf64).1 0
  · rw [if_neg c]
    have k0 : k = 0 := by omega
    subst k0
    rw [Nat.sub_zero] at hv
    obtain ⟨Q, A, q1, q2, q3, q4⟩ := hv
    have hl : ∀ D : Nat, lc (cn n) (kp M) D = Q D := fun D => by
      rw [lc_ph n1]
      obtain ⟨c, rfl⟩ : ∃ c, n = c + 1 := ⟨n - 1, by omega⟩
      have := sums_0 q1 (D : Int) (D + 1) c fun c' hc' => by
        have : ph (c' + 1) D ((D + 1 : Nat) : Int) = 0 := by
          unfold ph
          rw [show (D : Int) - ((D + 1 : Nat) : Int) + ((c' + 1 : Nat) : Int) = (c' : Int) by omega, bn_nat, ch_big (by omega)]
          rfl
        rw [this, Int.mul_zero]
      rw [q3, show ((D + 1 : Nat) : Int) - 1 = D by omega] at this
      exact this
    have h0 : ∀ D : Nat, 41 ≤ D → Q D = 0 := fun D hD => by
      rw [← hl D, lc_sv n1 hf (by decide) (by omega), ← svN_more hf64 (N := A + n + 65) (by omega)]
      exact svN_0 q1 q2 q3 n1 (by omega) D
    rw [sumTo_congr (g := fun (d : Nat) => Q d) fun i _ => hl i, ← q4]
    rcases Nat.le_total 41 A with z | z
    · exact (sumTo_more h0 z).symm
    · exact sumTo_more (fun i hi => q2 i (by omega)) z
theorem wI_neg {n : Nat} (n1 : 1 ≤ n) {M : List (List Int)} (h : dimI n M = -1) (h0 : ∀ d, kp M d = 0) : wI n M = 0 := by
  unfold wI
  rw [h, if_neg (by decide)]
  exact sumTo_zero fun i _ => sumTo_zero fun j _ => by rw [h0, Int.zero_mul]
/-- the counts below the steady degree, where the row is empty -/
theorem wI_st {n : Nat} {B : Int} {M : List (List Int)} (hp : Prods n B M) (n1 : 1 ≤ n) (hf : ∀ i, (40 : Int) < i → kp M i = 0) (hd : ¬ 0 < dimI n M) {s : Nat} (hs : IsSt n (kp M) s) : sumTo (fun (d : Nat) => lc (cn n) (kp M) d) s = wI n M := by
  have hle := hs.le n1 hf (by decide)
  unfold wI
  rw [if_neg hd]
  refine (sumTo_more (fun i hi => ?_) (by omega)).symm
  rw [hs.1 i hi]
  have := dwn_dim hp n1 (fun i hi => hf i (by omega)) i
  unfold dimN at this
  rw [show (dimI n M).toNat = 0 by omega] at this
  exact this
theorem row_last {n : Nat} {M : List (List Int)} (hd : 0 < dimI n M) : (rowI n M)[dimN n M - 1]? = some (wI n M) := by
  unfold rowI wI
  rw [if_pos hd, List.getElem?_map, List.getElem?_range (by unfold dimN; omega)]
  rfl
theorem row_len (n : Nat) (M : List (List Int)) : (rowI n M).length = dimN n M := by unfold rowI; rw [List.length_map, List.length_range]
/-! ### sums over a dict's keys -/
theorem sum_keys {c : Int → Int} {f : KF} {ks : List Int} (nd : ks.Nodup) (h0 : ∀ k ∈ ks, 0 ≤ k ∧ k ≤ 63) (hs : ∀ d, d ∉ ks → f d = 0) : (ks.map fun k => f k * c k).sum = sumTo (fun i => f i * c i) 64 := by
  have h := lc_keys (c := fun x => c (63 - x)) nd (fun k hk => (h0 k hk).1) hs (D := 63)
  rw [List.filter_eq_self.mpr fun k hk => decide_eq_true (h0 k hk).2] at h
  unfold lc at h
  have e : (fun (d : Nat) => f d * c (63 - (63 - (d : Int)))) = fun (i : Nat) => f i * c i := by funext i; rw [show (63 : Int) - (63 - (i : Int)) = i by omega]
  have e2 : (fun (k : Int) => f k * c (63 - (63 - k))) = fun k => f k * c k := by funext i; rw [show (63 : Int) - (63 - i) = i by omega]
  dsimp only at h
  rw [e, e2] at h
  exact h
theorem sv_keys {n : Nat} {f : KF} {ks : List Int} (h : RepK ks f 40) (d : Int) : (ks.map fun k => f k * ph (n - 1) d k).sum = sv n f d :=
  sum_keys (c := ph (n - 1) d) h.nd (fun k hk => ⟨(h.bd k hk).1, by have := (h.bd k hk).2; omega⟩) h.out
/-! ### moved -/
theorem fac_is (k : Nat) : ((Builtin.Math.factorialNat k : Nat) : Int) = fac k := by
  induction k with
  | zero => rfl
  | succ k ih =>
    rw [PySem.W.mc_fac_succ]
    show _ = fac k * (k + 1)
    rw [← ih]
    push_cast
    rfl
theorem ff_abs {x : Int} (hx : x.natAbs ≤ 2 ^ 20) : ∀ k : Nat, k ≤ 1000 → (ff x k).natAbs ≤ 2 ^ (21 * k)
  | 0, _ => Nat.le_refl 1
  | k + 1, hk => by
    show (ff x k * (x - k)).natAbs ≤ _
    rw [Int.natAbs_mul, show 21 * (k + 1) = 21 * k + 21 by omega, Nat.pow_add]
    exact Nat.mul_le_mul (ff_abs hx k (by omega)) (by omega)
theorem bn_abs {x : Int} (hx : x.natAbs ≤ 2 ^ 20) {k : Nat} (hk : k ≤ 1000) : (bn k x).natAbs ≤ 2 ^ (21 * k) := by
  have h := ff_abs hx k hk
  rw [ff_bn, Int.natAbs_mul] at h
  have := fac_pos k
  refine Nat.le_trans ?_ h
  exact Nat.le_mul_of_pos_left _ (by omega)
theorem bn_next (k : Nat) (x : Int) : bn k x * (x - k) / ((k : Int) + 1) = bn (k + 1) x := by
  rw [Int.mul_comm, ← bn_step, Int.mul_ediv_cancel_left _ (by omega)]
/-! ### the readings' maps -/
def onI (F : Int → DV) : DV → DV
  | .int i => F i
  | d => d
theorem onI_range (F : Int → DV) (j : Nat) : (rangeD 0 j).map (onI F) = (List.range j).map fun (d : Nat) => F d := by
  refine List.ext_getElem (by rw [List.length_map, List.length_map, rangeD_len, List.length_range]) fun i h1 h2 => ?_
  rw [List.length_map, rangeD_len] at h1
  rw [List.getElem_map, List.getElem_map, List.getElem_range]
  obtain ⟨_, h4⟩ := rangeD_at (n := j) (j := i) (d := (rangeD 0 j)[i]'(by rw [rangeD_len]; exact h1)) (List.getElem?_eq_getElem _)
  rw [h4]
  rfl
def smD (n : Nat) : DV → DV
  | .tup [.int x, .int r] => .int (x * bn (n - 1) (r + (n - 1 : Nat)))
  | d => d
theorem sparts_map (f : KF) (D : Int) (ks : List Int) : (ks.map (itI f)).map (lfD D) = ks.map fun k => DV.tup [.int (f k), .int (D - k)] := by
  rw [List.map_map]
  rfl
theorem sterms_map (n : Nat) (f : KF) (D : Int) (ls : List Int) : (ls.map fun k => DV.tup [.int (f k), .int (D - k)]).map (smD n) = (ls.map fun k => f k * ph (n - 1) D k).map DV.int := by
  rw [List.map_map, List.map_map]
  rfl
def dfD : DV → DV
  | .tup [.int a, .int b] => .int (b - a)
  | d => d
/-- L values of the t-th differences from s on -/
def dwL (t : Nat) (g : KF) (s L : Nat) : List Int := (List.range L).map fun (j : Nat) => dwn t g ((s : Int) + j)
theorem dwL_len (t : Nat) (g : KF) (s L : Nat) : (dwL t g s L).length = L := by unfold dwL; rw [List.length_map, List.length_range]
theorem dwL_get {t : Nat} {g : KF} {s L j : Nat} (h : j < L) : (dwL t g s L)[j]? = some (dwn t g ((s : Int) + j)) := by
  unfold dwL
  rw [List.getElem?_map, List.getElem?_range h]
  rfl
theorem dwL_step (t : Nat) (g : KF) (s L : Nat) : (zipD ((dwL t g s L).map DV.int) (((dwL t g s L).map DV.int).drop 1)).map dfD = (dwL (t + 1) g s (L - 1)).map DV.int := by
  rw [← List.map_drop, zipW_map (fun x y => y - x) dfD fun i j => rfl]
  congr 1
  refine List.ext_getElem? fun i => ?_
  by_cases h : i < L - 1
  · rw [dwL_get h, List.getElem?_zipWith, dwL_get (by omega), List.getElem?_drop, dwL_get (by omega)]
    show some (dwn t g ((s : Int) + ((1 + i : Nat) : Int)) - dwn t g (s + i)) = some (dwn t g (s + i + 1) - dwn t g (s + i))
    rw [show (s : Int) + ((1 + i : Nat) : Int) = s + i + 1 by omega]
  · rw [List.getElem?_eq_none (by rw [List.length_zipWith, List.length_drop, dwL_len]; omega), List.getElem?_eq_none (by rw [dwL_len]; omega)]
/-! ### bounds -/
theorem sumTo_abs {f : Nat → Int} {B : Nat} : ∀ {N : Nat}, (∀ i < N, (f i).natAbs ≤ B) → (sumTo f N).natAbs ≤ N * B
  | 0, _ => by show (0 : Int).natAbs ≤ _; omega
  | N + 1, h => by
    show (sumTo f N + f N).natAbs ≤ _
    have h1 := sumTo_abs (N := N) fun i hi => h i (by omega)
    have h2 := h N (by omega)
    rw [Nat.succ_mul]
    omega
theorem sv_abs {n : Nat} (n8 : n ≤ 8) {f : KF} (hf : ∀ d, (f d).natAbs ≤ 2 ^ 24) {d : Int} (hd : d.natAbs ≤ 10000) : (sv n f d).natAbs ≤ 2 ^ 180 := by
  have h : (sv n f d).natAbs ≤ 64 * (2 ^ 24 * 2 ^ 147) := sumTo_abs fun i hi => by
    rw [Int.natAbs_mul]
    refine Nat.mul_le_mul (hf _) ?_
    exact Nat.le_trans (bn_abs (x := d - i + ((n - 1 : Nat) : Int)) (by omega) (by omega)) (Nat.pow_le_pow_right (by decide) (by omega))
  exact Nat.le_trans h (by decide)
theorem dwn_abs {g : KF} {C : Nat} : ∀ (j : Nat) {R : Nat}, (∀ x : Int, x.natAbs ≤ R + j → (g x).natAbs ≤ C) → ∀ x : Int, x.natAbs ≤ R → (dwn j g x).natAbs ≤ 2 ^ j * C
  | 0, R, h, x, hx => by rw [Nat.pow_zero, Nat.one_mul]; exact h x hx
  | j + 1, R, h, x, hx => by
    have h1 := dwn_abs j (R := R + 1) (fun x hx => h x (by omega)) (x + 1) (by omega)
    have h2 := dwn_abs j (R := R + 1) (fun x hx => h x (by omega)) x (by omega)
    show (dwn j g (x + 1) - dwn j g x).natAbs ≤ _
    rw [Nat.pow_succ, Nat.mul_right_comm]
    omega
theorem dws_abs {n : Nat} (n8 : n ≤ 8) {f : KF} (hf : ∀ d, (f d).natAbs ≤ 2 ^ 24) {j : Nat} (hj : j ≤ 8) {x : Int} (hx : x.natAbs ≤ 1000) : (dwn j (sv n f) x).natAbs ≤ 2 ^ 200 := by
  have := dwn_abs j (R := 1000) (C := 2 ^ 180) (fun y hy => sv_abs (d := y) n8 hf (by omega)) x hx
  have h2 : 2 ^ j * 2 ^ 180 ≤ 2 ^ 8 * 2 ^ 180 := Nat.mul_le_mul_right _ (Nat.pow_le_pow_right (by decide) hj)
  exact Nat.le_trans this (Nat.le_trans h2 (by decide))
/-! ### moved rows -/
def mvF (g : KF) (s l i : Nat) : Int := dwn (l + i) g s * (sg i * bn i ((i : Int) + s - 1))
def mvL (g : KF) (s m a b : Nat) : List Int := (List.range m).map fun l => sumTo (mvF g s l) (if l < b then a + 1 - l else a - l)
theorem mvL_len (g : KF) (s m a b : Nat) : (mvL g s m a b).length = m := by unfold mvL; rw [List.length_map, List.length_range]
theorem mvL_get {g : KF} {s m a b l : Nat} (h : l < m) : (mvL g s m a b)[l]? = some (sumTo (mvF g s l) (if l < b then a + 1 - l else a - l)) := by
  unfold mvL
  rw [List.getElem?_map, List.getElem?_range h]
  rfl
theorem mvL_0 (g : KF) (s m : Nat) : mvL g s m 0 0 = List.replicate m 0 := by
  refine List.ext_getElem? fun l => ?_
  by_cases h : l < m
  · rw [mvL_get h, List.getElem?_replicate, if_pos h, if_neg (by omega), Nat.zero_sub]
    rfl
  · rw [List.getElem?_eq_none (by rw [mvL_len]; omega), List.getElem?_eq_none (by rw [List.length_replicate]; omega)]
theorem mvL_up (g : KF) (s m a : Nat) : mvL g s m a (a + 1) = mvL g s m (a + 1) 0 := by
  refine List.ext_getElem? fun l => ?_
  by_cases h : l < m
  · rw [mvL_get h, mvL_get h, if_neg (show ¬ l < 0 by omega)]
    by_cases c : l < a + 1
    · rw [if_pos c]
    · rw [if_neg c, show a - l = 0 by omega, show a + 1 - l = 0 by omega]
  · rw [List.getElem?_eq_none (by rw [mvL_len]; omega), List.getElem?_eq_none (by rw [mvL_len]; omega)]
theorem mvL_set {g : KF} {s m a b : Nat} (hb : b ≤ a) (ha : a < m) : (mvL g s m a b).set b (sumTo (mvF g s b) (a - b) + mvF g s b (a - b)) = mvL g s m a (b + 1) := by
  refine List.ext_getElem? fun l => ?_
  by_cases h : l < m
  · rw [List.getElem?_set, mvL_get h]
    by_cases c : b = l
    · subst c
      rw [if_pos rfl, if_pos (by rw [mvL_len]; omega), mvL_get h, if_pos (by omega), show a + 1 - b = a - b + 1 by omega]
      rfl
    · rw [if_neg c, mvL_get h]
      by_cases z : l < b
      · rw [if_pos z, if_pos (by omega)]
      · rw [if_neg z, if_neg (by omega)]
  · rw [List.getElem?_eq_none (by rw [List.length_set, mvL_len]; omega), List.getElem?_eq_none (by rw [mvL_len]; omega)]
theorem mvL_end {g : KF} {m : Nat} (h : ∀ x, dwn m g x = 0) (s : Nat) : mvL g s m m 0 = (List.range m).map fun j => dwn j g 0 := by
  unfold mvL
  refine List.map_congr_left fun l hl => ?_
  rw [List.mem_range] at hl
  rw [moved_is h s (by omega), if_neg (by omega)]
  rfl
/-! ### a row of numbers divided by 1 - t -/
def preL (f : KF) (L : Nat) : List Int := (List.range L).map fun (i : Nat) => f i
theorem preL_len (f : KF) (L : Nat) : (preL f L).length = L := by unfold preL; rw [List.length_map, List.length_range]
theorem preL_get {f : KF} {L i : Nat} (h : i < L) : (preL f L)[i]? = some (f i) := by
  unfold preL
  rw [List.getElem?_map, List.getElem?_range h]
  rfl
theorem preL_succ (f : KF) (L : Nat) : preL f (L + 1) = preL f L ++ [f L] := by unfold preL; rw [List.range_succ, List.map_append]; rfl
theorem preL_sum (f : KF) (L : Nat) : (preL f L).sum = sumTo (fun i => f i) L := sum_range _ L
/-- a Q that stands still from A - 1 on and ends, is 0 there -/
theorem still_zero {Q : KF} {B : Nat} (h1 : ∀ d, (B : Int) ≤ d → Q d = 0) {A : Int} (h2 : ∀ d, A ≤ d → dl Q d = 0) : ∀ d, A - 1 ≤ d → Q d = 0 := by
  have key : ∀ (k : Nat) (d : Int), A - 1 ≤ d → (B : Int) ≤ d + k → Q d = 0 := fun k => by
    induction k with
    | zero => intro d _ h; exact h1 d (by omega)
    | succ k ih =>
      intro d hd hk
      have e := h2 (d + 1) (by omega)
      have e1 : Q (d + 1) - Q (d + 1 - 1) = 0 := e
      rw [show d + 1 - 1 = d by omega, ih (d + 1) (by omega) (by push_cast at hk; omega)] at e1
      omega
  intro d hd
  exact key (B + d.natAbs) d hd (by omega)
theorem fac_le : ∀ m : Nat, m ≤ 7 → fac m ≤ 5040 := by decide
/-! ### rows -/
theorem sv_range (n : Nat) (f : KF) (m : Nat) : ((List.range m).map fun (d : Nat) => DV.int (sv n f d)) = (dwL 0 (sv n f) 0 m).map DV.int := by
  unfold dwL
  rw [List.map_map]
  refine List.map_congr_left fun j _ => ?_
  show DV.int (sv n f j) = .int (sv n f (((0 : Nat) : Int) + j))
  rw [show ((0 : Nat) : Int) + (j : Int) = j by omega]
def rowL (g : KF) (s t : Nat) : List Int := (List.range t).map fun j => dwn j g s
theorem rowL_len (g : KF) (s t : Nat) : (rowL g s t).length = t := by unfold rowL; rw [List.length_map, List.length_range]
theorem rowL_succ (g : KF) (s t : Nat) : rowL g s (t + 1) = rowL g s t ++ [dwn t g s] := by unfold rowL; rw [List.range_succ, List.map_append]; rfl
theorem rowL_D (g : KF) (s t : Nat) : (rowL g s t).map DV.int ++ [.int (dwn t g s)] = (rowL g s (t + 1)).map DV.int := by rw [rowL_succ, List.map_append]; rfl
theorem rowL_get {g : KF} {s t j : Nat} (h : j < t) : (rowL g s t)[j]? = some (dwn j g s) := by
  unfold rowL
  rw [List.getElem?_map, List.getElem?_range h]
  rfl
theorem rowI_L (n : Nat) (M : List (List Int)) : rowI n M = rowL (sv n (kp M)) 0 (dimN n M) := rfl
theorem atI_dwL {t : Nat} {g : KF} {s L : Nat} (h : 0 < L) : atI ((dwL t g s L).map DV.int) 0 = some (.int (dwn t g s)) := by
  refine atI_nat (j := 0) ?_
  rw [List.getElem?_map, dwL_get h]
  show some (DV.int (dwn t g ((s : Int) + ((0 : Nat) : Int)))) = _
  rw [show (s : Int) + ((0 : Nat) : Int) = s by omega]
theorem atI_rowI {n : Nat} {M : List (List Int)} (h : 0 < dimI n M) : atI ((rowI n M).map DV.int) (-1) = some (.int (wI n M)) := by
  have hl := row_last h
  have h2 : rowI n M ≠ [] := fun z => by rw [z] at hl; cases hl
  rw [atI_last _ h2, List.getLast_eq_getElem]
  congr 2
  have h3 := row_len n M
  rw [← h3] at hl
  exact (List.getElem?_eq_some_iff.mp hl).2
/-! ### the law's lots -/
def eS : List (List Int) := [[2, 0], [1, 1], [0, 3]]
def eS' : List (List Int) := [[0, 3], [1, 1], [2, 0]]
theorem eS4 : Prods 2 4 eS := by unfold Prods eS; decide
theorem eS'4 : Prods 2 4 eS' := by unfold Prods eS'; decide
theorem eS_is : leastL eS = eS' := leastL_eq (by decide +kernel)
def eSf : KF := fun d => if d = 0 then 1 else if d = 2 then -2 else if d = 4 then 1 else 0
theorem eS_kp : kp eS' = eSf := by
  funext d
  unfold eS'
  rw [kp_cons, kp_cons, kp_cons, kp_nil]
  simp only [lsl, ls, List.map_cons, List.map_nil, List.zipWith_cons_cons, List.zipWith_nil_left]
  rw [kp_cons, kp_cons, kp_cons]
  simp only [lsl, ls, List.map_cons, List.map_nil, List.zipWith_cons_cons, List.zipWith_nil_left]
  rw [kp_cons]
  simp only [lsl, ls, List.map_cons, List.map_nil, List.zipWith_cons_cons, List.zipWith_nil_left, kp_nil, kz, eSf, List.sum_cons, List.sum_nil]
  omega
theorem eS_rep : RepK [0, 2, 4] eSf 40 := by
  refine ⟨by decide, by decide, fun d hd => ?_⟩
  simp only [List.mem_cons, List.not_mem_nil, or_false, not_or] at hd
  unfold eSf
  rw [if_neg hd.1, if_neg hd.2.1, if_neg hd.2.2]
theorem eS_dim : dimI 2 eS' = 0 := by decide +kernel
theorem eS_st {s : Nat} (h : IsSt 2 (kp eS') s) : s = 3 := by
  rw [eS_kp] at h
  have h1 := h.le (m := 4) (by decide) (fun d hd => eS_rep.out d (fun z => by simp only [List.mem_cons, List.not_mem_nil, or_false] at z; omega)) (by decide)
  refine Classical.byContradiction fun c => ?_
  have h2 := h.1 2 (by omega)
  rw [← sv_keys eS_rep] at h2
  revert h2
  decide +kernel
theorem eS_w (h : IsSt 2 (kp eS') 3) : wI 2 eS' = 4 := by
  rw [← wI_st eS'4 (by decide) (fun i hi => by rw [eS_kp]; exact eS_rep.out i fun z => by simp only [List.mem_cons, List.not_mem_nil, or_false] at z; omega) (by rw [eS_dim]; decide) h, eS_kp]
  decide +kernel
theorem eS_row : rowI 2 eS' = [] := by
  unfold rowI dimN
  rw [eS_dim]
  rfl
theorem eE_kp' : kp eF' = eEf := by rw [← eF_is]; exact eE_kp
theorem eF4 : Prods 4 4 eF' := by unfold Prods eF'; decide
theorem eF_dim : dimI 4 eF' = 2 := by decide +kernel
theorem eF_row : rowI 4 eF' = [1, 3] := by
  unfold rowI dimN
  rw [eF_dim, eE_kp']
  show [sv 4 eEf 0, sv 4 eEf (0 + 1) - sv 4 eEf 0] = _
  rw [← sv_keys eE_rep.rep, ← sv_keys eE_rep.rep]
  decide +kernel
theorem eF_w : wI 4 eF' = 3 := by
  have h := row_last (n := 4) (M := eF') (by rw [eF_dim]; decide)
  rw [eF_row] at h
  unfold dimN at h
  rw [eF_dim] at h
  exact (Option.some.inj h).symm
theorem eF_st {s : Nat} (h : IsSt 4 (kp eF') s) : s = 0 := by
  rw [eE_kp'] at h
  have h1 := h.le (m := 3) (by decide) (fun d hd => eE_rep.rep.out d (fun z => by simp only [List.mem_cons, List.not_mem_nil, or_false] at z; omega)) (by decide)
  omega
theorem nil_dim : dimI 2 [] = 2 := by decide +kernel
theorem nil_row : rowI 2 [] = [1, 1] := by
  unfold rowI dimN
  rw [nil_dim, kp_nil]
  show [sv 2 kz 0, sv 2 kz (0 + 1) - sv 2 kz 0] = _
  have hr : RepK [0] kz 40 := RepK.one.up (by decide)
  rw [← sv_keys hr, ← sv_keys hr]
  decide +kernel
def eZ : List (List Int) := [[0, 0]]
theorem eZ4 : Prods 2 4 eZ := by unfold Prods eZ; decide
theorem eZ_is : leastL eZ = eZ := leastL_eq (by decide +kernel)
theorem eZ_st {s : Nat} (h : IsSt 2 (kp eZ) s) : s = 0 := by
  have h1 := h.le (m := -5) (by decide) (fun d _ => kp_one (Nnn.of eZ4) (z := [0, 0]) (by decide) (by decide) d) (by decide)
  omega
/-! ### slices -/
theorem cutD_mid (ds : List DV) (a b : Nat) : cutD ds (some (a : Int)) (some (b : Int)) = (ds.drop a).take (min b ds.length - a) := by
  unfold cutD
  rw [HT.sIx_nat, HT.sIx_nat]
  by_cases h : a ≤ ds.length
  · rw [Nat.min_eq_left h]
  · rw [List.drop_eq_nil_of_le (i := min a ds.length) (by omega), List.drop_eq_nil_of_le (i := a) (by omega), List.take_nil, List.take_nil]
theorem cutD_init (ds : List DV) (h : 1 ≤ ds.length) : cutD ds none (some (-1)) = ds.take (ds.length - 1) := by
  unfold cutD
  show (ds.drop 0).take ((-1 + (ds.length : Int)).toNat - 0) = _
  rw [List.drop_zero]
  congr 1
  omega
theorem cutD_dr1 (ds : List DV) : cutD ds (some 1) none = ds.drop 1 := by
  unfold cutD
  rw [HT.sIx_none]
  show (ds.drop (min 1 ds.length)).take (ds.length - min 1 ds.length) = _
  by_cases h : 1 ≤ ds.length
  · rw [Nat.min_eq_left h]
    exact List.take_of_length_le (by rw [List.length_drop]; omega)
  · have : ds = [] := List.length_eq_zero_iff.mp (by omega)
    rw [this]; rfl
theorem counts_cut {cs : List Int} {g : KF} {s m : Nat} (h : ∀ i : Nat, s ≤ i → i < cs.length → cs.getD i 0 = g i) (hsm : s ≤ cs.length) : cutD (cs.map DV.int) (some (s : Int)) (some ((s + m + 1 : Nat) : Int)) = (dwL 0 g s (min (s + m + 1) cs.length - s)).map DV.int := by
  rw [cutD_mid, List.length_map, ← List.map_drop, ← List.map_take]
  congr 1
  refine List.ext_getElem? fun i => ?_
  by_cases c : i < min (s + m + 1) cs.length - s
  · have hi : s + i < cs.length := by omega
    rw [dwL_get c, List.getElem?_take, if_pos c, List.getElem?_drop, List.getElem?_eq_getElem hi]
    have := h (s + i) (by omega) hi
    rw [List.getD_eq_getElem?_getD, List.getElem?_eq_getElem hi] at this
    have e : cs[s + i] = g ((s + i : Nat) : Int) := this
    rw [e]
    show some (g _) = some (g _)
    congr 2
  · rw [List.getElem?_eq_none (by rw [List.length_take, List.length_drop]; omega), List.getElem?_eq_none (by rw [dwL_len]; omega)]
/-! ### the law's sums -/
def lawAt (d : Int) : DV → DV
  | .tup [.int i, .int x] => .int (x * bn i.toNat d)
  | z => z
theorem at_map (r : List Int) (d : Int) : (enD (r.map DV.int)).map (lawAt d) = ((List.range r.length).map fun j => r.getD j 0 * bn j d).map DV.int := by
  rw [en_ints14, List.map_map, List.map_map]
  refine List.map_congr_left fun j _ => ?_
  show DV.int (r.getD j 0 * bn ((j : Int)).toNat d) = .int _
  rw [Int.toNat_natCast]
theorem at_sum (r : List Int) (d : Int) : ((List.range r.length).map fun j => r.getD j 0 * bn j d).sum = sumTo (fun j => r.getD j 0 * bn j d) r.length := sum_range _ _
/-- the row's value is the polynomial's -/
theorem row_val {n : Nat} {B : Int} {M : List (List Int)} (hp : Prods n B M) (hn : 1 ≤ n) (hf : ∀ i, (64 : Int) ≤ i → kp M i = 0) (d : Int) : sumTo (fun j => (rowI n M).getD j 0 * bn j d) (rowI n M).length = sv n (kp M) d := by
  rw [row_at hp hn hf, row_len]
  refine sumTo_congr fun j hj => ?_
  rw [rowI_L, List.getD_eq_getElem?_getD, rowL_get hj]
  rfl
theorem max0_dim (n : Nat) (M : List (List Int)) : (if dimI n M > 0 then dimI n M else 0) = ((dimN n M : Nat) : Int) := by unfold dimN; split <;> omega
theorem dwL_nilE (t : Nat) (g : KF) (s L : Nat) : eqD (.lst ((dwL t g s L).map DV.int)) (.lst []) = decide (L = 0) := by
  rw [eqD_nilL]
  cases L with
  | zero => rfl
  | succ L =>
    rw [decide_eq_false (by omega)]
    unfold dwL
    rw [List.range_succ_eq_map]
    rfl
theorem lc_range (n : Nat) (f : KF) (s : Nat) : ((List.range s).map fun (d : Nat) => DV.int (lc (cn n) f d)) = ((List.range s).map fun (d : Nat) => lc (cn n) f d).map DV.int := by rw [List.map_map]; rfl
theorem rangeD_from {a : Int} {n i : Nat} {d : DV} (h : (rangeD a n)[i]? = some d) : i < n ∧ d = .int (a + (i : Int)) := by
  have hl := (List.getElem?_eq_some_iff.mp h).1
  have hl : i < n := by unfold rangeD at hl; rw [List.length_map, List.length_range] at hl; exact hl
  refine ⟨hl, ?_⟩
  unfold rangeD at h
  rw [List.getElem?_map, List.getElem?_range hl] at h
  exact (Option.some.inj h).symm
theorem atI_cnt {F : Nat → Int} {L d : Nat} (h : d < L) : atI ((List.range L).map fun (d : Nat) => DV.int (F d)) (d : Int) = some (.int (F d)) := by
  refine atI_nat ?_
  rw [List.getElem?_map, List.getElem?_range h]
  rfl
theorem row_bd {n : Nat} (n8 : n ≤ 8) {M : List (List Int)} (hl : M.length ≤ 24) (hd : dimN n M ≤ n) : ∀ x ∈ rowI n M, x.natAbs ≤ 2 ^ 1000 := fun x hx => by
  obtain ⟨j, hj, rfl⟩ := List.mem_map.mp hx
  rw [List.mem_range] at hj
  exact Nat.le_trans (dws_abs n8 (fun d => kp_abs 24 hl d) (by omega) (by decide)) (Nat.pow_le_pow_right (by decide) (by decide))
theorem rd_zipL13 {QA : List DV → DG → Prop} {ds es : List DV} {g : DG} (h : QA (zipD ds es) g) : one2 (fun x y g1 => match x, y with
  | .tup xs, .tup ys => QA (zipD xs ys) g1
  | .lst xs, .lst ys => QA (zipD xs ys) g1
  | .tpl xs, .tup ys => QA (zipD xs ys) g1
  | .tpl xs, .tpl ys => QA (zipD xs ys) g1
  | _, _ => False) [.lst ds, .lst es] g := h
/-- the branch that is gone on with stands once -/
theorem rd_itS {c : Bool} {A B : Prop} (hB : B) (h : c = true → B → A) : if c = true then A else B := by
  cases c with
  | true => rw [if_pos rfl]; exact h rfl hB
  | false => rw [if_neg Bool.false_ne_true]; exact hB
theorem zipI_mem {xs ys : List Int} {d : DV} (h : d ∈ zipD (xs.map DV.int) (ys.map DV.int)) : ∃ a b : Int, d = .tup [.int a, .int b] := by
  obtain ⟨i, hi⟩ := List.mem_iff_getElem?.mp h
  obtain ⟨x, y, e1, e2, e3⟩ := zipD_get hi
  obtain ⟨a, _, ea⟩ := List.mem_map.mp (List.mem_of_getElem? e1)
  obtain ⟨b, _, eb⟩ := List.mem_map.mp (List.mem_of_getElem? e2)
  exact ⟨a, b, by rw [e3, ea, eb]⟩
theorem cnts_tI (n : Nat) (f : KF) (L : Nat) : DV.tup ((List.range L).map fun (d : Nat) => DV.int (lc (cn n) f d)) = tI ((List.range L).map fun (d : Nat) => lc (cn n) f d) := by
  show _ = DV.tup (List.map DV.int _)
  rw [List.map_map]; rfl
theorem cnts_get {F : Nat → Int} {L i : Nat} (h : i < L) : ((List.range L).map F).getD i 0 = F i := by
  rw [List.getD_eq_getElem?_getD, List.getElem?_map, List.getElem?_range h]
  rfl
theorem ks_nil {ks : List Int} {f : KF} {S : Int} (h : RepC ks f S) (h0 : ∀ d, f d = 0) : ks = [] := by
  cases ks with
  | nil => rfl
  | cons k ks => exact absurd (h0 k) ((h.mem k).mp List.mem_cons_self)
theorem sg_is {a b : Nat} (h : b ≤ a) : (if decide (((a : Int) - (b : Int)) % 2 = 1) = true then (-1 : Int) else 1) = sg (a - b) := by
  unfold sg
  by_cases c : (a - b) % 2 = 1
  · rw [if_pos c, if_pos (decide_eq_true (by omega))]
  · rw [if_neg c, if_neg (by rw [decide_eq_true_eq]; omega)]
theorem mvF_is {g : KF} {s a b : Nat} (h : b ≤ a) : mvF g s b (a - b) = dwn a g s * sg (a - b) * bn (a - b) ((s : Int) + a - b - 1) := by
  unfold mvF
  rw [show b + (a - b) = a by omega, Int.mul_assoc, show (((a - b : Nat) : Int) + (s : Int) - 1) = (s : Int) + a - b - 1 by omega]
theorem enI_at {xs : List Int} {i : Nat} {d : DV} (h : (enD (xs.map DV.int))[i]? = some d) : i < xs.length ∧ d = .tup [.int (i : Int), .int (xs.getD i 0)] := by
  rw [en_ints14] at h
  have hl := (List.getElem?_eq_some_iff.mp h).1
  have hl : i < xs.length := by rw [List.length_map, List.length_range] at hl; exact hl
  rw [List.getElem?_map, List.getElem?_range hl] at h
  exact ⟨hl, (Option.some.inj h).symm⟩
theorem rowL_getD {g : KF} {s t j : Nat} (h : j < t) : (rowL g s t).getD j 0 = dwn j g s := by rw [List.getD_eq_getElem?_getD, rowL_get h]; rfl
theorem mvL_at {g : KF} {s m a b : Nat} (h : b ≤ a) (ha : a < m) : atI ((mvL g s m a b).map DV.int) (b : Int) = some (.int (sumTo (mvF g s b) (a - b))) := by
  refine atI_nat ?_
  rw [List.getElem?_map, mvL_get (by omega), if_neg (by omega)]
  rfl
theorem mvL_setD {g : KF} {s m a b : Nat} (hb : b ≤ a) (ha : a < m) : ((mvL g s m a b).map DV.int).set b (.int (sumTo (mvF g s b) (a - b) + mvF g s b (a - b))) = (mvL g s m a (b + 1)).map DV.int := by
  rw [← mvL_set hb ha, List.map_set]
theorem rep_flat (m : Nat) : (List.replicate m [DV.int 0]).flatten = (List.replicate m (0 : Int)).map DV.int := by
  induction m with
  | zero => rfl
  | succ m ih => rw [List.replicate_succ, List.flatten_cons, ih, List.replicate_succ]; rfl
/-- a row of L numbers with the values of f at the keys -/
def fillL (f : KF) (ks : List Int) (L : Nat) : List Int := (List.range L).map fun (i : Nat) => if (i : Int) ∈ ks then f i else 0
theorem fillL_len (f : KF) (ks : List Int) (L : Nat) : (fillL f ks L).length = L := by unfold fillL; rw [List.length_map, List.length_range]
theorem fillL_get {f : KF} {ks : List Int} {L i : Nat} (h : i < L) : (fillL f ks L)[i]? = some (if (i : Int) ∈ ks then f i else 0) := by
  unfold fillL
  rw [List.getElem?_map, List.getElem?_range h]
  rfl
theorem fillL_0 (f : KF) (L : Nat) : fillL f [] L = List.replicate L 0 := by
  refine List.ext_getElem? fun i => ?_
  by_cases h : i < L
  · rw [fillL_get h, List.getElem?_replicate, if_pos h, if_neg List.not_mem_nil]
  · rw [List.getElem?_eq_none (by rw [fillL_len]; omega), List.getElem?_eq_none (by rw [List.length_replicate]; omega)]
theorem fillL_set {f : KF} {ks : List Int} {L i j : Nat} (h : ks[i]? = some (j : Int)) (hj : j < L) : ((fillL f (ks.take i) L).map DV.int).set j (.int (f j)) = (fillL f (ks.take (i + 1)) L).map DV.int := by
  rw [← List.map_set]
  congr 1
  refine List.ext_getElem? fun l => ?_
  by_cases hl : l < L
  · rw [List.getElem?_set, fillL_get hl]
    by_cases c : j = l
    · subst c
      rw [if_pos rfl, if_pos (by rw [fillL_len]; omega), fillL_get hl, List.take_add_one, show (ks[i]?).toList = [(j : Int)] by rw [h]; rfl, if_pos (List.mem_append_right _ (List.mem_singleton.mpr rfl))]
    · rw [if_neg c, fillL_get hl, List.take_add_one, show (ks[i]?).toList = [(j : Int)] by rw [h]; rfl]
      by_cases z : (l : Int) ∈ ks.take i
      · rw [if_pos z, if_pos (List.mem_append_left _ z)]
      · rw [if_neg z, if_neg fun y => (List.mem_append.mp y).elim z fun y => by have := List.mem_singleton.mp y; omega]
  · rw [List.getElem?_eq_none (by rw [List.length_set, fillL_len]; omega), List.getElem?_eq_none (by rw [fillL_len]; omega)]
theorem fillL_all {f : KF} {ks : List Int} {S : Int} (h : RepC ks f S) (L : Nat) : fillL f ks L = preL f L := by
  unfold fillL preL
  exact List.map_congr_left fun i _ => h.rep.val i
theorem ixN_at13 {n k : Nat} (h : k < n) : ixN n (k : Int) = some k := by
  unfold ixN
  simp [show ¬ ((k : Int) < 0) from by omega]
  omega
theorem preL_ne {G : KF} {L : Nat} (h : 1 ≤ L) : preL G L ≠ [] := fun z => by have := preL_len G L; rw [z] at this; simp at this; omega
theorem preL_last {G : KF} {L : Nat} (h : 1 ≤ L) : atI ((preL G L).map DV.int) (-1) = some (.int (G ((L : Int) - 1))) := by
  rw [atI_last _ (preL_ne h), List.getLast_eq_getElem]
  have h2 := preL_get (f := G) (L := L) (i := (preL G L).length - 1) (by rw [preL_len]; omega)
  have h3 := (List.getElem?_eq_some_iff.mp h2).2
  rw [h3, preL_len, show ((L - 1 : Nat) : Int) = (L : Int) - 1 by omega]
theorem preL_cut {G : KF} {L : Nat} (h : 1 ≤ L) : cutD ((preL G L).map DV.int) none (some (-1)) = (preL G (L - 1)).map DV.int := by
  rw [cutD_init _ (by rw [List.length_map, preL_len]; omega), List.length_map, preL_len, ← List.map_take]
  unfold preL
  rw [← List.map_take, List.take_range, Nat.min_eq_left (by omega)]
theorem tot_eq {Q : KF} {L B : Nat} (h1 : ∀ d, (L : Int) ≤ d → Q d = 0) (h2 : ∀ d, (B : Int) ≤ d → Q d = 0) : sumTo (fun i => Q i) L = sumTo (fun i => Q i) B := by
  rcases Nat.le_total L B with z | z
  · exact (sumTo_more (fun i hi => h1 i (by omega)) z).symm
  · exact sumTo_more (fun i hi => h2 i (by omega)) z
theorem sub_gup {g g' : DG} {q : Addr} {o : DO} (h : Sub g g') (hq : g' q = none) : Sub g (gup g' q o) := fun a => by
  by_cases c : a = q
  · subst c
    rcases h a with z | z
    · exact .inr (z.trans hq)
    · exact .inr z
  · rcases h a with z | z
    · exact .inl (by rw [gup_ne c]; exact z)
    · exact .inr z
theorem preL_D (G : KF) (i : Nat) : (preL G i).map DV.int ++ [.int (G i)] = (preL G (i + 1)).map DV.int := by rw [preL_succ, List.map_append]; rfl
theorem lst_seq {g : DG} {x : DV} {ds : List DV} (h : lstD g x = some ds) : seqD g x = some ds := by
  unfold lstD at h
  split at h
  · exact h
  · exact h
  · cases h
theorem lstD_gup {g : DG} {x : DV} {ds : List DV} {q : Addr} {o : DO} (h : lstD g x = some ds) (hq : g q = none) : lstD (gup g q o) x = some ds := by
  unfold lstD at h ⊢
  split at h
  · exact h
  · rename_i p
    have : p ≠ q := fun z => by subst z; rw [hq] at h; cases h
    rw [gup_ne this]
    exact h
  · cases h
end DL

namespace DL
open PySem L2 LamX

def topS (i : Nat) : Stmt := PySem.Challenge.pw_pureladders_k13_whole_steady_rows.main.body.getD i (.Pass ⟨0, 0, 0, 0⟩)
abbrev TT (tb_free_set_in : Addr) : List (Addr × Str) := [(tb_free_set_in, ("free_set_in" ++ ".<locals>.") ++ "<genexpr>")]
theorem tt_free_set_in {tb_free_set_in : Addr} {g : DG} (h : TbG (TT tb_free_set_in) g) : g tb_free_set_in = some (.tbl (("free_set_in" ++ ".<locals>.") ++ "<genexpr>")) := h.all (tb_free_set_in, _) (by simp)
structure Txt (P : Program) (K : Fg) (mg : Str → Option Value) (t_MAX_EXPONENT t_MAX_LETTERS t_MAX_MEMBERS t_MAX_MEMBER_EXPONENT t_MAX_PASSED t_MOST_COUNTED t_MOST_FAR : Tok) (c_KeptMembers c_Lot tb_free_set_in : Addr) : Prop where
  b_abs : mg "abs" = none
  b_all : mg "all" = none
  b_any : mg "any" = none
  b_bool : mg "bool" = none
  b_dict : mg "dict" = none
  b_enumerate : mg "enumerate" = none
  b_int : mg "int" = none
  b_isinstance : mg "isinstance" = none
  b_len : mg "len" = none
  b_list : mg "list" = none
  b_max : mg "max" = none
  b_min : mg "min" = none
  b_next : mg "next" = none
  b_range : mg "range" = none
  b_set : mg "set" = none
  b_sorted : mg "sorted" = none
  b_sum : mg "sum" = none
  b_tuple : mg "tuple" = none
  b_zip : mg "zip" = none
  i_comb : mg "comb" = some (.builtin "math.comb")
  i_factorial : mg "factorial" = some (.builtin "math.factorial")
  c_MAX_EXPONENT : mg "MAX_EXPONENT" = some (.int 60 t_MAX_EXPONENT)
  c_MAX_LETTERS : mg "MAX_LETTERS" = some (.int 8 t_MAX_LETTERS)
  c_MAX_MEMBERS : mg "MAX_MEMBERS" = some (.int 24 t_MAX_MEMBERS)
  c_MAX_MEMBER_EXPONENT : mg "MAX_MEMBER_EXPONENT" = some (.int 8 t_MAX_MEMBER_EXPONENT)
  c_MAX_PASSED : mg "MAX_PASSED" = some (.int 200 t_MAX_PASSED)
  c_MOST_COUNTED : mg "MOST_COUNTED" = some (.int 40 t_MOST_COUNTED)
  c_MOST_FAR : mg "MOST_FAR" = some (.int 1000000 t_MOST_FAR)
  g_KeptMembers : mg "KeptMembers" = some (.ref c_KeptMembers)
  F_KeptMembers : ClsF K c_KeptMembers
  g_Lot : mg "Lot" = some (.ref c_Lot)
  F_Lot : ClsF K c_Lot
  s_KeptMembers_own_members : ∃ p, SlX.Slot1 K c_KeptMembers "own_members" p 0
  s_Lot_own_letters : ∃ p, SlX.Slot1 K c_Lot "own_letters" p 0
  s_Lot_own_members : ∃ p, SlX.Slot1 K c_Lot "own_members" p 1

abbrev s_is_whole : Stmt := topS 10
abbrev N_is_whole : List Str := ["value"]
theorem sc_is_whole : FnScope N_is_whole ["value"] (defScope s_is_whole) := ⟨rfl, rfl, rfl, by decide +kernel, rfl, by decide +kernel, by decide +kernel⟩
abbrev sp_is_whole (c_KeptMembers c_Lot tb_free_set_in : Addr) : SpD :=
  sp1 fun a g P => ∃ i : Int, a = .int i ∧ P (.bl true) g

local macro_rules | `(tactic| walk_at "rr1") => `(tactic| (repeat (first | (with_reducible first | refine rd_seq ?_ | refine rd_seqE ?_ | refine rd_next ?_ | refine rd_rtE ?_ | refine rd_nxE ?_ | refine rd_nx ?_ | refine rd_rt ?_ | refine rd_drop ?_ | refine rd_ret ?_ | refine rd_c ?_ | refine rd_op ?_ | refine rd_b ?_ | refine rd_bK ?_ | refine rd_andV ?_ | refine rd_notV ?_ | refine rd_tvKb ?_ | refine rd_nil ?_ | refine rd_cons ?_ | refine rd_cb ?_ | refine rd_call ?_ | refine rd_sp1 ?_ | refine rd_sp2 ?_ | refine rd_sp3 ?_ | refine rd_int ?_ | refine rd_intb ?_ | refine rd_itet ?_ | refine rd_itef ?_ | refine rd_itnt ?_ | refine rd_itnf ?_) | ((with_reducible apply rd_var); (· exact rfl)))))
theorem ok_is_whole {P : Program} {w : World} {K : Fg} {mg : Str → Option Value} {base : Heap} {t_MAX_EXPONENT t_MAX_LETTERS t_MAX_MEMBERS t_MAX_MEMBER_EXPONENT t_MAX_PASSED t_MOST_COUNTED t_MOST_FAR : Tok} {c_KeptMembers c_Lot tb_free_set_in : Addr} {f : Addr} {fd : FuncData} (D : Dfn K mg "is_whole" s_is_whole ["value"] f fd) (T : Txt P K mg t_MAX_EXPONENT t_MAX_LETTERS t_MAX_MEMBERS t_MAX_MEMBER_EXPONENT t_MAX_PASSED t_MOST_COUNTED t_MOST_FAR c_KeptMembers c_Lot tb_free_set_in) :
    FnOk P w K mg base CX0 1 f fd ["value"] (upSp K (sp_is_whole c_KeptMembers c_Lot tb_free_set_in)) := by
  refine fun_okD D.fn sc_is_whole (fun ds g Q h => len1 h) (fun cdv A outer s H E hr => ⟨_, (pds_one (pds_ret (pd_and (pd_callB call_isiY ref_isi T.b_isinstance (by decide +kernel) (pda_cons (pdv 0) (pda_cons (pd_ty (n := "int") T.b_int (by decide +kernel)) pda_nil))) (pd_one (pd_not (pd_callB call_isiY ref_isi T.b_isinstance (by decide +kernel) (pda_cons (pdv 0) (pda_cons (pd_ty (n := "bool") T.b_bool (by decide +kernel)) pda_nil)))))))), ?_⟩)
  intro ds g Q h
  obtain ⟨a0, rfl, h⟩ := sp1_of h
  rw [show startD N_is_whole [a0] = [some a0] from rfl]
  obtain ⟨i, e1, k⟩ := h
  subst e1
  walk_at "rr1"
  refine rd_isi (s := "int") (k := true) rfl rfl ?_
  walk_at "rr1"
  refine rd_isi (s := "int") (k := false) rfl rfl ?_
  walk_at "rr1"
  exact dret k

abbrev s_is_within : Stmt := topS 11
abbrev N_is_within : List Str := ["value", "least", "greatest"]
theorem sc_is_within : FnScope N_is_within ["value", "least", "greatest"] (defScope s_is_within) := ⟨rfl, rfl, rfl, by decide +kernel, rfl, by decide +kernel, by decide +kernel⟩
abbrev sp_is_within (c_KeptMembers c_Lot tb_free_set_in : Addr) : SpD :=
  sp3 fun a b c g P => ∃ i lo hi : Int, a = .int i ∧ b = .int lo ∧ c = .int hi ∧ lo ≤ i ∧ i ≤ hi ∧ P (.bl true) g

local macro_rules | `(tactic| walk_at "rr2") => `(tactic| (repeat (first | (with_reducible first | refine rd_seq ?_ | refine rd_seqE ?_ | refine rd_next ?_ | refine rd_rtE ?_ | refine rd_nxE ?_ | refine rd_nx ?_ | refine rd_rt ?_ | refine rd_drop ?_ | refine rd_ret ?_ | refine rd_c ?_ | refine rd_op ?_ | refine rd_b ?_ | refine rd_bK ?_ | refine rd_andV ?_ | refine rd_tvKb ?_ | refine rd_nil ?_ | refine rd_cons ?_ | refine rd_cb ?_ | refine rd_call ?_ | refine rd_sp1 ?_ | refine rd_sp2 ?_ | refine rd_sp3 ?_ | refine rd_cmp ?_ | refine rd_chain ?_ | refine rd_chnK ?_ | refine rd_itet ?_ | refine rd_itef ?_ | refine rd_itnt ?_ | refine rd_itnf ?_) | ((with_reducible apply rd_var); (· exact rfl)))))
theorem ok_is_within {P : Program} {w : World} {K : Fg} {mg : Str → Option Value} {base : Heap} {t_MAX_EXPONENT t_MAX_LETTERS t_MAX_MEMBERS t_MAX_MEMBER_EXPONENT t_MAX_PASSED t_MOST_COUNTED t_MOST_FAR : Tok} {c_KeptMembers c_Lot tb_free_set_in : Addr} {f f_is_whole : Addr} {fd d_is_whole : FuncData} (D : Dfn K mg "is_within" s_is_within ["value", "least", "greatest"] f fd) (T : Txt P K mg t_MAX_EXPONENT t_MAX_LETTERS t_MAX_MEMBERS t_MAX_MEMBER_EXPONENT t_MAX_PASSED t_MOST_COUNTED t_MOST_FAR c_KeptMembers c_Lot tb_free_set_in) (D_is_whole : Dfn K mg "is_whole" s_is_whole ["value"] f_is_whole d_is_whole) (G_is_whole : FnOk P w K mg base CX0 1 f_is_whole d_is_whole ["value"] (upSp K (sp_is_whole c_KeptMembers c_Lot tb_free_set_in))) :
    FnOk P w K mg base CX0 2 f fd ["value", "least", "greatest"] (upSp K (sp_is_within c_KeptMembers c_Lot tb_free_set_in)) := by
  refine fun_okD D.fn sc_is_within (fun ds g Q h => len3 h) (fun cdv A outer s H E hr => ⟨_, (pds_one (pds_ret (pd_and (pd_call G_is_whole (hr.mono (by decide)) D_is_whole.at_ D_is_whole.fn.kp D_is_whole.bd pass0 (pda_cons (pdv 0) pda_nil)) (pd_one (pd_chain op_le ref_cmp op_le ref_cmp (pdv 1) (pdv 0) (pdv 2)))))), ?_⟩)
  intro ds g Q h
  obtain ⟨a0, a1, a2, rfl, h⟩ := sp3_of h
  rw [show startD N_is_within [a0, a1, a2] = [some a0, some a1, some a2] from rfl]
  obtain ⟨i, lo, hi, e1, e2, e3, h1, h2, k⟩ := h
  subst e1 e2 e3
  walk_at "rr2"
  refine ⟨i, rfl, ?_⟩
  walk_at "rr2"
  rw [if_pos (decide_eq_true h1)]
  walk_at "rr2"
  rw [decide_eq_true h2]
  exact dret k

abbrev s_require_within : Stmt := topS 12
abbrev N_require_within : List Str := ["value", "least", "greatest"]
theorem sc_require_within : FnScope N_require_within ["value", "least", "greatest"] (defScope s_require_within) := ⟨rfl, rfl, rfl, by decide +kernel, rfl, by decide +kernel, by decide +kernel⟩
abbrev sp_require_within (c_KeptMembers c_Lot tb_free_set_in : Addr) : SpD :=
  sp3 fun a b c g P => ∃ i lo hi : Int, a = .int i ∧ b = .int lo ∧ c = .int hi ∧ lo ≤ i ∧ i ≤ hi ∧ P .non g

local macro_rules | `(tactic| walk_at "rr3") => `(tactic| (repeat (first | (with_reducible first | refine rd_seq ?_ | refine rd_seqE ?_ | refine rd_next ?_ | refine rd_rtE ?_ | refine rd_nxE ?_ | refine rd_nx ?_ | refine rd_rt ?_ | refine rd_drop ?_ | refine rd_ret ?_ | refine rd_dif ?_ | refine rd_c ?_ | refine rd_op ?_ | refine rd_b ?_ | refine rd_bK ?_ | refine rd_tru ?_ | refine rd_tKb ?_ | refine rd_not ?_ | refine rd_nil ?_ | refine rd_cons ?_ | refine rd_cb ?_ | refine rd_call ?_ | refine rd_sp1 ?_ | refine rd_sp2 ?_ | refine rd_sp3 ?_ | refine rd_itet ?_ | refine rd_itef ?_ | refine rd_itnt ?_ | refine rd_itnf ?_) | ((with_reducible apply rd_var); (· exact rfl)))))
theorem ok_require_within {P : Program} {w : World} {K : Fg} {mg : Str → Option Value} {base : Heap} {t_MAX_EXPONENT t_MAX_LETTERS t_MAX_MEMBERS t_MAX_MEMBER_EXPONENT t_MAX_PASSED t_MOST_COUNTED t_MOST_FAR : Tok} {c_KeptMembers c_Lot tb_free_set_in : Addr} {f f_is_within : Addr} {fd d_is_within : FuncData} (D : Dfn K mg "require_within" s_require_within ["value", "least", "greatest"] f fd) (T : Txt P K mg t_MAX_EXPONENT t_MAX_LETTERS t_MAX_MEMBERS t_MAX_MEMBER_EXPONENT t_MAX_PASSED t_MOST_COUNTED t_MOST_FAR c_KeptMembers c_Lot tb_free_set_in) (D_is_within : Dfn K mg "is_within" s_is_within ["value", "least", "greatest"] f_is_within d_is_within) (G_is_within : FnOk P w K mg base CX0 2 f_is_within d_is_within ["value", "least", "greatest"] (upSp K (sp_is_within c_KeptMembers c_Lot tb_free_set_in))) :
    FnOk P w K mg base CX0 3 f fd ["value", "least", "greatest"] (upSp K (sp_require_within c_KeptMembers c_Lot tb_free_set_in)) := by
  refine fun_okD D.fn sc_require_within (fun ds g Q h => len3 h) (fun cdv A outer s H E hr => ⟨_, (pds_one (pds_if (pt_notD (pt_truD (pd_call G_is_within (hr.mono (by decide)) D_is_within.at_ D_is_within.fn.kp D_is_within.bd pass0 (pda_cons (pdv 0) (pda_cons (pdv 1) (pda_cons (pdv 2) pda_nil)))))) (pds_one pds_never) pds_nil)), ?_⟩)
  intro ds g Q h
  obtain ⟨a0, a1, a2, rfl, h⟩ := sp3_of h
  rw [show startD N_require_within [a0, a1, a2] = [some a0, some a1, some a2] from rfl]
  obtain ⟨i, lo, hi, e1, e2, e3, h1, h2, k⟩ := h
  subst e1 e2 e3
  walk_at "rr3"
  refine ⟨i, lo, hi, rfl, rfl, rfl, h1, h2, ?_⟩
  walk_at "rr3"
  exact dret k

abbrev s_is_product_in : Stmt := topS 16
abbrev N_is_product_in : List Str := ["letters", "value", "exponent"]
theorem sc_is_product_in : FnScope N_is_product_in ["letters", "value"] (defScope s_is_product_in) := ⟨rfl, rfl, rfl, by decide +kernel, rfl, by decide +kernel, by decide +kernel⟩
abbrev sp_is_product_in (c_KeptMembers c_Lot tb_free_set_in : Addr) : SpD :=
  sp2 fun a b g P => ∃ (n : Nat) (xs : List Int), a = .int (n : Int) ∧ b = tI xs ∧ xs.length = n ∧ n ≤ 8 ∧ (∀ x ∈ xs, 0 ≤ x ∧ x ≤ 60) ∧ P (.bl true) g

local macro_rules | `(tactic| walk_at "rr4") => `(tactic| (repeat (first | (with_reducible first | refine rd_seq ?_ | refine rd_seqE ?_ | refine rd_next ?_ | refine rd_rtE ?_ | refine rd_nxE ?_ | refine rd_nx ?_ | refine rd_rt ?_ | refine rd_drop ?_ | refine rd_ret ?_ | refine rd_dif ?_ | refine rd_c ?_ | refine rd_op ?_ | refine rd_b ?_ | refine rd_bK ?_ | refine rd_tru ?_ | refine rd_tKb ?_ | refine rd_or ?_ | refine rd_not ?_ | refine rd_nil ?_ | refine rd_cons ?_ | refine rd_cb ?_ | refine rd_call ?_ | refine rd_sp1 ?_ | refine rd_sp2 ?_ | refine rd_sp3 ?_ | refine rd_lc ?_ | refine rd_yes ?_ | refine rd_wseq ?_ | refine rd_wsT ?_ | refine rd_wsL ?_ | refine rd_wsS ?_ | refine rd_itet ?_ | refine rd_itef ?_ | refine rd_itnt ?_ | refine rd_itnf ?_) | ((with_reducible apply rd_var); (· exact rfl)) | ((with_reducible apply rd_len); (· (first | assumption | exact seqD_ref (by assumption) | exact seqD_up | exact lstD_ref (by assumption) | exact lstD_up | rfl))))))
theorem ok_is_product_in {P : Program} {w : World} {K : Fg} {mg : Str → Option Value} {base : Heap} {t_MAX_EXPONENT t_MAX_LETTERS t_MAX_MEMBERS t_MAX_MEMBER_EXPONENT t_MAX_PASSED t_MOST_COUNTED t_MOST_FAR : Tok} {c_KeptMembers c_Lot tb_free_set_in : Addr} {f f_is_within : Addr} {fd d_is_within : FuncData} (D : Dfn K mg "is_product_in" s_is_product_in ["letters", "value"] f fd) (T : Txt P K mg t_MAX_EXPONENT t_MAX_LETTERS t_MAX_MEMBERS t_MAX_MEMBER_EXPONENT t_MAX_PASSED t_MOST_COUNTED t_MOST_FAR c_KeptMembers c_Lot tb_free_set_in) (D_is_within : Dfn K mg "is_within" s_is_within ["value", "least", "greatest"] f_is_within d_is_within) (G_is_within : FnOk P w K mg base CX0 2 f_is_within d_is_within ["value", "least", "greatest"] (upSp K (sp_is_within c_KeptMembers c_Lot tb_free_set_in))) :
    FnOk P w K mg base CX0 3 f fd ["letters", "value"] (upSp K (sp_is_product_in c_KeptMembers c_Lot tb_free_set_in)) := by
  refine fun_okD D.fn sc_is_product_in (fun ds g Q h => len2 h) (fun cdv A outer s H E hr => ⟨_, (pds_cons (pds_if (pwd_pt (pwd_or (pt_notD (pt_truD (pd_callB call_isiY ref_isi T.b_isinstance (by decide +kernel) (pda_cons (pdv 1) (pda_cons (pd_ty (n := "tuple") T.b_tuple (by decide +kernel)) pda_nil))))) (pwd_or1 (pt_cmpD (op_neD hr.units) (RefCmp.op ref_ne) (pd_callB call_len_seq ref_len T.b_len (by decide +kernel) (pda_cons (pdv 1) pda_nil)) (pdv 0) (nomark _))))) (pds_one (pds_ret pd_bl)) pds_nil) (pds_one (pds_ret (pd_callB (cr_all rfl) ref_bs T.b_all (by decide +kernel) (pda_cons (pd_lc (own := [("exponent", 2)]) (tg := .nm 2) rfl sc_is_product_in.nd (pid_seq (pdv 1)) (blkOk_by (own := [("exponent", 2)]) (N := N_is_product_in) (sc := defScope s_is_product_in) (by decide +kernel)) (fun _ _ _ _ _ => (pgd_nm (i := 2) sc_is_product_in.nd)) (fun _ _ _ _ _ => ptsd_nil) (fun _ _ _ _ _ => (pd_call G_is_within (hr.mono (by decide)) D_is_within.at_ D_is_within.fn.kp D_is_within.bd pass0 (pda_cons (pdv 2) (pda_cons pd_int (pda_cons (pd_globI T.c_MAX_EXPONENT) pda_nil)))))) pda_nil))))), ?_⟩)
  intro ds g Q h
  obtain ⟨a0, a1, rfl, h⟩ := sp2_of h
  rw [show startD N_is_product_in [a0, a1] = [some a0, some a1, none] from rfl]
  obtain ⟨n, xs, e1, e2, hl, hn, hx, k⟩ := h
  subst e1 e2 hl
  walk_at "rr4"
  refine rd_isiT ?_
  walk_at "rr4"
  refine rd_neN (by rw [List.length_map]) ?_
  walk_at "rr4"
  refine rd_zK (by rw [List.length_map]; omega) (comp_map (f := fun _ => .bl true) (fun d hd => ?_) ?_)
  · obtain ⟨x, hxm, e⟩ := List.mem_map.mp hd
    subst e
    refine ⟨_, rfl, fun Q2 h2 => ?_⟩
    walk_at "rr4"
    exact ⟨x, 0, 60, rfl, rfl, rfl, (hx x hxm).1, (hx x hxm).2, h2⟩
  · walk_at "rr4"
    refine rd_bs rfl (blsD_fun (fun _ => true) _) ?_
    rw [all_tt]
    walk_at "rr4"
    exact dret k

abbrev s_divides : Stmt := topS 17
abbrev N_divides : List Str := ["one", "other", "least", "most"]
theorem sc_divides : FnScope N_divides ["one", "other"] (defScope s_divides) := ⟨rfl, rfl, rfl, by decide +kernel, rfl, by decide +kernel, by decide +kernel⟩
abbrev sp_divides (c_KeptMembers c_Lot tb_free_set_in : Addr) : SpD :=
  sp2 fun a b g P => ∃ xs ys : List Int, a = tI xs ∧ b = tI ys ∧ xs.length ≤ 100 ∧ P (.bl (dvB xs ys)) g

local macro_rules | `(tactic| walk_at "rr5") => `(tactic| (repeat (first | (with_reducible first | refine rd_seq ?_ | refine rd_seqE ?_ | refine rd_next ?_ | refine rd_rtE ?_ | refine rd_nxE ?_ | refine rd_nx ?_ | refine rd_rt ?_ | refine rd_drop ?_ | refine rd_ret ?_ | refine rd_c ?_ | refine rd_op ?_ | refine rd_b ?_ | refine rd_bK ?_ | refine rd_nil ?_ | refine rd_cons ?_ | refine rd_cb ?_ | refine rd_call ?_ | refine rd_sp1 ?_ | refine rd_sp2 ?_ | refine rd_sp3 ?_ | refine rd_cmp ?_ | refine rd_lc ?_ | refine rd_yes ?_ | refine rd_wzip ?_ | refine rd_zipT ?_ | refine rd_itet ?_ | refine rd_itef ?_ | refine rd_itnt ?_ | refine rd_itnf ?_) | ((with_reducible apply rd_var); (· exact rfl)))))
theorem ok_divides {P : Program} {w : World} {K : Fg} {mg : Str → Option Value} {base : Heap} {t_MAX_EXPONENT t_MAX_LETTERS t_MAX_MEMBERS t_MAX_MEMBER_EXPONENT t_MAX_PASSED t_MOST_COUNTED t_MOST_FAR : Tok} {c_KeptMembers c_Lot tb_free_set_in : Addr} {f : Addr} {fd : FuncData} (D : Dfn K mg "divides" s_divides ["one", "other"] f fd) (T : Txt P K mg t_MAX_EXPONENT t_MAX_LETTERS t_MAX_MEMBERS t_MAX_MEMBER_EXPONENT t_MAX_PASSED t_MOST_COUNTED t_MOST_FAR c_KeptMembers c_Lot tb_free_set_in) :
    FnOk P w K mg base CX0 1 f fd ["one", "other"] (upSp K (sp_divides c_KeptMembers c_Lot tb_free_set_in)) := by
  refine fun_okD D.fn sc_divides (fun ds g Q h => len2 h) (fun cdv A outer s H E hr => ⟨_, (pds_one (pds_ret (pd_callB (cr_all rfl) ref_bs T.b_all (by decide +kernel) (pda_cons (pd_lc (own := [("least", 2), ("most", 3)]) (tg := .tp [2, 3]) rfl sc_divides.nd (pid_zip T.b_zip (pda_cons (pdv 0) (pda_cons (pdv 1) pda_nil))) (blkOk_by (own := [("least", 2), ("most", 3)]) (N := N_divides) (sc := defScope s_divides) (by decide +kernel)) (fun _ _ _ _ _ => (pgd_tp (is := [2, 3]) rfl (pgd_cons (i := 2) (pgd_nm (i := 2) sc_divides.nd) (pgd_cons (i := 3) (pgd_nm (i := 3) sc_divides.nd) pgd_nil)))) (fun _ _ _ _ _ => ptsd_nil) (fun _ _ _ _ _ => (pd_cmp op_le (RefCmp.op ref_cmp) (pdv 2) (pdv 3) (nomark _)))) pda_nil)))), ?_⟩)
  intro ds g Q h
  obtain ⟨a0, a1, rfl, h⟩ := sp2_of h
  rw [show startD N_divides [a0, a1] = [some a0, some a1, none, none] from rfl]
  obtain ⟨xs, ys, e1, e2, hx, k⟩ := h
  subst e1 e2
  have hz := zip_len xs ys
  walk_at "rr5"
  refine rd_zK (by omega) (comp_map (f := fun d => .bl (leD d)) (fun d hd => ?_) ?_)
  · obtain ⟨i, j, e⟩ := zip_mem hd
    subst e
    refine ⟨_, rfl, fun Q2 h2 => ?_⟩
    walk_at "rr5"
    exact h2
  · walk_at "rr5"
    refine rd_bs rfl (blsD_fun leD _) ?_
    rw [all_id_map, dv_zip]
    walk_at "rr5"
    exact dret k

abbrev s_require_letters : Stmt := topS 19
abbrev N_require_letters : List Str := ["letters"]
theorem sc_require_letters : FnScope N_require_letters ["letters"] (defScope s_require_letters) := ⟨rfl, rfl, rfl, by decide +kernel, rfl, by decide +kernel, by decide +kernel⟩
abbrev sp_require_letters (c_KeptMembers c_Lot tb_free_set_in : Addr) : SpD :=
  sp1 fun a g P => ∃ i : Int, a = .int i ∧ 1 ≤ i ∧ i ≤ 8 ∧ P .non g

local macro_rules | `(tactic| walk_at "rr6") => `(tactic| (repeat (first | (with_reducible first | refine rd_seq ?_ | refine rd_seqE ?_ | refine rd_next ?_ | refine rd_rtE ?_ | refine rd_nxE ?_ | refine rd_nx ?_ | refine rd_rt ?_ | refine rd_drop ?_ | refine rd_ret ?_ | refine rd_c ?_ | refine rd_op ?_ | refine rd_b ?_ | refine rd_bK ?_ | refine rd_nil ?_ | refine rd_cons ?_ | refine rd_cb ?_ | refine rd_call ?_ | refine rd_sp1 ?_ | refine rd_sp2 ?_ | refine rd_sp3 ?_ | refine rd_itet ?_ | refine rd_itef ?_ | refine rd_itnt ?_ | refine rd_itnf ?_) | ((with_reducible apply rd_var); (· exact rfl)))))
theorem ok_require_letters {P : Program} {w : World} {K : Fg} {mg : Str → Option Value} {base : Heap} {t_MAX_EXPONENT t_MAX_LETTERS t_MAX_MEMBERS t_MAX_MEMBER_EXPONENT t_MAX_PASSED t_MOST_COUNTED t_MOST_FAR : Tok} {c_KeptMembers c_Lot tb_free_set_in : Addr} {f f_require_within : Addr} {fd d_require_within : FuncData} (D : Dfn K mg "require_letters" s_require_letters ["letters"] f fd) (T : Txt P K mg t_MAX_EXPONENT t_MAX_LETTERS t_MAX_MEMBERS t_MAX_MEMBER_EXPONENT t_MAX_PASSED t_MOST_COUNTED t_MOST_FAR c_KeptMembers c_Lot tb_free_set_in) (D_require_within : Dfn K mg "require_within" s_require_within ["value", "least", "greatest"] f_require_within d_require_within) (G_require_within : FnOk P w K mg base CX0 3 f_require_within d_require_within ["value", "least", "greatest"] (upSp K (sp_require_within c_KeptMembers c_Lot tb_free_set_in))) :
    FnOk P w K mg base CX0 4 f fd ["letters"] (upSp K (sp_require_letters c_KeptMembers c_Lot tb_free_set_in)) := by
  refine fun_okD D.fn sc_require_letters (fun ds g Q h => len1 h) (fun cdv A outer s H E hr => ⟨_, (pds_one (pds_expr (pd_call G_require_within (hr.mono (by decide)) D_require_within.at_ D_require_within.fn.kp D_require_within.bd pass0 (pda_cons (pdv 0) (pda_cons pd_int (pda_cons (pd_globI T.c_MAX_LETTERS) pda_nil)))))), ?_⟩)
  intro ds g Q h
  obtain ⟨a0, rfl, h⟩ := sp1_of h
  rw [show startD N_require_letters [a0] = [some a0] from rfl]
  obtain ⟨i, e1, h1, h2, k⟩ := h
  subst e1
  walk_at "rr6"
  refine ⟨i, 1, 8, rfl, rfl, rfl, h1, h2, ?_⟩
  walk_at "rr6"
  exact dret k

abbrev s_least_of : Stmt := topS 27
abbrev N_least_of : List Str := ["products", "found", "product", "one"]
theorem sc_least_of : FnScope N_least_of ["products"] (defScope s_least_of) := ⟨rfl, rfl, rfl, by decide +kernel, rfl, by decide +kernel, by decide +kernel⟩
abbrev sp_least_of (c_KeptMembers c_Lot tb_free_set_in : Addr) : SpD :=
  sp1 fun a g P => ∃ (n : Nat) (L : List (List Int)), (a = .tup (L.map tI) ∨ a = .lst (L.map tI)) ∧ 1 ≤ n ∧ n ≤ 8 ∧ Prods n 60 L ∧ L.length ≤ 24 ∧ P (.tup ((leastL L).map tI)) g

local macro_rules | `(tactic| walk_at "rr7") => `(tactic| (repeat (first | (with_reducible first | refine rd_seq ?_ | refine rd_seqE ?_ | refine rd_next ?_ | refine rd_rtE ?_ | refine rd_nxE ?_ | refine rd_nx ?_ | refine rd_rt ?_ | refine rd_ct ?_ | refine rd_bk ?_ | refine rd_drop ?_ | refine rd_ret ?_ | refine rd_dif ?_ | refine rd_asg ?_ | refine rd_for ?_ | refine rd_c ?_ | refine rd_op ?_ | refine rd_b ?_ | refine rd_bK ?_ | refine rd_tru ?_ | refine rd_tKb ?_ | refine rd_not ?_ | refine rd_nil ?_ | refine rd_cons ?_ | refine rd_lst ?_ | refine rd_lstM ?_ | refine rd_cb ?_ | refine rd_call ?_ | refine rd_sp1 ?_ | refine rd_sp2 ?_ | refine rd_sp3 ?_ | refine rd_mt ?_ | refine rd_yes ?_ | refine rd_wseq ?_ | refine rd_wsT ?_ | refine rd_wsL ?_ | refine rd_wsS ?_ | refine rd_lcR ?_ | refine rd_dcT ?_ | refine rd_sk ?_ | refine rd_itet ?_ | refine rd_itef ?_ | refine rd_itnt ?_ | refine rd_itnf ?_) | ((with_reducible apply rd_var); (· exact rfl)) | ((with_reducible apply rd_asgK); (· exact rfl)) | ((with_reducible apply rd_tuple); (· (first | assumption | exact seqD_ref (by assumption) | exact seqD_up | exact lstD_ref (by assumption) | exact lstD_up | rfl))) | ((with_reducible apply rd_some); (· (first | assumption | exact seqD_ref (by assumption) | exact seqD_up | exact lstD_ref (by assumption) | exact lstD_up | rfl))))))
theorem ok_least_of {P : Program} {w : World} {K : Fg} {mg : Str → Option Value} {base : Heap} {t_MAX_EXPONENT t_MAX_LETTERS t_MAX_MEMBERS t_MAX_MEMBER_EXPONENT t_MAX_PASSED t_MOST_COUNTED t_MOST_FAR : Tok} {c_KeptMembers c_Lot tb_free_set_in : Addr} {f f_divides : Addr} {fd d_divides : FuncData} (D : Dfn K mg "least_of" s_least_of ["products"] f fd) (T : Txt P K mg t_MAX_EXPONENT t_MAX_LETTERS t_MAX_MEMBERS t_MAX_MEMBER_EXPONENT t_MAX_PASSED t_MOST_COUNTED t_MOST_FAR c_KeptMembers c_Lot tb_free_set_in) (D_divides : Dfn K mg "divides" s_divides ["one", "other"] f_divides d_divides) (G_divides : FnOk P w K mg base CX0 1 f_divides d_divides ["one", "other"] (upSp K (sp_divides c_KeptMembers c_Lot tb_free_set_in))) :
    FnOk P w K mg base CX0 2 f fd ["products"] (upSp K (sp_least_of c_KeptMembers c_Lot tb_free_set_in)) := by
  refine fun_okD D.fn sc_least_of (fun ds g Q h => len1 h) (fun cdv A outer s H E hr => ⟨_, (pds_cons (pds_set (i := 1) sc_least_of.nd (pd_lstM pda_nil)) (pds_cons (pds_for (tg := .nm 2) PassesOwn.never rfl (pid_seq (pd_sortK keyT_sum T.b_sorted T.b_sum (by decide +kernel) hr.units rfl (pd_dcT (own := [("one", 3)]) (tg := .nm 3) hr.units rfl sc_least_of.nd (pid_seq (pdv 0)) (blkOk_by (own := [("one", 3)]) (N := N_least_of) (sc := defScope s_least_of) (by decide +kernel)) (fun _ _ _ _ _ => (pgd_nm (i := 3) sc_least_of.nd)) (fun _ _ _ _ _ => ptsd_nil) (fun _ _ _ _ _ => (pdv 3)) (fun _ _ _ _ _ => pd_bl)))) (pgd_nm (i := 2) sc_least_of.nd) (pds_one (pds_if (pt_notD (pt_truD (pd_callB (cr_any rfl) ref_bs T.b_any (by decide +kernel) (pda_cons (pd_lcR (own := [("one", 3)]) (tg := .nm 3) rfl sc_least_of.nd (pdv 1) (blkOk_by (own := [("one", 3)]) (N := N_least_of) (sc := defScope s_least_of) (by decide +kernel)) (fun _ _ _ _ _ => (pgd_nm (i := 3) sc_least_of.nd)) (fun _ _ _ _ _ => ptsd_nil) (fun _ _ _ _ _ => (pd_call G_divides (hr.mono (by decide)) D_divides.at_ D_divides.fn.kp D_divides.bd pass0 (pda_cons (pdv 3) (pda_cons (pdv 2) pda_nil))))) pda_nil)))) (pds_one (pds_expr (pd_append (pdv 1) (pda_cons (pdv 2) pda_nil)))) pds_nil))) (pds_fz 1 (pds_one (pds_ret (pd_callTy call_tuple_of ref_tuple T.b_tuple (by decide +kernel) (pda_cons (pd_callB (cr_sortedD hr.units) ref_sorted T.b_sorted (by decide +kernel) (pda_cons (pdv 1) pda_nil)) pda_nil))))))), ?_⟩)
  intro ds g Q h
  obtain ⟨a0, rfl, h⟩ := sp1_of h
  rw [show startD N_least_of [a0] = [some a0, none, none, none] from rfl]
  obtain ⟨n, L, e1, n1, n8, hp, hl, k⟩ := h
  walk_at "rr7"
  refine rd_zK (by show 0 ≤ 16777216; decide) ?_
  intro q hq
  walk_at "rr7"
  refine rd_wsB e1 ?_
  refine rd_zK (by rw [List.length_map]; omega) (dc_map (kf := fun d => (keyT d).getD []) (v := .bl true) (fun d hd => ?_) (fun d hd δ2 e Q2 h2 => ?_) fun vs => ?_)
  · obtain ⟨m, hm, e⟩ := tI_mem hd
    subst e
    refine ⟨_, tI m, rfl, ?_, fun Q2 h2 => ?_⟩
    · rw [show keyT (tI m) = some (m.map Sum.inl) from keyT_ints m]
      rfl
    · walk_at "rr7"
      exact h2
  · walk_at "rr7"
    exact h2
  have ek : ((L.map tI).map fun d => (keyT d).getD []) = L.map fun m => m.map (Sum.inl : Int → Key) := by
    rw [List.map_map]
    exact List.map_congr_left fun m _ => by
      show (keyT (tI m)).getD [] = _
      rw [show keyT (tI m) = some (m.map Sum.inl) from keyT_ints m]
      rfl
  rw [ek, show ([] : List (List Key)) = ([] : List (List Int)).map (fun m => m.map Sum.inl) from rfl, foldK_map]
  have hO1 := onceL_mem L
  have hO2 := onceL_nodup L
  have hO3 := onceL_len L
  have hO4 := onceL_sorted L
  have hl0 : (L.foldl putKs []).length ≤ 24 := by
    have := (foldK L [] List.nodup_nil).2.2
    simp only [List.length_nil] at this
    omega
  refine rd_skK (L := L.foldl putKs []) (.inr (.inl ⟨vs, rfl⟩)) (by omega) ?_
  have hL : leastL L = ((onceL L).filter (minB (onceL L))).mergeSort fun a b => decide (a ≤ b) := rfl
  rw [show (L.foldl putKs []).mergeSort (leK List.sum) = onceL L from rfl, tIs]
  rw [hL] at k
  generalize onceL L = O at hO1 hO2 hO3 hO4 k ⊢
  have hpO : Prods n 60 O := hp.sub fun m hm => (hO1 m).mp hm
  walk_at "rr7"
  refine rd_loopX (I := fun i δ g' => (∃ v3 v4 : Option DV, δ = [some a0, some (.ref q), v3, v4]) ∧ g' q = some (.lst (((O.take i).filter (minB O)).map tI)) ∧ ∀ b, b ≠ q → g' b = g b) ?_ ?_ ?_
  · exact ⟨⟨none, none, rfl⟩, gup_same, fun b hb => gup_ne hb⟩
  · intro i d hd δ g' f hf hI
    obtain ⟨⟨v3, v4, e⟩, hg, hs⟩ := hI
    subst e
    rw [List.getElem?_map] at hd
    obtain ⟨x, hx, e⟩ := Option.map_eq_some_iff.mp hd
    subst e
    have hfl := flt_len (O := O) (q := minB O) i
    have hgr := greedy hpO hO2 hO4 hx
    have hft := filter_take (q := minB O) hx
    have hfl2 := flt_len (O := O) (q := minB O) (i + 1)
    have hin : ∀ m ∈ (O.take i).filter (minB O), m ∈ O := fun m hm => List.mem_of_mem_take (List.mem_filter.mp hm).1
    generalize (O.take i).filter (minB O) = F at hg hfl hgr hft hin ⊢
    refine ⟨_, rfl, ?_⟩
    walk_at "rr7"
    refine rd_lrC hg (by rw [List.length_map]; omega) (compR_map hg (f := fun d => .bl (dvsD x d)) (fun d hd => ?_) ?_)
    · obtain ⟨m, hm, e⟩ := tI_mem hd
      subst e
      refine ⟨_, rfl, fun Q2 h2 => ?_⟩
      walk_at "rr7"
      refine ⟨m, x, rfl, rfl, by rw [(hpO m (hin m hm)).1]; omega, ?_⟩
      rw [dvsD_at] at h2
      exact h2
    · walk_at "rr7"
      refine rd_bs rfl (blsD_fun (dvsD x) _) ?_
      rw [any_id_map, any_dvs, show upB F x = (F.any fun f => dvB f x) from rfl, hgr]
      walk_at "rr7"
      refine rd_iteb (fun c => ?_) (fun c => ?_)
      · rw [Bool.not_not] at c
        rw [if_pos c] at hft
        walk_at "rr7"
        refine rd_append hg (by rw [List.length_map]; omega) ?_
        rw [show F.map tI ++ [tI x] = (F ++ [x]).map tI by rw [List.map_append]; rfl, ← hft]
        walk_at "rr7"
        exact hf _ _ ⟨⟨_, _, rfl⟩, gup_same, fun b hb => by rw [gup_ne hb]; exact hs b hb⟩
      · rw [Bool.not_not] at c
        rw [if_neg (by rw [c]; decide), List.append_nil] at hft
        walk_at "rr7"
        exact hf _ _ ⟨⟨_, _, rfl⟩, by rw [hft]; exact hg, hs⟩
  · intro δ g' hI
    obtain ⟨⟨v3, v4, e⟩, hg, hs⟩ := hI
    subst e
    rw [List.length_map, List.take_length] at hg
    walk_at "rr7"
    refine rd_fz rfl hg ?_
    walk_at "rr7"
    refine rd_sorted rfl (sort_tIs fun w hw => ?_) ?_
    · have := (hpO w (List.mem_filter.mp hw).1).1
      intro z
      rw [z, List.length_nil] at this
      omega
    · rw [show (((O.filter (minB O)).map tI).mergeSort dleD) = ((O.filter (minB O)).mergeSort fun a b => decide (a ≤ b)).map tI from sort_tuI _]
      walk_at "rr7"
      refine ⟨g, fun a => ?_, k⟩
      by_cases ha : a = q
      · subst ha
        exact .inr hq
      · left
        rw [gdel_ne ha]
        exact (hs a ha).symm

abbrev s_are_long : Stmt := topS 28
abbrev N_are_long : List Str := ["products", "product"]
theorem sc_are_long : FnScope N_are_long ["products"] (defScope s_are_long) := ⟨rfl, rfl, rfl, by decide +kernel, rfl, by decide +kernel, by decide +kernel⟩
abbrev sp_are_long (c_KeptMembers c_Lot tb_free_set_in : Addr) : SpD :=
  sp1 fun a g P => ∃ (n : Nat) (L : List (List Int)), a = .lst (L.map tI) ∧ 1 ≤ n ∧ n ≤ 8 ∧ Prods n 60 L ∧ L.length ≤ 24 ∧ P (.bl false) g

local macro_rules | `(tactic| walk_at "rr8") => `(tactic| (repeat (first | (with_reducible first | refine rd_seq ?_ | refine rd_seqE ?_ | refine rd_next ?_ | refine rd_rtE ?_ | refine rd_nxE ?_ | refine rd_nx ?_ | refine rd_rt ?_ | refine rd_drop ?_ | refine rd_ret ?_ | refine rd_c ?_ | refine rd_op ?_ | refine rd_b ?_ | refine rd_bK ?_ | refine rd_nil ?_ | refine rd_cons ?_ | refine rd_cb ?_ | refine rd_call ?_ | refine rd_sp1 ?_ | refine rd_sp2 ?_ | refine rd_sp3 ?_ | refine rd_cmp ?_ | refine rd_lc ?_ | refine rd_yes ?_ | refine rd_wseq ?_ | refine rd_wsT ?_ | refine rd_wsL ?_ | refine rd_wsS ?_ | refine rd_itet ?_ | refine rd_itef ?_ | refine rd_itnt ?_ | refine rd_itnf ?_) | ((with_reducible apply rd_var); (· exact rfl)))))
theorem ok_are_long {P : Program} {w : World} {K : Fg} {mg : Str → Option Value} {base : Heap} {t_MAX_EXPONENT t_MAX_LETTERS t_MAX_MEMBERS t_MAX_MEMBER_EXPONENT t_MAX_PASSED t_MOST_COUNTED t_MOST_FAR : Tok} {c_KeptMembers c_Lot tb_free_set_in : Addr} {f : Addr} {fd : FuncData} (D : Dfn K mg "are_long" s_are_long ["products"] f fd) (T : Txt P K mg t_MAX_EXPONENT t_MAX_LETTERS t_MAX_MEMBERS t_MAX_MEMBER_EXPONENT t_MAX_PASSED t_MOST_COUNTED t_MOST_FAR c_KeptMembers c_Lot tb_free_set_in) :
    FnOk P w K mg base CX0 1 f fd ["products"] (upSp K (sp_are_long c_KeptMembers c_Lot tb_free_set_in)) := by
  refine fun_okD D.fn sc_are_long (fun ds g Q h => len1 h) (fun cdv A outer s H E hr => ⟨_, (pds_one (pds_ret (pd_callB (cr_any rfl) ref_bs T.b_any (by decide +kernel) (pda_cons (pd_lc (own := [("product", 1)]) (tg := .nm 1) rfl sc_are_long.nd (pid_seq (pdv 0)) (blkOk_by (own := [("product", 1)]) (N := N_are_long) (sc := defScope s_are_long) (by decide +kernel)) (fun _ _ _ _ _ => (pgd_nm (i := 1) sc_are_long.nd)) (fun _ _ _ _ _ => ptsd_nil) (fun _ _ _ _ _ => (pd_cmp op_gt (RefCmp.op ref_cmp) (pd_callB (cr_maxS rfl) ref_maxS T.b_max (by decide +kernel) (pda_cons (pdv 1) pda_nil)) (pd_globI T.c_MAX_EXPONENT) (nomark _)))) pda_nil)))), ?_⟩)
  intro ds g Q h
  obtain ⟨a0, rfl, h⟩ := sp1_of h
  rw [show startD N_are_long [a0] = [some a0, none] from rfl]
  obtain ⟨n, L, e1, n1, n8, hp, hl, k⟩ := h
  subst e1
  walk_at "rr8"
  refine rd_zK (by rw [List.length_map]; omega) (comp_map (f := fun _ => .bl false) (fun d hd => ?_) ?_)
  · obtain ⟨m, hm, e⟩ := tI_mem hd
    subst e
    obtain ⟨h1, h2⟩ := hp m hm
    refine ⟨_, rfl, fun Q2 h2' => ?_⟩
    walk_at "rr8"
    refine rd_maxS (ns := m) rfl (by omega) fun z hz _ => ?_
    have h3 := (h2 z hz).2
    walk_at "rr8"
    rw [decide_eq_false (by omega)]
    exact h2'
  · walk_at "rr8"
    refine rd_bs rfl (blsD_fun (fun _ => false) _) ?_
    rw [any_ff]
    walk_at "rr8"
    exact dret k

abbrev s_few_least_of : Stmt := topS 29
abbrev N_few_least_of : List Str := ["products", "once", "found", "product", "one"]
theorem sc_few_least_of : FnScope N_few_least_of ["products"] (defScope s_few_least_of) := ⟨rfl, rfl, rfl, by decide +kernel, rfl, by decide +kernel, by decide +kernel⟩
abbrev sp_few_least_of (c_KeptMembers c_Lot tb_free_set_in : Addr) : SpD :=
  sp1 fun a g P => ∃ (n : Nat) (L : List (List Int)), (a = .tup (L.map tI) ∨ a = .lst (L.map tI)) ∧ 1 ≤ n ∧ n ≤ 8 ∧ Prods n 60 L ∧ L.length ≤ 24 ∧ P (.tup ((leastL L).map tI)) g

local macro_rules | `(tactic| walk_at "rr9") => `(tactic| (repeat (first | (with_reducible first | refine rd_seq ?_ | refine rd_seqE ?_ | refine rd_next ?_ | refine rd_rtE ?_ | refine rd_nxE ?_ | refine rd_nx ?_ | refine rd_rt ?_ | refine rd_ct ?_ | refine rd_bk ?_ | refine rd_drop ?_ | refine rd_ret ?_ | refine rd_dif ?_ | refine rd_asg ?_ | refine rd_for ?_ | refine rd_c ?_ | refine rd_op ?_ | refine rd_b ?_ | refine rd_bK ?_ | refine rd_tru ?_ | refine rd_tKb ?_ | refine rd_and ?_ | refine rd_not ?_ | refine rd_nil ?_ | refine rd_cons ?_ | refine rd_lst ?_ | refine rd_lstM ?_ | refine rd_cb ?_ | refine rd_call ?_ | refine rd_sp1 ?_ | refine rd_sp2 ?_ | refine rd_sp3 ?_ | refine rd_cmp ?_ | refine rd_mt ?_ | refine rd_yes ?_ | refine rd_wseq ?_ | refine rd_wsT ?_ | refine rd_wsL ?_ | refine rd_wsS ?_ | refine rd_lcR ?_ | refine rd_dcT ?_ | refine rd_sk ?_ | refine rd_itet ?_ | refine rd_itef ?_ | refine rd_itnt ?_ | refine rd_itnf ?_) | ((with_reducible apply rd_var); (· exact rfl)) | ((with_reducible apply rd_asgK); (· exact rfl)) | ((with_reducible apply rd_len); (· (first | assumption | exact seqD_ref (by assumption) | exact seqD_up | exact lstD_ref (by assumption) | exact lstD_up | rfl))) | ((with_reducible apply rd_tuple); (· (first | assumption | exact seqD_ref (by assumption) | exact seqD_up | exact lstD_ref (by assumption) | exact lstD_up | rfl))) | ((with_reducible apply rd_some); (· (first | assumption | exact seqD_ref (by assumption) | exact seqD_up | exact lstD_ref (by assumption) | exact lstD_up | rfl))))))
theorem ok_few_least_of {P : Program} {w : World} {K : Fg} {mg : Str → Option Value} {base : Heap} {t_MAX_EXPONENT t_MAX_LETTERS t_MAX_MEMBERS t_MAX_MEMBER_EXPONENT t_MAX_PASSED t_MOST_COUNTED t_MOST_FAR : Tok} {c_KeptMembers c_Lot tb_free_set_in : Addr} {f f_divides f_are_long f_least_of : Addr} {fd d_divides d_are_long d_least_of : FuncData} (D : Dfn K mg "few_least_of" s_few_least_of ["products"] f fd) (T : Txt P K mg t_MAX_EXPONENT t_MAX_LETTERS t_MAX_MEMBERS t_MAX_MEMBER_EXPONENT t_MAX_PASSED t_MOST_COUNTED t_MOST_FAR c_KeptMembers c_Lot tb_free_set_in) (D_divides : Dfn K mg "divides" s_divides ["one", "other"] f_divides d_divides) (G_divides : FnOk P w K mg base CX0 1 f_divides d_divides ["one", "other"] (upSp K (sp_divides c_KeptMembers c_Lot tb_free_set_in))) (D_are_long : Dfn K mg "are_long" s_are_long ["products"] f_are_long d_are_long) (G_are_long : FnOk P w K mg base CX0 1 f_are_long d_are_long ["products"] (upSp K (sp_are_long c_KeptMembers c_Lot tb_free_set_in))) (D_least_of : Dfn K mg "least_of" s_least_of ["products"] f_least_of d_least_of) (G_least_of : FnOk P w K mg base CX0 2 f_least_of d_least_of ["products"] (upSp K (sp_least_of c_KeptMembers c_Lot tb_free_set_in))) :
    FnOk P w K mg base CX0 3 f fd ["products"] (upSp K (sp_few_least_of c_KeptMembers c_Lot tb_free_set_in)) := by
  refine fun_okD D.fn sc_few_least_of (fun ds g Q h => len1 h) (fun cdv A outer s H E hr => ⟨_, (pds_cons (pds_set (i := 1) sc_few_least_of.nd (pd_sortK keyT_sum T.b_sorted T.b_sum (by decide +kernel) hr.units rfl (pd_dcT (own := [("one", 4)]) (tg := .nm 4) hr.units rfl sc_few_least_of.nd (pid_seq (pdv 0)) (blkOk_by (own := [("one", 4)]) (N := N_few_least_of) (sc := defScope s_few_least_of) (by decide +kernel)) (fun _ _ _ _ _ => (pgd_nm (i := 4) sc_few_least_of.nd)) (fun _ _ _ _ _ => ptsd_nil) (fun _ _ _ _ _ => (pdv 4)) (fun _ _ _ _ _ => pd_bl)))) (pds_cons (pds_if (pwd_pt (pwd_and (pt_truD (pd_call G_are_long (hr.mono (by decide)) D_are_long.at_ D_are_long.fn.kp D_are_long.bd pass0 (pda_cons (pdv 1) pda_nil))) (pwd_and1 (pt_truD (pd_call G_are_long (hr.mono (by decide)) D_are_long.at_ D_are_long.fn.kp D_are_long.bd pass0 (pda_cons (pd_call G_least_of (hr.mono (by decide)) D_least_of.at_ D_least_of.fn.kp D_least_of.bd pass0 (pda_cons (pdv 1) pda_nil)) pda_nil)))))) (pds_one pds_never) pds_nil) (pds_cons (pds_set (i := 2) sc_few_least_of.nd (pd_lstM pda_nil)) (pds_cons (pds_for (tg := .nm 3) PassesOwn.never rfl (pid_seq (pdv 1)) (pgd_nm (i := 3) sc_few_least_of.nd) (pds_one (pds_if (pt_notD (pt_truD (pd_callB (cr_any rfl) ref_bs T.b_any (by decide +kernel) (pda_cons (pd_lcR (own := [("one", 4)]) (tg := .nm 4) rfl sc_few_least_of.nd (pdv 2) (blkOk_by (own := [("one", 4)]) (N := N_few_least_of) (sc := defScope s_few_least_of) (by decide +kernel)) (fun _ _ _ _ _ => (pgd_nm (i := 4) sc_few_least_of.nd)) (fun _ _ _ _ _ => ptsd_nil) (fun _ _ _ _ _ => (pd_call G_divides (hr.mono (by decide)) D_divides.at_ D_divides.fn.kp D_divides.bd pass0 (pda_cons (pdv 4) (pda_cons (pdv 3) pda_nil))))) pda_nil)))) (pds_cons (pds_expr (pd_append (pdv 2) (pda_cons (pdv 3) pda_nil))) (pds_one (pds_if (pt_cmpD op_gt (RefCmp.op ref_cmp) (pd_callB call_len_seq ref_len T.b_len (by decide +kernel) (pda_cons (pdv 2) pda_nil)) (pd_globI T.c_MAX_MEMBERS) (nomark _)) (pds_one pds_never) pds_nil))) pds_nil))) (pds_fz 2 (pds_one (pds_ret (pd_callTy call_tuple_of ref_tuple T.b_tuple (by decide +kernel) (pda_cons (pd_callB (cr_sortedD hr.units) ref_sorted T.b_sorted (by decide +kernel) (pda_cons (pdv 2) pda_nil)) pda_nil))))))))), ?_⟩)
  intro ds g Q h
  obtain ⟨a0, rfl, h⟩ := sp1_of h
  rw [show startD N_few_least_of [a0] = [some a0, none, none, none, none] from rfl]
  obtain ⟨n, L, e1, n1, n8, hp, hl, k⟩ := h
  walk_at "rr9"
  refine rd_wsB e1 ?_
  refine rd_zK (by rw [List.length_map]; omega) (dc_map (kf := fun d => (keyT d).getD []) (v := .bl true) (fun d hd => ?_) (fun d hd δ2 e Q2 h2 => ?_) fun vs => ?_)
  · obtain ⟨m, hm, e⟩ := tI_mem hd
    subst e
    refine ⟨_, tI m, rfl, ?_, fun Q2 h2 => ?_⟩
    · rw [show keyT (tI m) = some (m.map Sum.inl) from keyT_ints m]
      rfl
    · walk_at "rr9"
      exact h2
  · walk_at "rr9"
    exact h2
  have ek : ((L.map tI).map fun d => (keyT d).getD []) = L.map fun m => m.map (Sum.inl : Int → Key) := by
    rw [List.map_map]
    exact List.map_congr_left fun m _ => by
      show (keyT (tI m)).getD [] = _
      rw [show keyT (tI m) = some (m.map Sum.inl) from keyT_ints m]
      rfl
  rw [ek, show ([] : List (List Key)) = ([] : List (List Int)).map (fun m => m.map Sum.inl) from rfl, foldK_map]
  have hO1 := onceL_mem L
  have hO2 := onceL_nodup L
  have hO3 := onceL_len L
  have hO4 := onceL_sorted L
  have hl0 : (L.foldl putKs []).length ≤ 24 := by
    have := (foldK L [] List.nodup_nil).2.2
    simp only [List.length_nil] at this
    omega
  refine rd_skK (L := L.foldl putKs []) (.inr (.inl ⟨vs, rfl⟩)) (by omega) ?_
  have hL : leastL L = ((onceL L).filter (minB (onceL L))).mergeSort fun a b => decide (a ≤ b) := rfl
  rw [show (L.foldl putKs []).mergeSort (leK List.sum) = onceL L from rfl, tIs]
  rw [hL] at k
  generalize onceL L = O at hO1 hO2 hO3 hO4 k ⊢
  have hpO : Prods n 60 O := hp.sub fun m hm => (hO1 m).mp hm
  walk_at "rr9"
  refine ⟨n, O, rfl, n1, n8, hpO, by omega, ?_⟩
  walk_at "rr9"
  refine rd_zK (by show 0 ≤ 16777216; decide) ?_
  intro q hq
  walk_at "rr9"
  refine rd_loopX (I := fun i δ g' => (∃ v3 v4 : Option DV, δ = [some a0, some (.lst (O.map tI)), some (.ref q), v3, v4]) ∧ g' q = some (.lst (((O.take i).filter (minB O)).map tI)) ∧ ∀ b, b ≠ q → g' b = g b) ?_ ?_ ?_
  · exact ⟨⟨none, none, rfl⟩, gup_same, fun b hb => gup_ne hb⟩
  · intro i d hd δ g' f hf hI
    obtain ⟨⟨v3, v4, e⟩, hg, hs⟩ := hI
    subst e
    rw [List.getElem?_map] at hd
    obtain ⟨x, hx, e⟩ := Option.map_eq_some_iff.mp hd
    subst e
    have hfl := flt_len (O := O) (q := minB O) i
    have hgr := greedy hpO hO2 hO4 hx
    have hft := filter_take (q := minB O) hx
    have hfl2 := flt_len (O := O) (q := minB O) (i + 1)
    have hin : ∀ m ∈ (O.take i).filter (minB O), m ∈ O := fun m hm => List.mem_of_mem_take (List.mem_filter.mp hm).1
    generalize (O.take i).filter (minB O) = F at hg hfl hgr hft hin ⊢
    refine ⟨_, rfl, ?_⟩
    walk_at "rr9"
    refine rd_lrC hg (by rw [List.length_map]; omega) (compR_map hg (f := fun d => .bl (dvsD x d)) (fun d hd => ?_) ?_)
    · obtain ⟨m, hm, e⟩ := tI_mem hd
      subst e
      refine ⟨_, rfl, fun Q2 h2 => ?_⟩
      walk_at "rr9"
      refine ⟨m, x, rfl, rfl, by rw [(hpO m (hin m hm)).1]; omega, ?_⟩
      rw [dvsD_at] at h2
      exact h2
    · walk_at "rr9"
      refine rd_bs rfl (blsD_fun (dvsD x) _) ?_
      rw [any_id_map, any_dvs, show upB F x = (F.any fun f => dvB f x) from rfl, hgr]
      walk_at "rr9"
      refine rd_iteb (fun c => ?_) (fun c => ?_)
      · rw [Bool.not_not] at c
        rw [if_pos c] at hft
        walk_at "rr9"
        refine rd_append hg (by rw [List.length_map]; omega) ?_
        rw [show F.map tI ++ [tI x] = (F ++ [x]).map tI by rw [List.map_append]; rfl, ← hft]
        walk_at "rr9"
        rw [decide_eq_false (by rw [List.length_map]; omega)]
        walk_at "rr9"
        exact hf _ _ ⟨⟨_, _, rfl⟩, gup_same, fun b hb => by rw [gup_ne hb]; exact hs b hb⟩
      · rw [Bool.not_not] at c
        rw [if_neg (by rw [c]; decide), List.append_nil] at hft
        walk_at "rr9"
        exact hf _ _ ⟨⟨_, _, rfl⟩, by rw [hft]; exact hg, hs⟩
  · intro δ g' hI
    obtain ⟨⟨v3, v4, e⟩, hg, hs⟩ := hI
    subst e
    rw [List.length_map, List.take_length] at hg
    walk_at "rr9"
    refine rd_fz rfl hg ?_
    walk_at "rr9"
    refine rd_sorted rfl (sort_tIs fun w hw => ?_) ?_
    · have := (hpO w (List.mem_filter.mp hw).1).1
      intro z
      rw [z, List.length_nil] at this
      omega
    · rw [show (((O.filter (minB O)).map tI).mergeSort dleD) = ((O.filter (minB O)).mergeSort fun a b => decide (a ≤ b)).map tI from sort_tuI _]
      walk_at "rr9"
      refine ⟨g, fun a => ?_, k⟩
      by_cases ha : a = q
      · subst ha
        exact .inr hq
      · left
        rw [gdel_ne ha]
        exact (hs a ha).symm

abbrev s_KeptMembers___init__ : Stmt := inClass (topS 37) 1
abbrev N_KeptMembers___init__ : List Str := ["self", "members"]
theorem sc_KeptMembers___init__ : FnScope N_KeptMembers___init__ ["self", "members"] (defScope s_KeptMembers___init__) := ⟨rfl, rfl, rfl, by decide +kernel, rfl, by decide +kernel, by decide +kernel⟩
abbrev sp_KeptMembers___init__ (c_KeptMembers c_Lot tb_free_set_in : Addr) : SpD :=
  sp2 fun a b g P => ∃ (p : Addr) (ds : List DV), a = .ref p ∧ b = .tup ds ∧ g p = some (.ins c_KeptMembers []) ∧ P .non (gup g p (.ins c_KeptMembers [some (.tup ds)]))

theorem ok_KeptMembers___init__ {P : Program} {w : World} {K : Fg} {mg : Str → Option Value} {base : Heap} {t_MAX_EXPONENT t_MAX_LETTERS t_MAX_MEMBERS t_MAX_MEMBER_EXPONENT t_MAX_PASSED t_MOST_COUNTED t_MOST_FAR : Tok} {c_KeptMembers c_Lot tb_free_set_in : Addr} {f : Addr} {fd : FuncData} (D : Mtd K c_KeptMembers "__init__" "KeptMembers.__init__" s_KeptMembers___init__ ["self", "members"] f fd) (T : Txt P K mg t_MAX_EXPONENT t_MAX_LETTERS t_MAX_MEMBERS t_MAX_MEMBER_EXPONENT t_MAX_PASSED t_MOST_COUNTED t_MOST_FAR c_KeptMembers c_Lot tb_free_set_in) :
    FnOk P w K mg base CX0 1 f fd ["self", "members"] (upSp K (sp_KeptMembers___init__ c_KeptMembers c_Lot tb_free_set_in)) := by
  refine fun_okD D.fn sc_KeptMembers___init__ (fun ds g Q h => len2 h) (fun cdv A outer s H E hr => ⟨_, (pds_one (pds_sto T.F_KeptMembers.sc T.s_KeptMembers_own_members.choose_spec (pdv 0) (pdv 1))), ?_⟩)
  intro ds g Q h
  obtain ⟨a0, a1, rfl, h⟩ := sp2_of h
  rw [show startD N_KeptMembers___init__ [a0, a1] = [some a0, some a1] from rfl]
  obtain ⟨p, ds, e1, e2, hg, k⟩ := h
  subst e1 e2
  (repeat (first | (with_reducible first | refine rd_seq ?_ | refine rd_seqE ?_ | refine rd_next ?_ | refine rd_rtE ?_ | refine rd_nxE ?_ | refine rd_nx ?_ | refine rd_rt ?_ | refine rd_drop ?_ | refine rd_ret ?_ | refine rd_c ?_ | refine rd_op ?_ | refine rd_b ?_ | refine rd_bK ?_ | refine rd_nil ?_ | refine rd_cons ?_ | refine rd_cb ?_ | refine rd_call ?_ | refine rd_sp1 ?_ | refine rd_sp2 ?_ | refine rd_sp3 ?_ | refine rd_sto ?_ | refine rd_itet ?_ | refine rd_itef ?_ | refine rd_itnt ?_ | refine rd_itnf ?_) | ((with_reducible apply rd_stoK); (· (first | assumption | exact gup_same))) | ((with_reducible apply rd_var); (· exact rfl))))
  exact dret k

abbrev s_is_passed_member : Stmt := topS 39
abbrev N_is_passed_member : List Str := ["letters", "value", "exponent"]
theorem sc_is_passed_member : FnScope N_is_passed_member ["letters", "value"] (defScope s_is_passed_member) := ⟨rfl, rfl, rfl, by decide +kernel, rfl, by decide +kernel, by decide +kernel⟩
abbrev sp_is_passed_member (c_KeptMembers c_Lot tb_free_set_in : Addr) : SpD :=
  sp2 fun a b g P => ∃ (n : Nat) (xs : List Int), a = .int (n : Int) ∧ b = tI xs ∧ xs.length = n ∧ n ≤ 8 ∧ (∀ x ∈ xs, 0 ≤ x ∧ x ≤ 8) ∧ P (.bl true) g

local macro_rules | `(tactic| walk_at "rr10") => `(tactic| (repeat (first | (with_reducible first | refine rd_seq ?_ | refine rd_seqE ?_ | refine rd_next ?_ | refine rd_rtE ?_ | refine rd_nxE ?_ | refine rd_nx ?_ | refine rd_rt ?_ | refine rd_drop ?_ | refine rd_ret ?_ | refine rd_dif ?_ | refine rd_c ?_ | refine rd_op ?_ | refine rd_b ?_ | refine rd_bK ?_ | refine rd_tru ?_ | refine rd_tKb ?_ | refine rd_or ?_ | refine rd_not ?_ | refine rd_nil ?_ | refine rd_cons ?_ | refine rd_cb ?_ | refine rd_call ?_ | refine rd_sp1 ?_ | refine rd_sp2 ?_ | refine rd_sp3 ?_ | refine rd_lc ?_ | refine rd_yes ?_ | refine rd_wseq ?_ | refine rd_wsT ?_ | refine rd_wsL ?_ | refine rd_wsS ?_ | refine rd_itet ?_ | refine rd_itef ?_ | refine rd_itnt ?_ | refine rd_itnf ?_) | ((with_reducible apply rd_var); (· exact rfl)) | ((with_reducible apply rd_len); (· (first | assumption | exact seqD_ref (by assumption) | exact seqD_up | exact lstD_ref (by assumption) | exact lstD_up | rfl))))))
theorem ok_is_passed_member {P : Program} {w : World} {K : Fg} {mg : Str → Option Value} {base : Heap} {t_MAX_EXPONENT t_MAX_LETTERS t_MAX_MEMBERS t_MAX_MEMBER_EXPONENT t_MAX_PASSED t_MOST_COUNTED t_MOST_FAR : Tok} {c_KeptMembers c_Lot tb_free_set_in : Addr} {f f_is_within : Addr} {fd d_is_within : FuncData} (D : Dfn K mg "is_passed_member" s_is_passed_member ["letters", "value"] f fd) (T : Txt P K mg t_MAX_EXPONENT t_MAX_LETTERS t_MAX_MEMBERS t_MAX_MEMBER_EXPONENT t_MAX_PASSED t_MOST_COUNTED t_MOST_FAR c_KeptMembers c_Lot tb_free_set_in) (D_is_within : Dfn K mg "is_within" s_is_within ["value", "least", "greatest"] f_is_within d_is_within) (G_is_within : FnOk P w K mg base CX0 2 f_is_within d_is_within ["value", "least", "greatest"] (upSp K (sp_is_within c_KeptMembers c_Lot tb_free_set_in))) :
    FnOk P w K mg base CX0 3 f fd ["letters", "value"] (upSp K (sp_is_passed_member c_KeptMembers c_Lot tb_free_set_in)) := by
  refine fun_okD D.fn sc_is_passed_member (fun ds g Q h => len2 h) (fun cdv A outer s H E hr => ⟨_, (pds_cons (pds_if (pwd_pt (pwd_or (pt_notD (pt_truD (pd_callB call_isiY ref_isi T.b_isinstance (by decide +kernel) (pda_cons (pdv 1) (pda_cons (pd_ty (n := "tuple") T.b_tuple (by decide +kernel)) pda_nil))))) (pwd_or1 (pt_cmpD (op_neD hr.units) (RefCmp.op ref_ne) (pd_callB call_len_seq ref_len T.b_len (by decide +kernel) (pda_cons (pdv 1) pda_nil)) (pdv 0) (nomark _))))) (pds_one (pds_ret pd_bl)) pds_nil) (pds_one (pds_ret (pd_callB (cr_all rfl) ref_bs T.b_all (by decide +kernel) (pda_cons (pd_lc (own := [("exponent", 2)]) (tg := .nm 2) rfl sc_is_passed_member.nd (pid_seq (pdv 1)) (blkOk_by (own := [("exponent", 2)]) (N := N_is_passed_member) (sc := defScope s_is_passed_member) (by decide +kernel)) (fun _ _ _ _ _ => (pgd_nm (i := 2) sc_is_passed_member.nd)) (fun _ _ _ _ _ => ptsd_nil) (fun _ _ _ _ _ => (pd_call G_is_within (hr.mono (by decide)) D_is_within.at_ D_is_within.fn.kp D_is_within.bd pass0 (pda_cons (pdv 2) (pda_cons pd_int (pda_cons (pd_globI T.c_MAX_MEMBER_EXPONENT) pda_nil)))))) pda_nil))))), ?_⟩)
  intro ds g Q h
  obtain ⟨a0, a1, rfl, h⟩ := sp2_of h
  rw [show startD N_is_passed_member [a0, a1] = [some a0, some a1, none] from rfl]
  obtain ⟨n, xs, e1, e2, hl, hn, hx, k⟩ := h
  subst e1 e2 hl
  walk_at "rr10"
  refine rd_isiT ?_
  walk_at "rr10"
  refine rd_neN (by rw [List.length_map]) ?_
  walk_at "rr10"
  refine rd_zK (by rw [List.length_map]; omega) (comp_map (f := fun _ => .bl true) (fun d hd => ?_) ?_)
  · obtain ⟨x, hxm, e⟩ := List.mem_map.mp hd
    subst e
    refine ⟨_, rfl, fun Q2 h2 => ?_⟩
    walk_at "rr10"
    exact ⟨x, 0, 8, rfl, rfl, rfl, (hx x hxm).1, (hx x hxm).2, h2⟩
  · walk_at "rr10"
    refine rd_bs rfl (blsD_fun (fun _ => true) _) ?_
    rw [all_tt]
    walk_at "rr10"
    exact dret k

abbrev s_members_told : Stmt := topS 40
abbrev N_members_told : List Str := ["letters", "members", "member"]
theorem sc_members_told : FnScope N_members_told ["letters", "members"] (defScope s_members_told) := ⟨rfl, rfl, rfl, by decide +kernel, rfl, by decide +kernel, by decide +kernel⟩
abbrev sp_members_told (c_KeptMembers c_Lot tb_free_set_in : Addr) : SpD :=
  sp2 fun a b g P => ∃ (n : Nat) (M : List (List Int)), a = .int (n : Int) ∧ 1 ≤ n ∧ n ≤ 8 ∧ Told c_KeptMembers n b M ∧ P (.tup (M.map tI)) g

local macro_rules | `(tactic| walk_at "rr11") => `(tactic| (repeat (first | (with_reducible first | refine rd_seq ?_ | refine rd_seqE ?_ | refine rd_next ?_ | refine rd_rtE ?_ | refine rd_nxE ?_ | refine rd_nx ?_ | refine rd_rt ?_ | refine rd_drop ?_ | refine rd_ret ?_ | refine rd_dif ?_ | refine rd_c ?_ | refine rd_op ?_ | refine rd_b ?_ | refine rd_bK ?_ | refine rd_tru ?_ | refine rd_tKb ?_ | refine rd_or ?_ | refine rd_not ?_ | refine rd_nil ?_ | refine rd_cons ?_ | refine rd_cb ?_ | refine rd_call ?_ | refine rd_sp1 ?_ | refine rd_sp2 ?_ | refine rd_sp3 ?_ | refine rd_cmp ?_ | refine rd_lc ?_ | refine rd_yes ?_ | refine rd_wseq ?_ | refine rd_wsT ?_ | refine rd_wsL ?_ | refine rd_wsS ?_ | refine rd_fld ?_ | refine rd_isiCI ?_ | refine rd_isiCT ?_ | refine rd_itet ?_ | refine rd_itef ?_ | refine rd_itnt ?_ | refine rd_itnf ?_) | ((with_reducible apply rd_flI); (· exact rfl)) | ((with_reducible apply rd_flR); (· (first | assumption | exact gup_same)); (· exact rfl)) | ((with_reducible apply rd_var); (· exact rfl)) | ((with_reducible apply rd_len); (· (first | assumption | exact seqD_ref (by assumption) | exact seqD_up | exact lstD_ref (by assumption) | exact lstD_up | rfl))))))
theorem ok_members_told {P : Program} {w : World} {K : Fg} {mg : Str → Option Value} {base : Heap} {t_MAX_EXPONENT t_MAX_LETTERS t_MAX_MEMBERS t_MAX_MEMBER_EXPONENT t_MAX_PASSED t_MOST_COUNTED t_MOST_FAR : Tok} {c_KeptMembers c_Lot tb_free_set_in : Addr} {f f_few_least_of f_is_passed_member : Addr} {fd d_few_least_of d_is_passed_member : FuncData} (D : Dfn K mg "members_told" s_members_told ["letters", "members"] f fd) (T : Txt P K mg t_MAX_EXPONENT t_MAX_LETTERS t_MAX_MEMBERS t_MAX_MEMBER_EXPONENT t_MAX_PASSED t_MOST_COUNTED t_MOST_FAR c_KeptMembers c_Lot tb_free_set_in) (D_few_least_of : Dfn K mg "few_least_of" s_few_least_of ["products"] f_few_least_of d_few_least_of) (G_few_least_of : FnOk P w K mg base CX0 3 f_few_least_of d_few_least_of ["products"] (upSp K (sp_few_least_of c_KeptMembers c_Lot tb_free_set_in))) (D_is_passed_member : Dfn K mg "is_passed_member" s_is_passed_member ["letters", "value"] f_is_passed_member d_is_passed_member) (G_is_passed_member : FnOk P w K mg base CX0 3 f_is_passed_member d_is_passed_member ["letters", "value"] (upSp K (sp_is_passed_member c_KeptMembers c_Lot tb_free_set_in))) :
    FnOk P w K mg base CX0 4 f fd ["letters", "members"] (upSp K (sp_members_told c_KeptMembers c_Lot tb_free_set_in)) := by
  refine fun_okD D.fn sc_members_told (fun ds g Q h => len2 h) (fun cdv A outer s H E hr => ⟨_, (pds_cons (pds_if (pt_truD (pd_callB (cr_isiC T.F_KeptMembers.sc T.F_KeptMembers.si kit_me) (ref_isiC T.F_KeptMembers.ni) T.b_isinstance (by decide +kernel) (pda_cons (pdv 1) (pda_cons (pd_globR T.g_KeptMembers) pda_nil)))) (pds_one (pds_ret (pd_fld T.F_KeptMembers.sc T.s_KeptMembers_own_members.choose_spec (pdv 1)))) pds_nil) (pds_cons (pds_if (pwd_pt (pwd_or (pt_notD (pt_truD (pd_callB call_isiY ref_isi T.b_isinstance (by decide +kernel) (pda_cons (pdv 1) (pda_cons (pd_ty (n := "tuple") T.b_tuple (by decide +kernel)) pda_nil))))) (pwd_or1 (pt_cmpD op_gt (RefCmp.op ref_cmp) (pd_callB call_len_seq ref_len T.b_len (by decide +kernel) (pda_cons (pdv 1) pda_nil)) (pd_globI T.c_MAX_PASSED) (nomark _))))) (pds_one pds_never) pds_nil) (pds_cons (pds_if (pt_notD (pt_truD (pd_callB (cr_all rfl) ref_bs T.b_all (by decide +kernel) (pda_cons (pd_lc (own := [("member", 2)]) (tg := .nm 2) rfl sc_members_told.nd (pid_seq (pdv 1)) (blkOk_by (own := [("member", 2)]) (N := N_members_told) (sc := defScope s_members_told) (by decide +kernel)) (fun _ _ _ _ _ => (pgd_nm (i := 2) sc_members_told.nd)) (fun _ _ _ _ _ => ptsd_nil) (fun _ _ _ _ _ => (pd_call G_is_passed_member (hr.mono (by decide)) D_is_passed_member.at_ D_is_passed_member.fn.kp D_is_passed_member.bd pass0 (pda_cons (pdv 0) (pda_cons (pdv 2) pda_nil))))) pda_nil)))) (pds_one pds_never) pds_nil) (pds_one (pds_ret (pd_call G_few_least_of (hr.mono (by decide)) D_few_least_of.at_ D_few_least_of.fn.kp D_few_least_of.bd pass0 (pda_cons (pdv 1) pda_nil))))))), ?_⟩)
  intro ds g Q h
  obtain ⟨a0, a1, rfl, h⟩ := sp2_of h
  rw [show startD N_members_told [a0, a1] = [some a0, some a1, none] from rfl]
  obtain ⟨n, M, e1, n1, n8, ht, k⟩ := h
  subst e1
  rcases ht with e2 | ⟨L, e2, hp, hl, e3⟩
  · subst e2
    walk_at "rr11"
    exact dret k
  · subst e2 e3
    walk_at "rr11"
    refine rd_isiT ?_
    walk_at "rr11"
    rw [decide_eq_false (by rw [List.length_map]; omega)]
    walk_at "rr11"
    refine rd_zK (by rw [List.length_map]; omega) (comp_map (f := fun _ => .bl true) (fun d hd => ?_) ?_)
    · obtain ⟨m, hm, e⟩ := tI_mem hd
      subst e
      refine ⟨_, rfl, fun Q2 h2 => ?_⟩
      walk_at "rr11"
      exact ⟨n, m, rfl, rfl, (hp m hm).1, n8, (hp m hm).2, h2⟩
    · walk_at "rr11"
      refine rd_bs rfl (blsD_fun (fun _ => true) _) ?_
      rw [all_tt]
      walk_at "rr11"
      exact ⟨n, L, .inl rfl, n1, n8, hp.mono (by decide), hl, dret k⟩

abbrev s_Lot___init__ : Stmt := inClass (topS 38) 1
abbrev N_Lot___init__ : List Str := ["self", "letters", "members"]
theorem sc_Lot___init__ : FnScope N_Lot___init__ ["self", "letters", "members"] (defScope s_Lot___init__) := ⟨rfl, rfl, rfl, by decide +kernel, rfl, by decide +kernel, by decide +kernel⟩
abbrev sp_Lot___init__ (c_KeptMembers c_Lot tb_free_set_in : Addr) : SpD :=
  sp3 fun a b c g P => ∃ (p : Addr) (n : Nat) (M : List (List Int)), a = .ref p ∧ b = .int (n : Int) ∧ 1 ≤ n ∧ n ≤ 8 ∧ Told c_KeptMembers n c M ∧ g p = some (.ins c_Lot []) ∧ P .non (gup g p (.ins c_Lot [some (.int (n : Int)), some (.tup (M.map tI))]))

local macro_rules | `(tactic| walk_at "rr12") => `(tactic| (repeat (first | (with_reducible first | refine rd_seq ?_ | refine rd_seqE ?_ | refine rd_next ?_ | refine rd_rtE ?_ | refine rd_nxE ?_ | refine rd_nx ?_ | refine rd_rt ?_ | refine rd_drop ?_ | refine rd_ret ?_ | refine rd_c ?_ | refine rd_op ?_ | refine rd_b ?_ | refine rd_bK ?_ | refine rd_nil ?_ | refine rd_cons ?_ | refine rd_cb ?_ | refine rd_call ?_ | refine rd_sp1 ?_ | refine rd_sp2 ?_ | refine rd_sp3 ?_ | refine rd_sto ?_ | refine rd_itet ?_ | refine rd_itef ?_ | refine rd_itnt ?_ | refine rd_itnf ?_) | ((with_reducible apply rd_stoK); (· (first | assumption | exact gup_same))) | ((with_reducible apply rd_var); (· exact rfl)))))
theorem ok_Lot___init__ {P : Program} {w : World} {K : Fg} {mg : Str → Option Value} {base : Heap} {t_MAX_EXPONENT t_MAX_LETTERS t_MAX_MEMBERS t_MAX_MEMBER_EXPONENT t_MAX_PASSED t_MOST_COUNTED t_MOST_FAR : Tok} {c_KeptMembers c_Lot tb_free_set_in : Addr} {f f_members_told f_require_letters : Addr} {fd d_members_told d_require_letters : FuncData} (D : Mtd K c_Lot "__init__" "Lot.__init__" s_Lot___init__ ["self", "letters", "members"] f fd) (T : Txt P K mg t_MAX_EXPONENT t_MAX_LETTERS t_MAX_MEMBERS t_MAX_MEMBER_EXPONENT t_MAX_PASSED t_MOST_COUNTED t_MOST_FAR c_KeptMembers c_Lot tb_free_set_in) (D_members_told : Dfn K mg "members_told" s_members_told ["letters", "members"] f_members_told d_members_told) (G_members_told : FnOk P w K mg base CX0 4 f_members_told d_members_told ["letters", "members"] (upSp K (sp_members_told c_KeptMembers c_Lot tb_free_set_in))) (D_require_letters : Dfn K mg "require_letters" s_require_letters ["letters"] f_require_letters d_require_letters) (G_require_letters : FnOk P w K mg base CX0 4 f_require_letters d_require_letters ["letters"] (upSp K (sp_require_letters c_KeptMembers c_Lot tb_free_set_in))) :
    FnOk P w K mg base CX0 5 f fd ["self", "letters", "members"] (upSp K (sp_Lot___init__ c_KeptMembers c_Lot tb_free_set_in)) := by
  refine fun_okD D.fn sc_Lot___init__ (fun ds g Q h => len3 h) (fun cdv A outer s H E hr => ⟨_, (pds_cons (pds_expr (pd_call G_require_letters (hr.mono (by decide)) D_require_letters.at_ D_require_letters.fn.kp D_require_letters.bd pass0 (pda_cons (pdv 1) pda_nil))) (pds_cons (pds_sto T.F_Lot.sc T.s_Lot_own_members.choose_spec (pdv 0) (pd_call G_members_told (hr.mono (by decide)) D_members_told.at_ D_members_told.fn.kp D_members_told.bd pass0 (pda_cons (pdv 1) (pda_cons (pdv 2) pda_nil)))) (pds_one (pds_sto T.F_Lot.sc T.s_Lot_own_letters.choose_spec (pdv 0) (pdv 1))))), ?_⟩)
  intro ds g Q h
  obtain ⟨a0, a1, a2, rfl, h⟩ := sp3_of h
  rw [show startD N_Lot___init__ [a0, a1, a2] = [some a0, some a1, some a2] from rfl]
  obtain ⟨p, n, M, e1, e2, n1, n8, ht, hg, k⟩ := h
  subst e1 e2
  walk_at "rr12"
  refine ⟨n, rfl, by omega, by omega, ?_⟩
  walk_at "rr12"
  refine ⟨n, M, rfl, n1, n8, ht, ?_⟩
  walk_at "rr12"
  rw [gup_gup]
  exact dret k

abbrev s_is_all_in : Stmt := topS 43
abbrev N_is_all_in : List Str := ["members"]
theorem sc_is_all_in : FnScope N_is_all_in ["members"] (defScope s_is_all_in) := ⟨rfl, rfl, rfl, by decide +kernel, rfl, by decide +kernel, by decide +kernel⟩
abbrev sp_is_all_in (c_KeptMembers c_Lot tb_free_set_in : Addr) : SpD :=
  sp1 fun a g P => ∃ (n : Nat) (M : List (List Int)), a = .tup (M.map tI) ∧ 1 ≤ n ∧ n ≤ 8 ∧ Prods n 60 M ∧ P (.bl (isAllB M)) g

local macro_rules | `(tactic| walk_at "rr13") => `(tactic| (repeat (first | (with_reducible first | refine rd_seq ?_ | refine rd_seqE ?_ | refine rd_next ?_ | refine rd_rtE ?_ | refine rd_nxE ?_ | refine rd_nx ?_ | refine rd_rt ?_ | refine rd_drop ?_ | refine rd_ret ?_ | refine rd_c ?_ | refine rd_op ?_ | refine rd_b ?_ | refine rd_bK ?_ | refine rd_andV ?_ | refine rd_tvKb ?_ | refine rd_nil ?_ | refine rd_cons ?_ | refine rd_cb ?_ | refine rd_call ?_ | refine rd_sp1 ?_ | refine rd_sp2 ?_ | refine rd_sp3 ?_ | refine rd_itet ?_ | refine rd_itef ?_ | refine rd_itnt ?_ | refine rd_itnf ?_) | ((with_reducible apply rd_var); (· exact rfl)) | ((with_reducible apply rd_len); (· (first | assumption | exact seqD_ref (by assumption) | exact seqD_up | exact lstD_ref (by assumption) | exact lstD_up | rfl))) | ((with_reducible apply rd_ix); (· (first | assumption | exact seqD_ref (by assumption) | exact seqD_up | exact lstD_ref (by assumption) | exact lstD_up | rfl)); (· (first | exact atI_c0 _ _ | exact atI_c1 _ _ _ | exact atI_c2 _ _ _ _ | assumption | rfl))))))
theorem ok_is_all_in {P : Program} {w : World} {K : Fg} {mg : Str → Option Value} {base : Heap} {t_MAX_EXPONENT t_MAX_LETTERS t_MAX_MEMBERS t_MAX_MEMBER_EXPONENT t_MAX_PASSED t_MOST_COUNTED t_MOST_FAR : Tok} {c_KeptMembers c_Lot tb_free_set_in : Addr} {f : Addr} {fd : FuncData} (D : Dfn K mg "is_all_in" s_is_all_in ["members"] f fd) (T : Txt P K mg t_MAX_EXPONENT t_MAX_LETTERS t_MAX_MEMBERS t_MAX_MEMBER_EXPONENT t_MAX_PASSED t_MOST_COUNTED t_MOST_FAR c_KeptMembers c_Lot tb_free_set_in) :
    FnOk P w K mg base CX0 1 f fd ["members"] (upSp K (sp_is_all_in c_KeptMembers c_Lot tb_free_set_in)) := by
  refine fun_okD D.fn sc_is_all_in (fun ds g Q h => len1 h) (fun cdv A outer s H E hr => ⟨_, (pds_one (pds_ret (pd_and (pd_cmp (op_eqD hr.units) (RefCmp.op ref_eq) (pd_callB call_len_seq ref_len T.b_len (by decide +kernel) (pda_cons (pdv 0) pda_nil)) pd_int (nomark _)) (pd_one (pd_cmp (op_eqD hr.units) (RefCmp.op ref_eq) (pd_callB (cr_maxS rfl) ref_maxS T.b_max (by decide +kernel) (pda_cons (pd_ix (pdv 0) pd_int) pda_nil)) pd_int (nomark _)))))), ?_⟩)
  intro ds g Q h
  obtain ⟨a0, rfl, h⟩ := sp1_of h
  rw [show startD N_is_all_in [a0] = [some a0] from rfl]
  obtain ⟨n, M, e1, n1, n8, hp, k⟩ := h
  subst e1
  rcases M with _ | ⟨m, _ | ⟨m2, r⟩⟩
  · walk_at "rr13"
    refine rd_eq (okD_int _) (okD_int _) ?_
    rw [eqD_int, decide_eq_false (by simp)]
    walk_at "rr13"
    exact dret k
  · walk_at "rr13"
    refine rd_eq (okD_int _) (okD_int _) ?_
    rw [eqD_int, decide_eq_true (by simp)]
    obtain ⟨h1, h2⟩ := hp m List.mem_cons_self
    walk_at "rr13"
    refine rd_maxS (ns := m) rfl (by omega) fun z hz hzm => ?_
    walk_at "rr13"
    refine rd_eq (okD_int _) (okD_int _) ?_
    rw [eqD_int, max_zero (fun y hy => (h2 y hy).1) hz hzm]
    walk_at "rr13"
    exact dret k
  · walk_at "rr13"
    refine rd_eq (okD_int _) (okD_int _) ?_
    rw [eqD_int, decide_eq_false (by simp; omega)]
    walk_at "rr13"
    exact dret k

abbrev s_require_lot : Stmt := topS 46
abbrev N_require_lot : List Str := ["value"]
theorem sc_require_lot : FnScope N_require_lot ["value"] (defScope s_require_lot) := ⟨rfl, rfl, rfl, by decide +kernel, rfl, by decide +kernel, by decide +kernel⟩
abbrev sp_require_lot (c_KeptMembers c_Lot tb_free_set_in : Addr) : SpD :=
  sp1 fun a g P => ∃ (n : Nat) (M : List (List Int)), a = lotD c_Lot n M ∧ P .non g

theorem ok_require_lot {P : Program} {w : World} {K : Fg} {mg : Str → Option Value} {base : Heap} {t_MAX_EXPONENT t_MAX_LETTERS t_MAX_MEMBERS t_MAX_MEMBER_EXPONENT t_MAX_PASSED t_MOST_COUNTED t_MOST_FAR : Tok} {c_KeptMembers c_Lot tb_free_set_in : Addr} {f : Addr} {fd : FuncData} (D : Dfn K mg "require_lot" s_require_lot ["value"] f fd) (T : Txt P K mg t_MAX_EXPONENT t_MAX_LETTERS t_MAX_MEMBERS t_MAX_MEMBER_EXPONENT t_MAX_PASSED t_MOST_COUNTED t_MOST_FAR c_KeptMembers c_Lot tb_free_set_in) :
    FnOk P w K mg base CX0 1 f fd ["value"] (upSp K (sp_require_lot c_KeptMembers c_Lot tb_free_set_in)) := by
  refine fun_okD D.fn sc_require_lot (fun ds g Q h => len1 h) (fun cdv A outer s H E hr => ⟨_, (pds_one (pds_if (pt_notD (pt_truD (pd_callB (cr_isiC T.F_Lot.sc T.F_Lot.si kit_me) (ref_isiC T.F_Lot.ni) T.b_isinstance (by decide +kernel) (pda_cons (pdv 0) (pda_cons (pd_globR T.g_Lot) pda_nil))))) (pds_one pds_never) pds_nil)), ?_⟩)
  intro ds g Q h
  obtain ⟨a0, rfl, h⟩ := sp1_of h
  rw [show startD N_require_lot [a0] = [some a0] from rfl]
  obtain ⟨n, M, e1, k⟩ := h
  subst e1
  (repeat (first | (with_reducible first | refine rd_seq ?_ | refine rd_seqE ?_ | refine rd_next ?_ | refine rd_rtE ?_ | refine rd_nxE ?_ | refine rd_nx ?_ | refine rd_rt ?_ | refine rd_drop ?_ | refine rd_ret ?_ | refine rd_dif ?_ | refine rd_c ?_ | refine rd_op ?_ | refine rd_b ?_ | refine rd_bK ?_ | refine rd_tru ?_ | refine rd_tKb ?_ | refine rd_not ?_ | refine rd_nil ?_ | refine rd_cons ?_ | refine rd_cb ?_ | refine rd_call ?_ | refine rd_sp1 ?_ | refine rd_sp2 ?_ | refine rd_sp3 ?_ | refine rd_isiCI ?_ | refine rd_isiCT ?_ | refine rd_itet ?_ | refine rd_itef ?_ | refine rd_itnt ?_ | refine rd_itnf ?_) | ((with_reducible apply rd_var); (· exact rfl))))
  exact dret k

abbrev s_most_common_letter : Stmt := topS 50
abbrev N_most_common_letter : List Str := ["members", "found", "many", "place", "member"]
theorem sc_most_common_letter : FnScope N_most_common_letter ["members"] (defScope s_most_common_letter) := ⟨rfl, rfl, rfl, by decide +kernel, rfl, by decide +kernel, by decide +kernel⟩
abbrev sp_most_common_letter (c_KeptMembers c_Lot tb_free_set_in : Addr) : SpD :=
  sp1 fun a g P => ∃ (n : Nat) (M : List (List Int)), a = .tup (M.map tI) ∧ 1 ≤ n ∧ n ≤ 8 ∧ Prods n 60 M ∧ M.length ≤ 24 ∧ M ≠ [] ∧ ∀ j, j < n → (∀ i < n, cnt M i ≤ cnt M j) → P (.tup [.int (cnt M j : Int), .int (j : Int)]) g

local macro_rules | `(tactic| walk_at "rr14") => `(tactic| (repeat (first | (with_reducible first | refine rd_seq ?_ | refine rd_seqE ?_ | refine rd_next ?_ | refine rd_rtE ?_ | refine rd_nxE ?_ | refine rd_nx ?_ | refine rd_rt ?_ | refine rd_drop ?_ | refine rd_ret ?_ | refine rd_asg ?_ | refine rd_c ?_ | refine rd_op ?_ | refine rd_un ?_ | refine rd_b ?_ | refine rd_bK ?_ | refine rd_nil ?_ | refine rd_cons ?_ | refine rd_tup ?_ | refine rd_cb ?_ | refine rd_call ?_ | refine rd_sp1 ?_ | refine rd_sp2 ?_ | refine rd_sp3 ?_ | refine rd_cmp ?_ | refine rd_lc ?_ | refine rd_yes ?_ | refine rd_wseq ?_ | refine rd_wsT ?_ | refine rd_wsL ?_ | refine rd_wsS ?_ | refine rd_rng1 ?_ | refine rd_ng ?_ | refine rd_itet ?_ | refine rd_itef ?_ | refine rd_itnt ?_ | refine rd_itnf ?_) | ((with_reducible apply rd_var); (· exact rfl)) | ((with_reducible apply rd_asgK); (· exact rfl)) | ((with_reducible apply rd_len); (· (first | assumption | exact seqD_ref (by assumption) | exact seqD_up | exact lstD_ref (by assumption) | exact lstD_up | rfl))) | ((with_reducible apply rd_ix); (· (first | assumption | exact seqD_ref (by assumption) | exact seqD_up | exact lstD_ref (by assumption) | exact lstD_up | rfl)); (· (first | exact atI_c0 _ _ | exact atI_c1 _ _ _ | exact atI_c2 _ _ _ _ | assumption | rfl))))))
theorem ok_most_common_letter {P : Program} {w : World} {K : Fg} {mg : Str → Option Value} {base : Heap} {t_MAX_EXPONENT t_MAX_LETTERS t_MAX_MEMBERS t_MAX_MEMBER_EXPONENT t_MAX_PASSED t_MOST_COUNTED t_MOST_FAR : Tok} {c_KeptMembers c_Lot tb_free_set_in : Addr} {f : Addr} {fd : FuncData} (D : Dfn K mg "most_common_letter" s_most_common_letter ["members"] f fd) (T : Txt P K mg t_MAX_EXPONENT t_MAX_LETTERS t_MAX_MEMBERS t_MAX_MEMBER_EXPONENT t_MAX_PASSED t_MOST_COUNTED t_MOST_FAR c_KeptMembers c_Lot tb_free_set_in) :
    FnOk P w K mg base CX0 1 f fd ["members"] (upSp K (sp_most_common_letter c_KeptMembers c_Lot tb_free_set_in)) := by
  refine fun_okD D.fn sc_most_common_letter (fun ds g Q h => len1 h) (fun cdv A outer s H E hr => ⟨_, (pds_cons (pds_setLc (i := 1) (own := [("place", 3)]) (tg := .nm 3) rfl sc_most_common_letter.nd (sw_true rfl rfl rfl (by decide +kernel)) (pid_range1 T.b_range (pda_cons (pd_callB call_len_seq ref_len T.b_len (by decide +kernel) (pda_cons (pd_ix (pdv 0) pd_int) pda_nil)) pda_nil)) (blkOk_by (own := [("place", 3)]) (N := N_most_common_letter) (sc := defScope s_most_common_letter) (by decide +kernel)) (fun _ _ _ _ _ => (pgd_nm (i := 3) sc_most_common_letter.nd)) (fun _ _ _ _ _ => ptsd_nil) (fun _ _ _ _ _ => (pd_tup (pda_cons (pd_callB call_len_seq ref_len T.b_len (by decide +kernel) (pda_cons (pd_lc (own := [("member", 4)]) (tg := .nm 4) rfl sc_most_common_letter.nd (pid_seq (pdv 0)) (blkOk_by (own := [("member", 4)]) (N := N_most_common_letter) (by kernel_rfl)) (fun _ _ _ _ _ => (pgd_nm (i := 4) sc_most_common_letter.nd)) (fun _ _ _ _ _ => (ptsd_one (pt_cmpD op_gt (RefCmp.op ref_cmp) (pd_ix (pdv 4) (pdv 3)) pd_int (nomark _)))) (fun _ _ _ _ _ => pd_int)) pda_nil)) (pda_cons (pd_neg (pdv 3)) pda_nil))))) (pds_cons (pds_setT (tg := .tp [2, 3]) (pgd_tp (is := [2, 3]) rfl (pgd_cons (i := 2) (pgd_nm (i := 2) sc_most_common_letter.nd) (pgd_cons (i := 3) (pgd_nm (i := 3) sc_most_common_letter.nd) pgd_nil))) (pd_callB (cr_maxT rfl hr.units) ref_maxT T.b_max (by decide +kernel) (pda_cons (pdv 1) pda_nil))) (pds_one (pds_ret (pd_tup (pda_cons (pdv 2) (pda_cons (pd_neg (pdv 3)) pda_nil))))))), ?_⟩)
  intro ds g Q h
  obtain ⟨a0, rfl, h⟩ := sp1_of h
  rw [show startD N_most_common_letter [a0] = [some a0, none, none, none, none] from rfl]
  obtain ⟨n, M, e1, n1, n8, hp, hl, hne, k⟩ := h
  subst e1
  obtain ⟨m0, r0, eM⟩ : ∃ m0 r0, M = m0 :: r0 := by
    cases M with
    | nil => exact absurd rfl hne
    | cons m r => exact ⟨m, r, rfl⟩
  have hm0 := (hp m0 (by rw [eM]; exact List.mem_cons_self)).1
  walk_at "rr14"
  (with_reducible apply rd_ix)
  · rfl
  · exact atI_nat (j := 0) (v := tI m0) (by rw [eM]; rfl)
  walk_at "rr14"
  rw [List.length_map, hm0]
  refine rd_rng1K (j := (n : Int)) ⟨by omega, by omega⟩ ?_
  rw [Int.toNat_natCast]
  refine rd_zK (by rw [rangeD_len]; omega) (comp_map (f := cmlD M) (fun d hd => ?_) ?_)
  · obtain ⟨i, hi⟩ := List.mem_iff_getElem?.mp hd
    obtain ⟨hil, e⟩ := rangeD_at hi
    subst e
    refine ⟨_, rfl, fun Q2 h2 => ?_⟩
    walk_at "rr14"
    refine rd_zK (by rw [List.length_map]; omega) (comp_fil (p := pozD i) (f := fun _ => .int 1) (fun d hd => ?_) ?_)
    · obtain ⟨m, hm, e⟩ := tI_mem hd
      subst e
      have hml := (hp m hm).1
      refine ⟨_, rfl, fun Q' h' => ?_, fun _ Q2 h2 => ?_⟩
      · walk_at "rr14"
        (with_reducible apply rd_ix)
        · rfl
        · exact atI_ints (show i < m.length by omega)
        walk_at "rr14"
        rw [pozD_at, getD_at m (by omega)] at h'
        exact h'
      · walk_at "rr14"
        exact h2
    · walk_at "rr14"
      rw [List.length_map, poz_cnt]
      walk_at "rr14"
      rw [cmlD_at] at h2
      refine rd_zK (by show 2 ≤ 16777216; decide) ?_
      exact h2
  · walk_at "rr14"
    rw [com_range]
    obtain ⟨i0, rr, er⟩ : ∃ i0 rr, List.range n = i0 :: rr := by
      cases e : List.range n with
      | nil => rw [List.range_eq_nil] at e; omega
      | cons x r => exact ⟨x, r, rfl⟩
    obtain ⟨j, hj, ej, hmax⟩ := most_is (M := M) er
    refine rd_maxT (k := comL M i0) (r := rr.map (comL M)) (by rw [er]; rfl) ?_
    rw [ej, show tuI (comL M j) = .tup [.int (cnt M j : Int), .int (-(j : Int))] from rfl]
    walk_at "rr14"
    rw [Int.neg_neg]
    refine rd_zK (by show 2 ≤ 16777216; decide) ?_
    exact dret (k j hj hmax)

abbrev s_split_exponent : Stmt := topS 51
abbrev N_split_exponent : List Str := ["members", "place", "exponents", "member"]
theorem sc_split_exponent : FnScope N_split_exponent ["members", "place"] (defScope s_split_exponent) := ⟨rfl, rfl, rfl, by decide +kernel, rfl, by decide +kernel, by decide +kernel⟩
abbrev sp_split_exponent (c_KeptMembers c_Lot tb_free_set_in : Addr) : SpD :=
  sp2 fun a b g P => ∃ (n i : Nat) (M : List (List Int)), a = .tup (M.map tI) ∧ b = .int (i : Int) ∧ i < n ∧ Prods n 60 M ∧ M.length ≤ 24 ∧ 2 ≤ cnt M i ∧ ∀ e : Int, 1 ≤ e → 2 ≤ (M.filter fun m => decide (e ≤ m.getD i 0)).length → P (.int e) g

local macro_rules | `(tactic| walk_at "rr15") => `(tactic| (repeat (first | (with_reducible first | refine rd_seq ?_ | refine rd_seqE ?_ | refine rd_next ?_ | refine rd_rtE ?_ | refine rd_nxE ?_ | refine rd_nx ?_ | refine rd_rt ?_ | refine rd_drop ?_ | refine rd_ret ?_ | refine rd_asg ?_ | refine rd_c ?_ | refine rd_op ?_ | refine rd_b ?_ | refine rd_bK ?_ | refine rd_nil ?_ | refine rd_cons ?_ | refine rd_cb ?_ | refine rd_call ?_ | refine rd_sp1 ?_ | refine rd_sp2 ?_ | refine rd_sp3 ?_ | refine rd_sub ?_ | refine rd_cmp ?_ | refine rd_lc ?_ | refine rd_wseq ?_ | refine rd_wsT ?_ | refine rd_wsL ?_ | refine rd_wsS ?_ | refine rd_itet ?_ | refine rd_itef ?_ | refine rd_itnt ?_ | refine rd_itnf ?_) | ((with_reducible apply rd_var); (· exact rfl)) | ((with_reducible apply rd_asgK); (· exact rfl)) | ((with_reducible apply rd_len); (· (first | assumption | exact seqD_ref (by assumption) | exact seqD_up | exact lstD_ref (by assumption) | exact lstD_up | rfl))) | ((with_reducible apply rd_ix); (· (first | assumption | exact seqD_ref (by assumption) | exact seqD_up | exact lstD_ref (by assumption) | exact lstD_up | rfl)); (· (first | exact atI_c0 _ _ | exact atI_c1 _ _ _ | exact atI_c2 _ _ _ _ | assumption | rfl))))))
theorem ok_split_exponent {P : Program} {w : World} {K : Fg} {mg : Str → Option Value} {base : Heap} {t_MAX_EXPONENT t_MAX_LETTERS t_MAX_MEMBERS t_MAX_MEMBER_EXPONENT t_MAX_PASSED t_MOST_COUNTED t_MOST_FAR : Tok} {c_KeptMembers c_Lot tb_free_set_in : Addr} {f : Addr} {fd : FuncData} (D : Dfn K mg "split_exponent" s_split_exponent ["members", "place"] f fd) (T : Txt P K mg t_MAX_EXPONENT t_MAX_LETTERS t_MAX_MEMBERS t_MAX_MEMBER_EXPONENT t_MAX_PASSED t_MOST_COUNTED t_MOST_FAR c_KeptMembers c_Lot tb_free_set_in) :
    FnOk P w K mg base CX0 1 f fd ["members", "place"] (upSp K (sp_split_exponent c_KeptMembers c_Lot tb_free_set_in)) := by
  refine fun_okD D.fn sc_split_exponent (fun ds g Q h => len2 h) (fun cdv A outer s H E hr => ⟨_, (pds_cons (pds_set (i := 2) sc_split_exponent.nd (pd_callB (cr_sortedD hr.units) ref_sorted T.b_sorted (by decide +kernel) (pda_cons (pd_lc (own := [("member", 3)]) (tg := .nm 3) rfl sc_split_exponent.nd (pid_seq (pdv 0)) (blkOk_by (own := [("member", 3)]) (N := N_split_exponent) (sc := defScope s_split_exponent) (by decide +kernel)) (fun _ _ _ _ _ => (pgd_nm (i := 3) sc_split_exponent.nd)) (fun _ _ _ _ _ => (ptsd_one (pt_cmpD op_gt (RefCmp.op ref_cmp) (pd_ix (pdv 3) (pdv 1)) pd_int (nomark _)))) (fun _ _ _ _ _ => (pd_ix (pdv 3) (pdv 1)))) pda_nil))) (pds_one (pds_ret (pd_ix (pdv 2) (pd_fdiv (pd_sub (pd_callB call_len_seq ref_len T.b_len (by decide +kernel) (pda_cons (pdv 2) pda_nil)) pd_int) pd_int))))), ?_⟩)
  intro ds g Q h
  obtain ⟨a0, a1, rfl, h⟩ := sp2_of h
  rw [show startD N_split_exponent [a0, a1] = [some a0, some a1, none, none] from rfl]
  obtain ⟨n, i, M, e1, e2, hi, hp, hl, hc, k⟩ := h
  subst e1 e2
  walk_at "rr15"
  refine rd_zK (by rw [List.length_map]; omega) (comp_fil (p := pozD i) (f := exD i) (fun d hd => ?_) ?_)
  · obtain ⟨m, hm, e⟩ := tI_mem hd
    subst e
    have hml := (hp m hm).1
    refine ⟨_, rfl, fun Q' h' => ?_, fun _ Q2 h2 => ?_⟩
    · walk_at "rr15"
      (with_reducible apply rd_ix)
      · rfl
      · exact atI_ints (show i < m.length by omega)
      walk_at "rr15"
      rw [pozD_at, getD_at m (by omega)] at h'
      exact h'
    · walk_at "rr15"
      (with_reducible apply rd_ix)
      · rfl
      · exact atI_ints (show i < m.length by omega)
      walk_at "rr15"
      rw [exD_at (show i < m.length by omega), getD_at m (by omega)] at h2
      exact h2
  · rw [ex_map hp hi]
    walk_at "rr15"
    refine rd_sorted rfl (sort_is _) ?_
    rw [sortI_map]
    have hpm := List.mergeSort_perm ((M.filter fun m => decide (0 < m.getD i 0)).map fun m => m.getD i 0) (fun a b => decide (a ≤ b))
    have hso : (((M.filter fun m => decide (0 < m.getD i 0)).map fun m => m.getD i 0).mergeSort fun a b => decide (a ≤ b)).Pairwise (· ≤ ·) := asc_sorted _
    generalize ((M.filter fun m => decide (0 < m.getD i 0)).map fun m => m.getD i 0).mergeSort (fun a b => decide (a ≤ b)) = E at hpm hso ⊢
    have hE : E.length = cnt M i := by rw [hpm.length_eq, List.length_map]; rfl
    walk_at "rr15"
    refine rd_rI (divW (by decide) (by decide)) ?_
    rw [List.length_map, hE, show ((cnt M i : Int) - 1) / 2 = ((cnt M i - 1) / 2 : Nat) by omega]
    have hlt : (cnt M i - 1) / 2 < E.length := by omega
    (with_reducible apply rd_ix)
    · rfl
    · exact atI_ints hlt
    obtain ⟨h1, h2⟩ := two_above hpm hso hc (List.getElem?_eq_getElem hlt)
    walk_at "rr15"
    exact dret (k _ h1 h2)

abbrev s_apart_numerator : Stmt := topS 52
abbrev N_apart_numerator : List Str := ["members", "found", "member", "size", "later", "degree", "number"]
theorem sc_apart_numerator : FnScope N_apart_numerator ["members"] (defScope s_apart_numerator) := ⟨rfl, rfl, rfl, by decide +kernel, rfl, by decide +kernel, by decide +kernel⟩
abbrev sp_apart_numerator (c_KeptMembers c_Lot tb_free_set_in : Addr) : SpD :=
  sp1 fun a g P => ∃ (n : Nat) (M : List (List Int)) (b : List Int), a = .tup (M.map tI) ∧ n ≤ 8 ∧ Prods n 60 M ∧ M.length ≤ 24 ∧ (∀ i < n, cnt M i < 2) ∧ b.length = n ∧ (∀ y ∈ b, 0 ≤ y) ∧ Box b M ∧ b.sum ≤ 40 ∧ ∀ ks p, RepK ks (kp M) b.sum → g p = none → P (.ref p) (gup g p (fnO ks (kp M)))

local macro_rules | `(tactic| walk_at "rr16") => `(tactic| (repeat (first | (with_reducible first | refine rd_seq ?_ | refine rd_seqE ?_ | refine rd_next ?_ | refine rd_rtE ?_ | refine rd_nxE ?_ | refine rd_nx ?_ | refine rd_rt ?_ | refine rd_ct ?_ | refine rd_bk ?_ | refine rd_drop ?_ | refine rd_ret ?_ | refine rd_asg ?_ | refine rd_par ?_ | refine rd_for ?_ | refine rd_c ?_ | refine rd_op ?_ | refine rd_b ?_ | refine rd_bK ?_ | refine rd_nil ?_ | refine rd_cons ?_ | refine rd_cb ?_ | refine rd_call ?_ | refine rd_sp1 ?_ | refine rd_sp2 ?_ | refine rd_sp3 ?_ | refine rd_add ?_ | refine rd_sub ?_ | refine rd_wseq ?_ | refine rd_wsT ?_ | refine rd_wsL ?_ | refine rd_wsS ?_ | refine rd_dput ?_ | refine rd_cbM ?_ | refine rd_dget2 ?_ | refine rd_isd ?_ | refine rd_dispKM ?_ | refine rd_wiK ?_ | refine rd_itet ?_ | refine rd_itef ?_ | refine rd_itnt ?_ | refine rd_itnf ?_) | ((with_reducible apply rd_var); (· exact rfl)) | ((with_reducible apply rd_asgK); (· exact rfl)) | ((with_reducible apply rd_parK); (· exact rfl)))))
theorem ok_apart_numerator {P : Program} {w : World} {K : Fg} {mg : Str → Option Value} {base : Heap} {t_MAX_EXPONENT t_MAX_LETTERS t_MAX_MEMBERS t_MAX_MEMBER_EXPONENT t_MAX_PASSED t_MOST_COUNTED t_MOST_FAR : Tok} {c_KeptMembers c_Lot tb_free_set_in : Addr} {f : Addr} {fd : FuncData} (D : Dfn K mg "apart_numerator" s_apart_numerator ["members"] f fd) (T : Txt P K mg t_MAX_EXPONENT t_MAX_LETTERS t_MAX_MEMBERS t_MAX_MEMBER_EXPONENT t_MAX_PASSED t_MOST_COUNTED t_MOST_FAR c_KeptMembers c_Lot tb_free_set_in) :
    FnOk P w K mg base CX0 1 f fd ["members"] (upSp K (sp_apart_numerator c_KeptMembers c_Lot tb_free_set_in)) := by
  refine fun_okD D.fn sc_apart_numerator (fun ds g Q h => len1 h) (fun cdv A outer s H E hr => ⟨_, (pds_cons (pds_set (i := 1) sc_apart_numerator.nd (pd_dispKM (ppd_cons pd_int pd_int ppd_nil))) (pds_cons (pds_for (tg := .nm 2) PassesOwn.never rfl (pid_seq (pdv 0)) (pgd_nm (i := 2) sc_apart_numerator.nd) (pds_cons (pds_par (i := 3) (j := 4) rfl sc_apart_numerator.nd (pda_cons (pd_callB (cr_sumS rfl) ref_sumS T.b_sum (by decide +kernel) (pda_cons (pdv 2) pda_nil)) (pda_cons (pd_callTyM cr_dictK ref_dictKM T.b_dict (by decide +kernel) (pda_cons (pdv 1) pda_nil)) pda_nil))) (pds_fz 1 (pds_cons (pds_for (tg := .tp [5, 6]) PassesOwn.never rfl (pid_itemsK (pdv 1)) (pgd_tp (is := [5, 6]) rfl (pgd_cons (i := 5) (pgd_nm (i := 5) sc_apart_numerator.nd) (pgd_cons (i := 6) (pgd_nm (i := 6) sc_apart_numerator.nd) pgd_nil))) (pds_one (pds_dput hr.units (pdv 4) (pd_add (pdv 5) (pdv 3)) (pd_sub (pd_dget2 hr.units (pdv 4) (pd_add (pdv 5) (pdv 3)) pd_int) (pdv 6))))) (pds_one (pds_set (i := 1) sc_apart_numerator.nd (pdv 4))))))) (pds_one (pds_ret (pdv 1))))), ?_⟩)
  intro ds g Q h
  obtain ⟨a0, rfl, h⟩ := sp1_of h
  rw [show startD N_apart_numerator [a0] = [some a0, none, none, none, none, none, none] from rfl]
  obtain ⟨n, M, b, e1, n8, hp, hl, hc, hb, b0, hx, hbs, k⟩ := h
  subst e1
  have hN := Nnn.of hp
  have hab := ap_bound hN hc hb b0 hx
  walk_at "rr16"
  refine ⟨[(.inl 0, .int 1)], .cons rfl .nil, by simp, by decide, fun p0 hp0 => ?_⟩
  walk_at "rr16"
  refine rd_loopX (I := fun j δ g' => ∃ ks f p, RepK ks f ((M.take j).map List.sum).sum ∧ (∀ d, ap f (M.drop j) d = kp M d) ∧ g p = none ∧ g' = gup g p (fnO ks f) ∧ ∃ v2 v3 v4 v5 v6, δ = [some (.tup (M.map tI)), some (.ref p), v2, v3, v4, v5, v6]) ?_ ?_ ?_
  · exact ⟨[0], kz, p0, RepK.one, fun d => (kp_ap hN hc d).symm, hp0, rfl, _, _, _, _, _, rfl⟩
  · intro j d hd δ g' f' hf hI
    obtain ⟨ks, f, p, hr, hap, hpn, eg, v2, v3, v4, v5, v6, e⟩ := hI
    subst eg e
    rw [List.getElem?_map] at hd
    obtain ⟨m, hm, e⟩ := Option.map_eq_some_iff.mp hd
    subst e
    have hmM := List.mem_of_getElem? hm
    have hms := sum_nonneg' (hN m hmM).2
    obtain ⟨t0, t1⟩ := take_le hN j
    obtain ⟨_, t2⟩ := take_le hN (j + 1)
    rw [take_sum hm] at t2
    have hkl := hr.len t0
    refine ⟨_, rfl, ?_⟩
    walk_at "rr16"
    refine rd_sumS (ns := m) rfl ?_
    walk_at "rr16"
    refine rd_dictKM (dctK_rk gup_same) fun q hq => ?_
    have hqp : p ≠ q := fun z => by rw [z, gup_same] at hq; cases hq
    have hqg : g q = none := by rw [gup_ne (fun z => hqp z.symm)] at hq; exact hq
    walk_at "rr16"
    refine rd_fzK rfl (by rw [gup_ne hqp]; exact gup_same) ?_
    rw [gdel_two hqp hpn]
    walk_at "rr16"
    refine ⟨_, _, rfl, ?_⟩
    rw [pairsK_int]
    refine rd_loopX (I := fun i δ g' => g' = gup g q (fnO (insAs ks ((ks.take i).map (· + m.sum))) (mrg f (-1) m.sum f (ks.take i))) ∧ ∃ v5 v6, δ = [some (.tup (M.map tI)), some (fnV ks f), some (tI m), some (.int m.sum), some (.ref q), v5, v6]) ?_ ?_ ?_
    · exact ⟨by rw [List.take_zero, mrg_nil]; rfl, _, _, rfl⟩
    · intro i d hd δ g' f'' hf'' hI
      obtain ⟨eg, v5, v6, e⟩ := hI
      subst eg e
      rw [List.getElem?_map] at hd
      obtain ⟨x, hx, e⟩ := Option.map_eq_some_iff.mp hd
      subst e
      have hxk := List.mem_of_getElem? hx
      have hbx := hr.bd x hxk
      have et : ks.take (i + 1) = ks.take i ++ [x] := by rw [List.take_succ, hx]; rfl
      have hnot : x ∉ ks.take i := not_take hr.nd hx
      refine ⟨_, rfl, ?_⟩
      walk_at "rr16"
      refine ⟨isD_rk gup_same, ?_⟩
      walk_at "rr16"
      refine ⟨_, at_fi gup_same, ?_⟩
      rw [getD_fi, mrg_get hr]
      walk_at "rr16"
      refine dput_fi gup_same ?_ ?_
      · have := insAs_len ks ((ks.take i).map (· + m.sum))
        rw [List.length_map, List.length_take] at this
        omega
      rw [gup_gup]
      refine hf'' _ _ ⟨?_, _, _, rfl⟩
      rw [et, List.map_append, List.map_cons, List.map_nil, insAs_snoc, ← mrg_step hnot]
      congr 3
      omega
    · intro δ g' hI
      obtain ⟨eg, v5, v6, e⟩ := hI
      subst eg e
      rw [List.length_map, List.take_length]
      walk_at "rr16"
      refine hf _ _ ⟨insAs ks (ks.map (· + m.sum)), mrg f (-1) m.sum f ks, q, ?_, fun d => ?_, hqg, rfl, _, _, _, _, _, rfl⟩
      · have e1 : mrg f (-1) m.sum f ks = fun d => f d + (-1) * f (d - m.sum) := funext fun d => mrg_all hr d
        rw [e1, take_sum hm]
        exact (hr.up (by omega)).merged hr hms (Int.le_refl _)
      · rw [← hap d, ap_drop hm]
        have e1 : mrg f (-1) m.sum f ks = fun d => f d - f (d - m.sum) := funext fun d => by rw [mrg_all hr d]; omega
        rw [e1]
  · intro δ g' hI
    obtain ⟨ks, f, p, hr, hap, hpn, eg, v2, v3, v4, v5, v6, e⟩ := hI
    subst eg e
    rw [List.length_map] at hap hr
    rw [List.drop_length] at hap
    rw [List.take_length] at hr
    have ef : f = kp M := funext hap
    subst ef
    walk_at "rr16"
    exact dret (k ks p (hr.up hab) hpn)

abbrev s_lessened : Stmt := topS 53
abbrev N_lessened : List Str := ["member", "place", "exponent"]
theorem sc_lessened : FnScope N_lessened ["member", "place", "exponent"] (defScope s_lessened) := ⟨rfl, rfl, rfl, by decide +kernel, rfl, by decide +kernel, by decide +kernel⟩
abbrev sp_lessened (c_KeptMembers c_Lot tb_free_set_in : Addr) : SpD :=
  sp3 fun a b c g P => ∃ (n i : Nat) (m : List Int) (e : Int), a = tI m ∧ b = .int (i : Int) ∧ c = .int e ∧ m.length = n ∧ n ≤ 8 ∧ i < n ∧ (∀ x ∈ m, 0 ≤ x) ∧ P (tI (ls m (pw n i e))) g

local macro_rules | `(tactic| walk_at "rr17") => `(tactic| (repeat (first | (with_reducible first | refine rd_seq ?_ | refine rd_seqE ?_ | refine rd_next ?_ | refine rd_rtE ?_ | refine rd_nxE ?_ | refine rd_nx ?_ | refine rd_rt ?_ | refine rd_drop ?_ | refine rd_ret ?_ | refine rd_c ?_ | refine rd_op ?_ | refine rd_b ?_ | refine rd_bK ?_ | refine rd_nil ?_ | refine rd_cons ?_ | refine rd_tup ?_ | refine rd_cb ?_ | refine rd_call ?_ | refine rd_sp1 ?_ | refine rd_sp2 ?_ | refine rd_sp3 ?_ | refine rd_ii ?_ | refine rd_add ?_ | refine rd_sub ?_ | refine rd_sl ?_ | refine rd_slT ?_ | refine rd_slL ?_ | refine rd_slS ?_ | refine rd_nopart ?_ | refine rd_part ?_ | refine rd_ptK ?_ | refine rd_star ?_ | refine rd_itet ?_ | refine rd_itef ?_ | refine rd_itnt ?_ | refine rd_itnf ?_) | ((with_reducible apply rd_var); (· exact rfl)) | ((with_reducible apply rd_stK); (· (first | assumption | exact seqD_ref (by assumption) | exact seqD_up | exact lstD_ref (by assumption) | exact lstD_up | rfl))) | ((with_reducible apply rd_ix); (· (first | assumption | exact seqD_ref (by assumption) | exact seqD_up | exact lstD_ref (by assumption) | exact lstD_up | rfl)); (· (first | exact atI_c0 _ _ | exact atI_c1 _ _ _ | exact atI_c2 _ _ _ _ | assumption | rfl))))))
theorem ok_lessened {P : Program} {w : World} {K : Fg} {mg : Str → Option Value} {base : Heap} {t_MAX_EXPONENT t_MAX_LETTERS t_MAX_MEMBERS t_MAX_MEMBER_EXPONENT t_MAX_PASSED t_MOST_COUNTED t_MOST_FAR : Tok} {c_KeptMembers c_Lot tb_free_set_in : Addr} {f : Addr} {fd : FuncData} (D : Dfn K mg "lessened" s_lessened ["member", "place", "exponent"] f fd) (T : Txt P K mg t_MAX_EXPONENT t_MAX_LETTERS t_MAX_MEMBERS t_MAX_MEMBER_EXPONENT t_MAX_PASSED t_MOST_COUNTED t_MOST_FAR c_KeptMembers c_Lot tb_free_set_in) :
    FnOk P w K mg base CX0 1 f fd ["member", "place", "exponent"] (upSp K (sp_lessened c_KeptMembers c_Lot tb_free_set_in)) := by
  refine fun_okD D.fn sc_lessened (fun ds g Q h => len3 h) (fun cdv A outer s H E hr => ⟨_, (pds_one (pds_ret (pd_tup (pda_star (pd_slice (pdv 0) pod_none (pod_some (pdv 1))) (pda_cons (pd_callB (call_max2 rfl) ref_II T.b_max (by decide +kernel) (pda_cons pd_int (pda_cons (pd_sub (pd_ix (pdv 0) (pdv 1)) (pdv 2)) pda_nil))) (pda_star (pd_slice (pdv 0) (pod_some (pd_add (pdv 1) pd_int)) pod_none) pda_nil)))))), ?_⟩)
  intro ds g Q h
  obtain ⟨a0, a1, a2, rfl, h⟩ := sp3_of h
  rw [show startD N_lessened [a0, a1, a2] = [some a0, some a1, some a2] from rfl]
  obtain ⟨n, i, m, e, e1, e2, e3, hm, n8, hi, h0, k⟩ := h
  subst e1 e2 e3
  rw [ls_pw hm hi h0] at k
  walk_at "rr17"
  (with_reducible apply rd_ix)
  · rfl
  · exact atI_ints (show i < m.length by omega)
  walk_at "rr17"
  rw [cut_fst _ _ (by rw [List.length_map]; omega), show ((i : Int) + 1) = ((i + 1 : Nat) : Int) by omega, cutD_from]
  refine rd_zK (by simp only [List.length_append, List.length_cons, List.length_take, List.length_drop, List.length_map, List.length_nil]; omega) ?_
  rw [List.append_nil]
  have ec : DV.tup ((m.map DV.int).take i ++ DV.int (if m[i] - e > 0 then m[i] - e else 0) :: (m.map DV.int).drop (i + 1)) = tI (List.take i m ++ max 0 (m.getD i 0 - e) :: List.drop (i + 1) m) := by
    rw [getD_at m (by omega), show max 0 (m[i] - e) = (if m[i] - e > 0 then m[i] - e else 0) by split <;> omega]
    show _ = DV.tup ((m.take i ++ (if m[i] - e > 0 then m[i] - e else 0) :: m.drop (i + 1)).map DV.int)
    rw [List.map_append, List.map_cons, List.map_take, List.map_drop]
  rw [ec]
  exact dret k

abbrev s_numerator_of : Stmt := topS 54
abbrev N_numerator_of : List Str := ["members", "exponent", "power", "found", "many", "place", "degree", "number", "at", "member"]
theorem sc_numerator_of : FnScope N_numerator_of ["members"] (defScope s_numerator_of) := ⟨rfl, rfl, rfl, by decide +kernel, rfl, by decide +kernel, by decide +kernel⟩
abbrev spN_numerator_of (c_KeptMembers c_Lot tb_free_set_in : Addr) (k : Nat) : SpD :=
  sp1 fun a g P => 0 < k ∧ ∃ (n : Nat) (M : List (List Int)) (b : List Int), a = .tup (M.map tI) ∧ 1 ≤ n ∧ n ≤ 8 ∧ Prods n 60 M ∧ M.length ≤ 24 ∧ b.length = n ∧ (∀ y ∈ b, 0 ≤ y) ∧ Box b M ∧ b.sum ≤ 40 ∧ b.sum.toNat + M.length < k ∧ ∀ ks p, RepK ks (kp M) b.sum → g p = none → P (.ref p) (gup g p (fnO ks (kp M)))
abbrev sp_numerator_of (c_KeptMembers c_Lot tb_free_set_in : Addr) : SpD := spN_numerator_of c_KeptMembers c_Lot tb_free_set_in 66

theorem okz_numerator_of {P : Program} {w : World} {K : Fg} {mg : Str → Option Value} {base : Heap} {t_MAX_EXPONENT t_MAX_LETTERS t_MAX_MEMBERS t_MAX_MEMBER_EXPONENT t_MAX_PASSED t_MOST_COUNTED t_MOST_FAR : Tok} {c_KeptMembers c_Lot tb_free_set_in : Addr} {f f_least_of f_lessened f_split_exponent f_apart_numerator f_most_common_letter f_is_all_in : Addr} {fd d_least_of d_lessened d_split_exponent d_apart_numerator d_most_common_letter d_is_all_in : FuncData} (D : Dfn K mg "numerator_of" s_numerator_of ["members"] f fd) (T : Txt P K mg t_MAX_EXPONENT t_MAX_LETTERS t_MAX_MEMBERS t_MAX_MEMBER_EXPONENT t_MAX_PASSED t_MOST_COUNTED t_MOST_FAR c_KeptMembers c_Lot tb_free_set_in) (D_least_of : Dfn K mg "least_of" s_least_of ["products"] f_least_of d_least_of) (G_least_of : FnOk P w K mg base CX0 2 f_least_of d_least_of ["products"] (upSp K (sp_least_of c_KeptMembers c_Lot tb_free_set_in))) (D_lessened : Dfn K mg "lessened" s_lessened ["member", "place", "exponent"] f_lessened d_lessened) (G_lessened : FnOk P w K mg base CX0 1 f_lessened d_lessened ["member", "place", "exponent"] (upSp K (sp_lessened c_KeptMembers c_Lot tb_free_set_in))) (D_split_exponent : Dfn K mg "split_exponent" s_split_exponent ["members", "place"] f_split_exponent d_split_exponent) (G_split_exponent : FnOk P w K mg base CX0 1 f_split_exponent d_split_exponent ["members", "place"] (upSp K (sp_split_exponent c_KeptMembers c_Lot tb_free_set_in))) (D_apart_numerator : Dfn K mg "apart_numerator" s_apart_numerator ["members"] f_apart_numerator d_apart_numerator) (G_apart_numerator : FnOk P w K mg base CX0 1 f_apart_numerator d_apart_numerator ["members"] (upSp K (sp_apart_numerator c_KeptMembers c_Lot tb_free_set_in))) (D_most_common_letter : Dfn K mg "most_common_letter" s_most_common_letter ["members"] f_most_common_letter d_most_common_letter) (G_most_common_letter : FnOk P w K mg base CX0 1 f_most_common_letter d_most_common_letter ["members"] (upSp K (sp_most_common_letter c_KeptMembers c_Lot tb_free_set_in))) (D_is_all_in : Dfn K mg "is_all_in" s_is_all_in ["members"] f_is_all_in d_is_all_in) (G_is_all_in : FnOk P w K mg base CX0 1 f_is_all_in d_is_all_in ["members"] (upSp K (sp_is_all_in c_KeptMembers c_Lot tb_free_set_in))) : FnOk P w K mg base CX0 (3 + 0) f fd ["members"] (upSp K (spN_numerator_of c_KeptMembers c_Lot tb_free_set_in 0)) := by
  refine fun_okD D.fn sc_numerator_of (fun ds g Q h => len1 h) (fun cdv A outer s H E hr => ⟨_, (pds_cons pds_no (pds_cons pds_no (pds_cons pds_no (pds_cons pds_no (pds_cons pds_no (pds_cons pds_no (pds_cons pds_no (pds_cons pds_no (pds_one pds_no))))))))), ?_⟩)
  intro ds g Q h
  obtain ⟨a0, rfl, h⟩ := sp1_of h
  exact absurd h.1 (Nat.lt_irrefl 0)

local macro_rules | `(tactic| walk_at "rr18") => `(tactic| (repeat (first | (with_reducible first | refine rd_seq ?_ | refine rd_seqE ?_ | refine rd_next ?_ | refine rd_rtE ?_ | refine rd_nxE ?_ | refine rd_nx ?_ | refine rd_rt ?_ | refine rd_ct ?_ | refine rd_bk ?_ | refine rd_drop ?_ | refine rd_ret ?_ | refine rd_dif ?_ | refine rd_asg ?_ | refine rd_for ?_ | refine rd_c ?_ | refine rd_op ?_ | refine rd_b ?_ | refine rd_bK ?_ | refine rd_tru ?_ | refine rd_tKb ?_ | refine rd_ifE ?_ | refine rd_nil ?_ | refine rd_cons ?_ | refine rd_tup ?_ | refine rd_cb ?_ | refine rd_call ?_ | refine rd_sp1 ?_ | refine rd_sp2 ?_ | refine rd_sp3 ?_ | refine rd_add ?_ | refine rd_cmp ?_ | refine rd_lc ?_ | refine rd_yes ?_ | refine rd_wseq ?_ | refine rd_wsT ?_ | refine rd_wsL ?_ | refine rd_wsS ?_ | refine rd_rng1 ?_ | refine rd_star ?_ | refine rd_dput ?_ | refine rd_dget2 ?_ | refine rd_isd ?_ | refine rd_lk ?_ | refine rd_dispKM ?_ | refine rd_wiK ?_ | refine rd_itet ?_ | refine rd_itef ?_ | refine rd_itnt ?_ | refine rd_itnf ?_) | ((with_reducible apply rd_var); (· exact rfl)) | ((with_reducible apply rd_asgK); (· exact rfl)) | ((with_reducible apply rd_len); (· (first | assumption | exact seqD_ref (by assumption) | exact seqD_up | exact lstD_ref (by assumption) | exact lstD_up | rfl))) | ((with_reducible apply rd_tuple); (· (first | assumption | exact seqD_ref (by assumption) | exact seqD_up | exact lstD_ref (by assumption) | exact lstD_up | rfl))) | ((with_reducible apply rd_stK); (· (first | assumption | exact seqD_ref (by assumption) | exact seqD_up | exact lstD_ref (by assumption) | exact lstD_up | rfl))) | ((with_reducible apply rd_ix); (· (first | assumption | exact seqD_ref (by assumption) | exact seqD_up | exact lstD_ref (by assumption) | exact lstD_up | rfl)); (· (first | exact atI_c0 _ _ | exact atI_c1 _ _ _ | exact atI_c2 _ _ _ _ | assumption | rfl))))))
theorem oks_numerator_of {k : Nat} {P : Program} {w : World} {K : Fg} {mg : Str → Option Value} {base : Heap} {t_MAX_EXPONENT t_MAX_LETTERS t_MAX_MEMBERS t_MAX_MEMBER_EXPONENT t_MAX_PASSED t_MOST_COUNTED t_MOST_FAR : Tok} {c_KeptMembers c_Lot tb_free_set_in : Addr} {f f_least_of f_lessened f_split_exponent f_apart_numerator f_most_common_letter f_is_all_in : Addr} {fd d_least_of d_lessened d_split_exponent d_apart_numerator d_most_common_letter d_is_all_in : FuncData} (D : Dfn K mg "numerator_of" s_numerator_of ["members"] f fd) (T : Txt P K mg t_MAX_EXPONENT t_MAX_LETTERS t_MAX_MEMBERS t_MAX_MEMBER_EXPONENT t_MAX_PASSED t_MOST_COUNTED t_MOST_FAR c_KeptMembers c_Lot tb_free_set_in) (D_least_of : Dfn K mg "least_of" s_least_of ["products"] f_least_of d_least_of) (G_least_of : FnOk P w K mg base CX0 2 f_least_of d_least_of ["products"] (upSp K (sp_least_of c_KeptMembers c_Lot tb_free_set_in))) (D_lessened : Dfn K mg "lessened" s_lessened ["member", "place", "exponent"] f_lessened d_lessened) (G_lessened : FnOk P w K mg base CX0 1 f_lessened d_lessened ["member", "place", "exponent"] (upSp K (sp_lessened c_KeptMembers c_Lot tb_free_set_in))) (D_split_exponent : Dfn K mg "split_exponent" s_split_exponent ["members", "place"] f_split_exponent d_split_exponent) (G_split_exponent : FnOk P w K mg base CX0 1 f_split_exponent d_split_exponent ["members", "place"] (upSp K (sp_split_exponent c_KeptMembers c_Lot tb_free_set_in))) (D_apart_numerator : Dfn K mg "apart_numerator" s_apart_numerator ["members"] f_apart_numerator d_apart_numerator) (G_apart_numerator : FnOk P w K mg base CX0 1 f_apart_numerator d_apart_numerator ["members"] (upSp K (sp_apart_numerator c_KeptMembers c_Lot tb_free_set_in))) (D_most_common_letter : Dfn K mg "most_common_letter" s_most_common_letter ["members"] f_most_common_letter d_most_common_letter) (G_most_common_letter : FnOk P w K mg base CX0 1 f_most_common_letter d_most_common_letter ["members"] (upSp K (sp_most_common_letter c_KeptMembers c_Lot tb_free_set_in))) (D_is_all_in : Dfn K mg "is_all_in" s_is_all_in ["members"] f_is_all_in d_is_all_in) (G_is_all_in : FnOk P w K mg base CX0 1 f_is_all_in d_is_all_in ["members"] (upSp K (sp_is_all_in c_KeptMembers c_Lot tb_free_set_in))) (IH : FnOk P w K mg base CX0 (3 + k) f fd ["members"] (upSp K (spN_numerator_of c_KeptMembers c_Lot tb_free_set_in k))) :
    FnOk P w K mg base CX0 (3 + k + 1) f fd ["members"] (upSp K (spN_numerator_of c_KeptMembers c_Lot tb_free_set_in (k + 1))) := by
  refine fun_okD D.fn sc_numerator_of (fun ds g Q h => len1 h) (fun cdv A outer s H E hr => ⟨_, (pds_cons (pds_if (pt_truD (pd_call G_is_all_in (hr.mono (by omega)) D_is_all_in.at_ D_is_all_in.fn.kp D_is_all_in.bd pass0 (pda_cons (pdv 0) pda_nil))) (pds_one (pds_ret pd_newK)) pds_nil) (pds_cons (pds_if (pt_cmpD (op_eqD hr.units) (RefCmp.op ref_eq) (pdv 0) (pd_tup pda_nil) (nomark _)) (pds_one (pds_ret (pd_dispKM (ppd_cons pd_int pd_int ppd_nil)))) pds_nil) (pds_cons (pds_setT (tg := .tp [4, 5]) (pgd_tp (is := [4, 5]) rfl (pgd_cons (i := 4) (pgd_nm (i := 4) sc_numerator_of.nd) (pgd_cons (i := 5) (pgd_nm (i := 5) sc_numerator_of.nd) pgd_nil))) (pd_call G_most_common_letter (hr.mono (by omega)) D_most_common_letter.at_ D_most_common_letter.fn.kp D_most_common_letter.bd pass0 (pda_cons (pdv 0) pda_nil))) (pds_cons (pds_if (pt_cmpD op_lt (RefCmp.op ref_cmp) (pdv 4) pd_int (nomark _)) (pds_one (pds_ret (pd_call G_apart_numerator (hr.mono (by omega)) D_apart_numerator.at_ D_apart_numerator.fn.kp D_apart_numerator.bd pass0 (pda_cons (pdv 0) pda_nil)))) pds_nil) (pds_cons (pds_set (i := 1) sc_numerator_of.nd (pd_call G_split_exponent (hr.mono (by omega)) D_split_exponent.at_ D_split_exponent.fn.kp D_split_exponent.bd pass0 (pda_cons (pdv 0) (pda_cons (pdv 5) pda_nil)))) (pds_cons (pds_set (i := 2) sc_numerator_of.nd (pd_callTy call_tuple_of ref_tuple T.b_tuple (by decide +kernel) (pda_cons (pd_lc (own := [("at", 8)]) (tg := .nm 8) rfl sc_numerator_of.nd (pid_range1 T.b_range (pda_cons (pd_callB call_len_seq ref_len T.b_len (by decide +kernel) (pda_cons (pd_ix (pdv 0) pd_int) pda_nil)) pda_nil)) (blkOk_by (own := [("at", 8)]) (N := N_numerator_of) (sc := defScope s_numerator_of) (by decide +kernel)) (fun _ _ _ _ _ => (pgd_nm (i := 8) sc_numerator_of.nd)) (fun _ _ _ _ _ => ptsd_nil) (fun _ _ _ _ _ => (pd_ifExp (pt_cmpD (op_eqD hr.units) (RefCmp.op ref_eq) (pdv 8) (pdv 5) (nomark _)) (pdv 1) pd_int))) pda_nil))) (pds_cons (pds_set (i := 3) sc_numerator_of.nd (pd_call IH (hr.mono (by omega)) D.at_ D.fn.kp D.bd pass0 (pda_cons (pd_tup (pda_star (pd_lc (own := [("member", 9)]) (tg := .nm 9) rfl sc_numerator_of.nd (pid_seq (pdv 0)) (blkOk_by (own := [("member", 9)]) (N := N_numerator_of) (sc := defScope s_numerator_of) (by decide +kernel)) (fun _ _ _ _ _ => (pgd_nm (i := 9) sc_numerator_of.nd)) (fun _ _ _ _ _ => (ptsd_one (pt_cmpD op_lt (RefCmp.op ref_cmp) (pd_ix (pdv 9) (pdv 5)) (pdv 1) (nomark _)))) (fun _ _ _ _ _ => (pdv 9))) (pda_cons (pdv 2) pda_nil))) pda_nil))) (pds_cons (pds_for (tg := .tp [6, 7]) PassesOwn.never rfl (pid_itemsK (pd_lk (pd_call IH (hr.mono (by omega)) D.at_ D.fn.kp D.bd pass0 (pda_cons (pd_call G_least_of (hr.mono (by omega)) D_least_of.at_ D_least_of.fn.kp D_least_of.bd pass0 (pda_cons (pd_lc (own := [("member", 9)]) (tg := .nm 9) rfl sc_numerator_of.nd (pid_seq (pdv 0)) (blkOk_by (own := [("member", 9)]) (N := N_numerator_of) (sc := defScope s_numerator_of) (by decide +kernel)) (fun _ _ _ _ _ => (pgd_nm (i := 9) sc_numerator_of.nd)) (fun _ _ _ _ _ => ptsd_nil) (fun _ _ _ _ _ => (pd_call G_lessened (hr.mono (by omega)) D_lessened.at_ D_lessened.fn.kp D_lessened.bd pass0 (pda_cons (pdv 9) (pda_cons (pdv 5) (pda_cons (pdv 1) pda_nil)))))) pda_nil)) pda_nil)))) (pgd_tp (is := [6, 7]) rfl (pgd_cons (i := 6) (pgd_nm (i := 6) sc_numerator_of.nd) (pgd_cons (i := 7) (pgd_nm (i := 7) sc_numerator_of.nd) pgd_nil))) (pds_one (pds_dput hr.units (pdv 3) (pd_add (pdv 6) (pdv 1)) (pd_add (pd_dget2 hr.units (pdv 3) (pd_add (pdv 6) (pdv 1)) pd_int) (pdv 7))))) (pds_one (pds_ret (pdv 3))))))))))), ?_⟩)
  intro ds g Q h
  obtain ⟨a0, rfl, h⟩ := sp1_of h
  rw [show startD N_numerator_of [a0] = [some a0, none, none, none, none, none, none, none, none, none] from rfl]
  obtain ⟨hk0, n, M, b, e1, n1, n8, hp, hl, hb, b0, hx, hbs, hmu, k⟩ := h
  subst e1
  have hN := Nnn.of hp
  have hbn := sum_nonneg' b0
  walk_at "rr18"
  refine ⟨n, M, rfl, n1, n8, hp, ?_⟩
  walk_at "rr18"
  refine rd_iteb (fun c => ?_) (fun c => ?_)
  · walk_at "rr18"
    intro p hpn
    exact dret (k [] p ((RepK.none (kp_all hN c)).up hbn) hpn)
  walk_at "rr18"
  refine rd_zK (by show 0 ≤ 16777216; decide) ?_
  refine rd_eq (okD_tIs _) (okD_tIs []) ?_
  rw [show (DV.tup []) = .tup (([] : List (List Int)).map tI) from rfl, eqD_tIs2]
  refine rd_itei (c := M = []) (fun c => ?_) (fun hne => ?_)
  · walk_at "rr18"
    refine ⟨[(.inl 0, .int 1)], .cons rfl .nil, by simp, by decide, fun p hpn => ?_⟩
    subst c
    have kk := k [0] p (by rw [kp_nil]; exact RepK.one.up hbn) hpn
    rw [kp_nil] at kk
    exact dret kk
  walk_at "rr18"
  refine ⟨n, M, rfl, n1, n8, hp, hl, hne, fun j hj hmax => ?_⟩
  walk_at "rr18"
  refine rd_itei (c := (cnt M j : Int) < 2) (fun c => ?_) (fun c => ?_)
  · walk_at "rr18"
    refine ⟨n, M, b, rfl, n8, hp, hl, fun i hi => by have := hmax i hi; omega, hb, b0, hx, hbs, fun ks p hr hpn => ?_⟩
    exact dret (k ks p hr hpn)
  walk_at "rr18"
  refine ⟨n, j, M, rfl, rfl, hj, hp, hl, by omega, fun e he h2 => ?_⟩
  obtain ⟨m1, hm1, hme⟩ := some_above h2
  obtain ⟨m0, r0, eM⟩ : ∃ m0 r0, M = m0 :: r0 := by
    cases M with
    | nil => exact absurd rfl hne
    | cons m r => exact ⟨m, r, rfl⟩
  have hm0 := (hp m0 (by rw [eM]; exact List.mem_cons_self)).1
  have e60 := e_le hp hm1 hj hme
  walk_at "rr18"
  (with_reducible apply rd_ix)
  · rfl
  · exact atI_nat (j := 0) (v := tI m0) (by rw [eM]; rfl)
  walk_at "rr18"
  rw [List.length_map, hm0]
  refine rd_rng1K (j := (n : Int)) ⟨by omega, by omega⟩ ?_
  rw [Int.toNat_natCast]
  refine rd_zK (by rw [rangeD_len]; omega) (comp_map (f := powD j e) (fun d hd => ?_) ?_)
  · obtain ⟨i, hi⟩ := List.mem_iff_getElem?.mp hd
    obtain ⟨hil, e5⟩ := rangeD_at hi
    subst e5
    refine ⟨_, rfl, fun Q2 h3 => ?_⟩
    rw [powD_at] at h3
    walk_at "rr18"
    refine rd_eq (okD_int _) (okD_int _) ?_
    rw [eqD_int]
    refine rd_itei (c := (i : Int) = (j : Int)) (fun c5 => ?_) (fun c5 => ?_)
    · rw [if_pos (by omega)] at h3
      walk_at "rr18"
      exact h3
    · rw [if_neg (by omega)] at h3
      walk_at "rr18"
      exact h3
  rw [pw_range]
  walk_at "rr18"
  refine rd_zK (by rw [List.length_map]; omega) (comp_fil (p := belD j e) (f := fun d => d) (fun d hd => ?_) ?_)
  · obtain ⟨m, hm, e5⟩ := tI_mem hd
    subst e5
    have hml := (hp m hm).1
    refine ⟨_, rfl, fun Q' h' => ?_, fun _ Q2 h3 => ?_⟩
    · walk_at "rr18"
      (with_reducible apply rd_ix)
      · rfl
      · exact atI_ints (show j < m.length by omega)
      walk_at "rr18"
      rw [belD_at (show j < m.length by omega), getD_at m (by omega)] at h'
      exact h'
    · walk_at "rr18"
      exact h3
  walk_at "rr18"
  have hcl := below_len h2
  have hfl : (((M.map tI).filter (belD j e)).map fun d => d).length ≤ 24 := by
    rw [List.length_map]
    exact Nat.le_trans (List.length_filter_le _ _) (by rw [List.length_map]; exact hl)
  refine rd_zK (by rw [List.length_append, List.length_singleton]; omega) ?_
  have hnl : (nextM n M j e).length + 1 ≤ M.length := by
    unfold nextM
    rw [List.length_append, List.length_singleton]
    omega
  rw [bel_map hp hj]
  walk_at "rr18"
  refine ⟨by omega, n, nextM n M j e, b, rfl, n1, n8, next_prods hp (by omega) e60, by omega, hb, b0, hx.next hN hb b0 hj hm1 hme, hbs, by omega, fun ks1 p1 hr1 hp1 => ?_⟩
  walk_at "rr18"
  have hcp := lsl_prods hp (pwr_len n j e) (pw_nn (by omega)) (by decide)
  have hls : (cutM n M j e).length = M.length := List.length_map _
  refine rd_zK (by rw [List.length_map]; omega) (comp_map (f := lspD (pw n j e)) (fun d hd => ?_) ?_)
  · obtain ⟨m, hm, e5⟩ := tI_mem hd
    subst e5
    have hml := hp m hm
    refine ⟨_, rfl, fun Q2 h3 => ?_⟩
    rw [lspD_at] at h3
    walk_at "rr18"
    exact ⟨n, j, m, e, rfl, rfl, rfl, hml.1, n8, hj, fun x hx => (hml.2 x hx).1, h3⟩
  rw [lsp_map]
  walk_at "rr18"
  refine ⟨n, cutM n M j e, .inr rfl, n1, n8, hcp, by omega, ?_⟩
  walk_at "rr18"
  have hll := leastL_le (cutM n M j e)
  have hpb : dvB (pw n j e) b = true := by
    refine dvB_trans (ys := m1) ((pwr_len n j e).trans (hp m1 hm1).1.symm) ((hp m1 hm1).1.trans hb.symm) ?_ (hx m1 hm1)
    rw [dv_pw (hp m1 hm1).1 hj (hN m1 hm1).2]
    exact decide_eq_true hme
  have hbe : (ls b (pw n j e)).sum = b.sum - e := by rw [ls_sum hpb (hb.trans (pwr_len n j e).symm), pw_sum hj]
  have hbx : Box (ls b (pw n j e)) (leastL (cutM n M j e)) := fun r hr => hx.cut hN hb (pwr_len n j e) r ((leastL_is _).sub r hr)
  have hbe0 : 0 ≤ (ls b (pw n j e)).sum := sum_nonneg' ls_nn
  refine ⟨by omega, n, leastL (cutM n M j e), ls b (pw n j e), rfl, n1, n8, (leastL_is _).prods hcp, by omega, lsn_len hb (pwr_len n j e), ls_nn, hbx, by omega, by omega, fun ks2 p2 hr2 hp2 => ?_⟩
  have ekl : kp (leastL (cutM n M j e)) = kp (cutM n M j e) := kp_least (leastL_is _) hcp
  rw [ekl] at hr2 ⊢
  refine ⟨p2, _, _, rfl, gup_same, ?_⟩
  rw [gdel_gup hp2]
  refine ⟨_, _, rfl, ?_⟩
  rw [pairsK_int]
  have hk1 := hr1.len hbn
  have hk2 := hr2.len hbe0
  have hmer := hr1.merged (c := 1) (e := e) hr2 (by omega) (by omega)
  refine rd_loopX (I := fun i δ g' => g' = gup g p1 (fnO (insAs ks1 ((ks2.take i).map (· + e))) (mrg (kp (nextM n M j e)) 1 e (kp (cutM n M j e)) (ks2.take i))) ∧ ∃ v6 v7 v8 v9, δ = [some (.tup (M.map tI)), some (.int e), some (tI (pw n j e)), some (.ref p1), some (.int (cnt M j : Int)), some (.int (j : Int)), v6, v7, v8, v9]) ?_ ?_ ?_
  · exact ⟨by rw [List.take_zero, mrg_nil]; rfl, _, _, _, _, rfl⟩
  · intro i d hd δ g' f'' hf'' hI
    obtain ⟨eg, v6, v7, v8, v9, e5⟩ := hI
    subst eg e5
    rw [List.getElem?_map] at hd
    obtain ⟨x, hx5, e5⟩ := Option.map_eq_some_iff.mp hd
    subst e5
    have et : ks2.take (i + 1) = ks2.take i ++ [x] := by rw [List.take_succ, hx5]; rfl
    have hnot : x ∉ ks2.take i := not_take hr2.nd hx5
    refine ⟨_, rfl, ?_⟩
    walk_at "rr18"
    refine ⟨isD_rk gup_same, ?_⟩
    walk_at "rr18"
    refine ⟨_, at_fi gup_same, ?_⟩
    rw [getD_fi, mrg_get hr1]
    walk_at "rr18"
    refine dput_fi gup_same ?_ ?_
    · have := insAs_len ks1 ((ks2.take i).map (· + e))
      rw [List.length_map, List.length_take] at this
      omega
    rw [gup_gup]
    refine hf'' _ _ ⟨?_, _, _, _, _, rfl⟩
    rw [et, List.map_append, List.map_cons, List.map_nil, insAs_snoc, ← mrg_step hnot, Int.one_mul]
  · intro δ g' hI
    obtain ⟨eg, v6, v7, v8, v9, e5⟩ := hI
    subst eg e5
    rw [List.length_map, List.take_length]
    have e1 : mrg (kp (nextM n M j e)) 1 e (kp (cutM n M j e)) ks2 = kp M := funext fun d => by rw [mrg_all hr2 d, Int.one_mul]; exact (kp_split hN hj (by omega) d).symm
    have e2 : (fun d => kp (nextM n M j e) d + 1 * kp (cutM n M j e) (d - e)) = kp M := funext fun d => by rw [Int.one_mul]; exact (kp_split hN hj (by omega) d).symm
    rw [e1]
    rw [e2] at hmer
    walk_at "rr18"
    exact dret (k _ p1 hmer hp1)

theorem ok_numerator_of {P : Program} {w : World} {K : Fg} {mg : Str → Option Value} {base : Heap} {t_MAX_EXPONENT t_MAX_LETTERS t_MAX_MEMBERS t_MAX_MEMBER_EXPONENT t_MAX_PASSED t_MOST_COUNTED t_MOST_FAR : Tok} {c_KeptMembers c_Lot tb_free_set_in : Addr} {f f_least_of f_lessened f_split_exponent f_apart_numerator f_most_common_letter f_is_all_in : Addr} {fd d_least_of d_lessened d_split_exponent d_apart_numerator d_most_common_letter d_is_all_in : FuncData} (D : Dfn K mg "numerator_of" s_numerator_of ["members"] f fd) (T : Txt P K mg t_MAX_EXPONENT t_MAX_LETTERS t_MAX_MEMBERS t_MAX_MEMBER_EXPONENT t_MAX_PASSED t_MOST_COUNTED t_MOST_FAR c_KeptMembers c_Lot tb_free_set_in) (D_least_of : Dfn K mg "least_of" s_least_of ["products"] f_least_of d_least_of) (G_least_of : FnOk P w K mg base CX0 2 f_least_of d_least_of ["products"] (upSp K (sp_least_of c_KeptMembers c_Lot tb_free_set_in))) (D_lessened : Dfn K mg "lessened" s_lessened ["member", "place", "exponent"] f_lessened d_lessened) (G_lessened : FnOk P w K mg base CX0 1 f_lessened d_lessened ["member", "place", "exponent"] (upSp K (sp_lessened c_KeptMembers c_Lot tb_free_set_in))) (D_split_exponent : Dfn K mg "split_exponent" s_split_exponent ["members", "place"] f_split_exponent d_split_exponent) (G_split_exponent : FnOk P w K mg base CX0 1 f_split_exponent d_split_exponent ["members", "place"] (upSp K (sp_split_exponent c_KeptMembers c_Lot tb_free_set_in))) (D_apart_numerator : Dfn K mg "apart_numerator" s_apart_numerator ["members"] f_apart_numerator d_apart_numerator) (G_apart_numerator : FnOk P w K mg base CX0 1 f_apart_numerator d_apart_numerator ["members"] (upSp K (sp_apart_numerator c_KeptMembers c_Lot tb_free_set_in))) (D_most_common_letter : Dfn K mg "most_common_letter" s_most_common_letter ["members"] f_most_common_letter d_most_common_letter) (G_most_common_letter : FnOk P w K mg base CX0 1 f_most_common_letter d_most_common_letter ["members"] (upSp K (sp_most_common_letter c_KeptMembers c_Lot tb_free_set_in))) (D_is_all_in : Dfn K mg "is_all_in" s_is_all_in ["members"] f_is_all_in d_is_all_in) (G_is_all_in : FnOk P w K mg base CX0 1 f_is_all_in d_is_all_in ["members"] (upSp K (sp_is_all_in c_KeptMembers c_Lot tb_free_set_in))) :
    FnOk P w K mg base CX0 69 f fd ["members"] (upSp K (sp_numerator_of c_KeptMembers c_Lot tb_free_set_in)) := by
  have key : ∀ k, FnOk P w K mg base CX0 (3 + k) f fd ["members"] (upSp K (spN_numerator_of c_KeptMembers c_Lot tb_free_set_in k)) := fun k => by
    induction k with
    | zero => exact okz_numerator_of D T D_least_of G_least_of D_lessened G_lessened D_split_exponent G_split_exponent D_apart_numerator G_apart_numerator D_most_common_letter G_most_common_letter D_is_all_in G_is_all_in
    | succ k ih => exact oks_numerator_of D T D_least_of G_least_of D_lessened G_lessened D_split_exponent G_split_exponent D_apart_numerator G_apart_numerator D_most_common_letter G_most_common_letter D_is_all_in G_is_all_in ih
  exact key 66

abbrev s_numerator_in : Stmt := topS 55
abbrev N_numerator_in : List Str := ["lot", "found", "degree"]
theorem sc_numerator_in : FnScope N_numerator_in ["lot"] (defScope s_numerator_in) := ⟨rfl, rfl, rfl, by decide +kernel, rfl, by decide +kernel, by decide +kernel⟩
abbrev sp_numerator_in (c_KeptMembers c_Lot tb_free_set_in : Addr) : SpD :=
  sp1 fun a g P => ∃ (n : Nat) (M : List (List Int)), a = lotD c_Lot n M ∧ 1 ≤ n ∧ n ≤ 8 ∧ Prods n 4 M ∧ M.length ≤ 24 ∧ ∀ ks, RepC ks (kp M) 40 → P (fnV ks (kp M)) g

local macro_rules | `(tactic| walk_at "rr19") => `(tactic| (repeat (first | (with_reducible first | refine rd_seq ?_ | refine rd_seqE ?_ | refine rd_next ?_ | refine rd_rtE ?_ | refine rd_nxE ?_ | refine rd_nx ?_ | refine rd_rt ?_ | refine rd_drop ?_ | refine rd_ret ?_ | refine rd_asg ?_ | refine rd_c ?_ | refine rd_op ?_ | refine rd_b ?_ | refine rd_bK ?_ | refine rd_nil ?_ | refine rd_cons ?_ | refine rd_cb ?_ | refine rd_call ?_ | refine rd_sp1 ?_ | refine rd_sp2 ?_ | refine rd_sp3 ?_ | refine rd_wseq ?_ | refine rd_wsT ?_ | refine rd_wsL ?_ | refine rd_wsS ?_ | refine rd_fld ?_ | refine rd_dget ?_ | refine rd_dcK ?_ | refine rd_itet ?_ | refine rd_itef ?_ | refine rd_itnt ?_ | refine rd_itnf ?_) | ((with_reducible apply rd_flI); (· exact rfl)) | ((with_reducible apply rd_flR); (· (first | assumption | exact gup_same)); (· exact rfl)) | ((with_reducible apply rd_var); (· exact rfl)) | ((with_reducible apply rd_asgK); (· exact rfl)))))
theorem ok_numerator_in {P : Program} {w : World} {K : Fg} {mg : Str → Option Value} {base : Heap} {t_MAX_EXPONENT t_MAX_LETTERS t_MAX_MEMBERS t_MAX_MEMBER_EXPONENT t_MAX_PASSED t_MOST_COUNTED t_MOST_FAR : Tok} {c_KeptMembers c_Lot tb_free_set_in : Addr} {f f_numerator_of : Addr} {fd d_numerator_of : FuncData} (D : Dfn K mg "numerator_in" s_numerator_in ["lot"] f fd) (T : Txt P K mg t_MAX_EXPONENT t_MAX_LETTERS t_MAX_MEMBERS t_MAX_MEMBER_EXPONENT t_MAX_PASSED t_MOST_COUNTED t_MOST_FAR c_KeptMembers c_Lot tb_free_set_in) (D_numerator_of : Dfn K mg "numerator_of" s_numerator_of ["members"] f_numerator_of d_numerator_of) (G_numerator_of : FnOk P w K mg base CX0 69 f_numerator_of d_numerator_of ["members"] (upSp K (sp_numerator_of c_KeptMembers c_Lot tb_free_set_in))) :
    FnOk P w K mg base CX0 70 f fd ["lot"] (upSp K (sp_numerator_in c_KeptMembers c_Lot tb_free_set_in)) := by
  refine fun_okD D.fn sc_numerator_in (fun ds g Q h => len1 h) (fun cdv A outer s H E hr => ⟨_, (pds_cons (pds_set (i := 1) sc_numerator_in.nd (pd_call G_numerator_of (hr.mono (by decide)) D_numerator_of.at_ D_numerator_of.fn.kp D_numerator_of.bd pass0 (pda_cons (pd_fld T.F_Lot.sc T.s_Lot_own_members.choose_spec (pdv 0)) pda_nil))) (pds_one (pds_ret (pd_dcK (own := [("degree", 2)]) (tg := .nm 2) hr.units rfl sc_numerator_in.nd (pid_seq (pd_callB (call_sortedDI rfl) ref_sortedDI T.b_sorted (by decide +kernel) (pda_cons (pdv 1) pda_nil))) (blkOk_by (own := [("degree", 2)]) (N := N_numerator_in) (sc := defScope s_numerator_in) (by decide +kernel)) (fun _ _ _ _ _ => (pgd_nm (i := 2) sc_numerator_in.nd)) (fun _ _ _ _ _ => (ptsd_one (pt_cmpD (op_neD hr.units) (RefCmp.op ref_ne) (pd_dget hr.units (pdv 1) (pdv 2)) pd_int (nomark _)))) (fun _ _ _ _ _ => (pdv 2)) (fun _ _ _ _ _ => (pd_dget hr.units (pdv 1) (pdv 2))))))), ?_⟩)
  intro ds g Q h
  obtain ⟨a0, rfl, h⟩ := sp1_of h
  rw [show startD N_numerator_in [a0] = [some a0, none, none] from rfl]
  obtain ⟨n, M, e1, n1, n8, hM, hl, k⟩ := h
  subst e1
  obtain ⟨b, hb, b0, hx, hbs⟩ := box4 n8 hM
  walk_at "rr19"
  refine ⟨by decide, n, M, b, rfl, n1, n8, hM.mono (by decide), hl, hb, b0, hx, hbs, by omega, fun ks p hr hpn => ?_⟩
  have hr := hr.up hbs
  have hkl := hr.len (by decide)
  walk_at "rr19"
  refine rd_sortDI (dctK_rk gup_same) (keyInts_map ks) (by omega) (fun xs x1 x2 => ?_)
  have hxl : xs.length = ks.length := x1.length_eq
  walk_at "rr19"
  refine ⟨by rw [sizeLine_eq, List.length_map]; omega, ?_⟩
  refine dcK_i2 (acc := []) (fun d => decide (kp M d ≠ 0)) (kp M) xs (by rw [List.nil_append]; exact x1.nodup_iff.mpr hr.nd) (fun d hd => ?_) ?_
  · have hm := x1.mem_iff.mp hd
    refine ⟨_, rfl, fun Q' h' => ?_, fun _ => ⟨fun Q2 h2 => ?_, fun Q2 h2 => ?_⟩⟩
    · walk_at "rr19"
      refine ⟨_, by rw [at_fi gup_same, if_pos hm], ?_⟩
      walk_at "rr19"
      refine rd_ne (okD_int _) (okD_int _) ?_
      rw [eqD_int]
      rw [show (!decide (kp M d = 0)) = decide (kp M d ≠ 0) from decide_not.symm]
      exact h'
    · walk_at "rr19"
      exact h2
    · walk_at "rr19"
      exact ⟨_, by rw [at_fi gup_same, if_pos hm], h2⟩
  rw [List.nil_append]
  exact ⟨g, gup_subK hpn, k _ (hr.clean x1 x2)⟩

abbrev s_left_count : Stmt := topS 56
abbrev N_left_count : List Str := ["letters", "numerator_told", "degree", "parts", "at", "number", "rest"]
theorem sc_left_count : FnScope N_left_count ["letters", "numerator_told", "degree"] (defScope s_left_count) := ⟨rfl, rfl, rfl, by decide +kernel, rfl, by decide +kernel, by decide +kernel⟩
abbrev sp_left_count (c_KeptMembers c_Lot tb_free_set_in : Addr) : SpD :=
  sp3 fun a b c g P => ∃ (n : Nat) (ks : List Int) (f : KF) (D : Int), a = .int (n : Int) ∧ b = fnV ks f ∧ c = .int D ∧ 1 ≤ n ∧ n ≤ 8 ∧ RepK ks f 40 ∧ (∀ d, (f d).natAbs ≤ 2 ^ 24) ∧ 0 ≤ D ∧ D ≤ 1000000 ∧ P (.int (lc (cn n) f D)) g

local macro_rules | `(tactic| walk_at "rr20") => `(tactic| (repeat (first | (with_reducible first | refine rd_seq ?_ | refine rd_seqE ?_ | refine rd_next ?_ | refine rd_rtE ?_ | refine rd_nxE ?_ | refine rd_nx ?_ | refine rd_rt ?_ | refine rd_drop ?_ | refine rd_ret ?_ | refine rd_asg ?_ | refine rd_c ?_ | refine rd_op ?_ | refine rd_b ?_ | refine rd_bK ?_ | refine rd_nil ?_ | refine rd_cons ?_ | refine rd_tup ?_ | refine rd_cb ?_ | refine rd_call ?_ | refine rd_sp1 ?_ | refine rd_sp2 ?_ | refine rd_sp3 ?_ | refine rd_add ?_ | refine rd_sub ?_ | refine rd_cmp ?_ | refine rd_lc ?_ | refine rd_yes ?_ | refine rd_wseq ?_ | refine rd_wsT ?_ | refine rd_wsL ?_ | refine rd_wsS ?_ | refine rd_wiK ?_ | refine rd_itet ?_ | refine rd_itef ?_ | refine rd_itnt ?_ | refine rd_itnf ?_) | ((with_reducible apply rd_var); (· exact rfl)) | ((with_reducible apply rd_asgK); (· exact rfl)))))
theorem ok_left_count {P : Program} {w : World} {K : Fg} {mg : Str → Option Value} {base : Heap} {t_MAX_EXPONENT t_MAX_LETTERS t_MAX_MEMBERS t_MAX_MEMBER_EXPONENT t_MAX_PASSED t_MOST_COUNTED t_MOST_FAR : Tok} {c_KeptMembers c_Lot tb_free_set_in : Addr} {f : Addr} {fd : FuncData} (D : Dfn K mg "left_count" s_left_count ["letters", "numerator_told", "degree"] f fd) (T : Txt P K mg t_MAX_EXPONENT t_MAX_LETTERS t_MAX_MEMBERS t_MAX_MEMBER_EXPONENT t_MAX_PASSED t_MOST_COUNTED t_MOST_FAR c_KeptMembers c_Lot tb_free_set_in) :
    FnOk P w K mg base CX0 1 f fd ["letters", "numerator_told", "degree"] (upSp K (sp_left_count c_KeptMembers c_Lot tb_free_set_in)) := by
  refine fun_okD D.fn sc_left_count (fun ds g Q h => len3 h) (fun cdv A outer s H E hr => ⟨_, (pds_cons (pds_setLc (i := 3) (own := [("at", 4), ("number", 5)]) (tg := .tp [4, 5]) rfl sc_left_count.nd (sw_true rfl rfl rfl (by decide +kernel)) (pid_itemsK (pdv 1)) (blkOk_by (own := [("at", 4), ("number", 5)]) (N := N_left_count) (sc := defScope s_left_count) (by decide +kernel)) (fun _ _ _ _ _ => (pgd_tp (is := [4, 5]) rfl (pgd_cons (i := 4) (pgd_nm (i := 4) sc_left_count.nd) (pgd_cons (i := 5) (pgd_nm (i := 5) sc_left_count.nd) pgd_nil)))) (fun _ _ _ _ _ => (ptsd_one (pt_cmpD op_le (RefCmp.op ref_cmp) (pdv 4) (pdv 2) (nomark _)))) (fun _ _ _ _ _ => (pd_tup (pda_cons (pdv 5) (pda_cons (pd_sub (pdv 2) (pdv 4)) pda_nil))))) (pds_one (pds_ret (pd_callB (cr_sum rfl) ref_sum T.b_sum (by decide +kernel) (pda_cons (pd_lc (own := [("number", 5), ("rest", 6)]) (tg := .tp [5, 6]) rfl sc_left_count.nd (pid_seq (pdv 3)) (blkOk_by (own := [("number", 5), ("rest", 6)]) (N := N_left_count) (sc := defScope s_left_count) (by decide +kernel)) (fun _ _ _ _ _ => (pgd_tp (is := [5, 6]) rfl (pgd_cons (i := 5) (pgd_nm (i := 5) sc_left_count.nd) (pgd_cons (i := 6) (pgd_nm (i := 6) sc_left_count.nd) pgd_nil)))) (fun _ _ _ _ _ => ptsd_nil) (fun _ _ _ _ _ => (pd_mulI (pdv 5) (pd_callF cr_comb ref_comb T.i_comb (pda_cons (pd_sub (pd_add (pdv 6) (pdv 0)) pd_int) (pda_cons (pd_sub (pdv 0) pd_int) pda_nil)))))) pda_nil))))), ?_⟩)
  intro ds g Q h
  obtain ⟨a0, a1, a2, rfl, h⟩ := sp3_of h
  rw [show startD N_left_count [a0, a1, a2] = [some a0, some a1, some a2, none, none, none, none] from rfl]
  obtain ⟨n, ks, f, D, e1, e2, e3, n1, n8, hr, hf, D0, Dm, k⟩ := h
  subst e1 e2 e3
  have hkl := hr.len (by decide)
  walk_at "rr20"
  refine ⟨_, _, rfl, ?_⟩
  rw [pairsK_int]
  refine rd_zK (by rw [List.length_map]; omega) (comp_fil (p := leD2 D) (f := lfD D) (fun d hd => ?_) ?_)
  · obtain ⟨x, hx, e5⟩ := List.mem_map.mp hd
    subst e5
    refine ⟨_, rfl, fun Q' h' => ?_, fun _ Q2 h2 => ?_⟩
    · walk_at "rr20"
      exact h'
    · walk_at "rr20"
      refine rd_zK (by show 2 ≤ 16777216; decide) ?_
      exact h2
  rw [show (ks.map fun k => DV.tup [.int k, .int (f k)]) = ks.map (itI f) from rfl, parts_map]
  walk_at "rr20"
  refine rd_zK (by rw [List.length_map]; exact Nat.le_trans (List.length_filter_le _ _) (by omega)) (comp_map (f := lmD n) (fun d hd => ?_) ?_)
  · obtain ⟨x, hx, e5⟩ := List.mem_map.mp hd
    subst e5
    have hx2 := List.mem_filter.mp hx
    have hx3 := of_decide_eq_true hx2.2
    have hx4 := hr.bd x hx2.1
    refine ⟨_, rfl, fun Q2 h2 => ?_⟩
    walk_at "rr20"
    refine rd_comb ⟨by omega, by omega, by omega, by omega⟩ ?_
    walk_at "rr20"
    refine rd_rI (mul_ok (hf x) (cn_abs (n := n) (d := D - x) n1 n8 (by omega) (by omega)) (by decide)) ?_
    exact h2
  rw [terms_map]
  walk_at "rr20"
  refine rd_sum rfl (intsD_map _) ?_
  rw [lc_keys hr.nd (fun k hk => (hr.bd k hk).1) hr.out]
  exact dret k

abbrev s_is_free_in : Stmt := topS 57
abbrev N_is_free_in : List Str := ["members", "letters_told", "one", "place", "entry"]
theorem sc_is_free_in : FnScope N_is_free_in ["members", "letters_told"] (defScope s_is_free_in) := ⟨rfl, rfl, rfl, by decide +kernel, rfl, by decide +kernel, by decide +kernel⟩
abbrev sp_is_free_in (c_KeptMembers c_Lot tb_free_set_in : Addr) : SpD :=
  sp2 fun a b g P => ∃ (n : Nat) (M : List (List Int)) (s : List Int), a = .tup (M.map tI) ∧ b = tI s ∧ n ≤ 8 ∧ Prods n 60 M ∧ M.length ≤ 24 ∧ P (.bl (freeB M s)) g

local macro_rules | `(tactic| walk_at "rr21") => `(tactic| (repeat (first | (with_reducible first | refine rd_seq ?_ | refine rd_seqE ?_ | refine rd_next ?_ | refine rd_rtE ?_ | refine rd_nxE ?_ | refine rd_nx ?_ | refine rd_rt ?_ | refine rd_drop ?_ | refine rd_ret ?_ | refine rd_c ?_ | refine rd_op ?_ | refine rd_b ?_ | refine rd_bK ?_ | refine rd_andV ?_ | refine rd_tvKb ?_ | refine rd_nil ?_ | refine rd_cons ?_ | refine rd_cb ?_ | refine rd_call ?_ | refine rd_sp1 ?_ | refine rd_sp2 ?_ | refine rd_sp3 ?_ | refine rd_cmp ?_ | refine rd_lc ?_ | refine rd_yes ?_ | refine rd_wseq ?_ | refine rd_wsT ?_ | refine rd_wsL ?_ | refine rd_wsS ?_ | refine rd_wenT ?_ | refine rd_enK ?_ | refine rd_itet ?_ | refine rd_itef ?_ | refine rd_itnt ?_ | refine rd_itnf ?_) | ((with_reducible apply rd_var); (· exact rfl)))))
theorem ok_is_free_in {P : Program} {w : World} {K : Fg} {mg : Str → Option Value} {base : Heap} {t_MAX_EXPONENT t_MAX_LETTERS t_MAX_MEMBERS t_MAX_MEMBER_EXPONENT t_MAX_PASSED t_MOST_COUNTED t_MOST_FAR : Tok} {c_KeptMembers c_Lot tb_free_set_in : Addr} {f : Addr} {fd : FuncData} (D : Dfn K mg "is_free_in" s_is_free_in ["members", "letters_told"] f fd) (T : Txt P K mg t_MAX_EXPONENT t_MAX_LETTERS t_MAX_MEMBERS t_MAX_MEMBER_EXPONENT t_MAX_PASSED t_MOST_COUNTED t_MOST_FAR c_KeptMembers c_Lot tb_free_set_in) :
    FnOk P w K mg base CX0 1 f fd ["members", "letters_told"] (upSp K (sp_is_free_in c_KeptMembers c_Lot tb_free_set_in)) := by
  refine fun_okD D.fn sc_is_free_in (fun ds g Q h => len2 h) (fun cdv A outer s H E hr => ⟨_, (pds_one (pds_ret (pd_callB (cr_all rfl) ref_bs T.b_all (by decide +kernel) (pda_cons (pd_lc (own := [("one", 2)]) (tg := .nm 2) rfl sc_is_free_in.nd (pid_seq (pdv 0)) (blkOk_by (own := [("one", 2)]) (N := N_is_free_in) (sc := defScope s_is_free_in) (by decide +kernel)) (fun _ _ _ _ _ => (pgd_nm (i := 2) sc_is_free_in.nd)) (fun _ _ _ _ _ => ptsd_nil) (fun _ _ _ _ _ => (pd_callB (cr_any rfl) ref_bs T.b_any (by decide +kernel) (pda_cons (pd_lc (own := [("place", 3), ("entry", 4)]) (tg := .tp [3, 4]) rfl sc_is_free_in.nd (pid_enT T.b_enumerate (pda_cons (pdv 2) pda_nil)) (blkOk_by (own := [("place", 3), ("entry", 4)]) (N := N_is_free_in) (by kernel_rfl)) (fun _ _ _ _ _ => (pgd_tp (is := [3, 4]) rfl (pgd_cons (i := 3) (pgd_nm (i := 3) sc_is_free_in.nd) (pgd_cons (i := 4) (pgd_nm (i := 4) sc_is_free_in.nd) pgd_nil)))) (fun _ _ _ _ _ => ptsd_nil) (fun _ _ _ _ _ => (pd_and (pd_cmp op_gt (RefCmp.op ref_cmp) (pdv 4) pd_int (nomark _)) (pd_one (pd_cmp (op_notInTp (units65 hr)) (RefCmp.op ref_inTp) (pdv 3) (pdv 1) (by rfl)))))) pda_nil)))) pda_nil)))), ?_⟩)
  intro ds g Q h
  obtain ⟨a0, a1, rfl, h⟩ := sp2_of h
  rw [show startD N_is_free_in [a0, a1] = [some a0, some a1, none, none, none] from rfl]
  obtain ⟨n, M, s, e1, e2, n8, hM, hl, k⟩ := h
  subst e1 e2
  walk_at "rr21"
  refine rd_zK (by rw [List.length_map]; omega) (comp_map (f := fun d => .bl (freeM s (ofT d))) (fun d hd => ?_) ?_)
  · obtain ⟨m, hm, e⟩ := tI_mem hd
    subst e
    have hml := (hM m hm).1
    refine ⟨_, rfl, fun Q2 h2 => ?_⟩
    walk_at "rr21"
    refine rd_zK (by rw [en_ints14, List.length_map, List.length_range]; omega) (comp_map (f := fun d => .bl (freeD s d)) (fun d hd => ?_) ?_)
    · rw [en_ints14] at hd
      obtain ⟨i, hi, e⟩ := List.mem_map.mp hd
      subst e
      refine ⟨_, rfl, fun Q3 h3 => ?_⟩
      walk_at "rr21"
      have h3 : Q3 (.bl (decide (0 < m.getD i 0) && !decide ((i : Int) ∈ s))) g := h3
      by_cases c : 0 < m.getD i 0
      · rw [if_pos (decide_eq_true c)]
        walk_at "rr21"
        refine rd_inTp (neg := true) (okD_int _) (okD_tI _) ?_
        rw [if_pos rfl, any_ints]
        rw [decide_eq_true c, Bool.true_and] at h3
        exact h3
      · rw [if_neg (by simpa using c)]
        rw [decide_eq_false c, Bool.false_and] at h3
        rw [decide_eq_false c]
        exact h3
    · walk_at "rr21"
      refine rd_bs rfl (blsD_fun (freeD s) _) ?_
      rw [any_id_map, freeD_at]
      rw [ofT_tI] at h2
      exact h2
  · walk_at "rr21"
    refine rd_bs rfl (blsD_fun (fun d => freeM s (ofT d)) _) ?_
    rw [all_id_map, List.all_map, show (M.all ((fun d => freeM s (ofT d)) ∘ tI)) = freeB M s from by unfold freeB; congr 1; funext m; show freeM s (ofT (tI m)) = _; rw [ofT_tI]]
    walk_at "rr21"
    exact dret k

abbrev s_sets_of : Stmt := topS 58
abbrev N_sets_of : List Str := ["letters", "size", "found", "place", "one"]
theorem sc_sets_of : FnScope N_sets_of ["letters", "size"] (defScope s_sets_of) := ⟨rfl, rfl, rfl, by decide +kernel, rfl, by decide +kernel, by decide +kernel⟩
abbrev sp_sets_of (c_KeptMembers c_Lot tb_free_set_in : Addr) : SpD :=
  sp2 fun a b g P => ∃ (n k : Nat), a = .int (n : Int) ∧ b = .int (k : Int) ∧ n ≤ 8 ∧ k ≤ 8 ∧ P (.lst ((setsE n k).map tI)) g

local macro_rules | `(tactic| walk_at "rr22") => `(tactic| (repeat (first | (with_reducible first | refine rd_seq ?_ | refine rd_seqE ?_ | refine rd_next ?_ | refine rd_rtE ?_ | refine rd_nxE ?_ | refine rd_nx ?_ | refine rd_rt ?_ | refine rd_ct ?_ | refine rd_bk ?_ | refine rd_drop ?_ | refine rd_ret ?_ | refine rd_asg ?_ | refine rd_for ?_ | refine rd_c ?_ | refine rd_op ?_ | refine rd_b ?_ | refine rd_bK ?_ | refine rd_nil ?_ | refine rd_cons ?_ | refine rd_tup ?_ | refine rd_lst ?_ | refine rd_cb ?_ | refine rd_call ?_ | refine rd_sp1 ?_ | refine rd_sp2 ?_ | refine rd_sp3 ?_ | refine rd_cmp ?_ | refine rd_lc ?_ | refine rd_wseq ?_ | refine rd_wsT ?_ | refine rd_wsL ?_ | refine rd_wsS ?_ | refine rd_rng1 ?_ | refine rd_star ?_ | refine rd_itet ?_ | refine rd_itef ?_ | refine rd_itnt ?_ | refine rd_itnf ?_) | ((with_reducible apply rd_var); (· exact rfl)) | ((with_reducible apply rd_asgK); (· exact rfl)) | ((with_reducible apply rd_len); (· (first | assumption | exact seqD_ref (by assumption) | exact seqD_up | exact lstD_ref (by assumption) | exact lstD_up | rfl))) | ((with_reducible apply rd_stK); (· (first | assumption | exact seqD_ref (by assumption) | exact seqD_up | exact lstD_ref (by assumption) | exact lstD_up | rfl))))))
theorem ok_sets_of {P : Program} {w : World} {K : Fg} {mg : Str → Option Value} {base : Heap} {t_MAX_EXPONENT t_MAX_LETTERS t_MAX_MEMBERS t_MAX_MEMBER_EXPONENT t_MAX_PASSED t_MOST_COUNTED t_MOST_FAR : Tok} {c_KeptMembers c_Lot tb_free_set_in : Addr} {f : Addr} {fd : FuncData} (D : Dfn K mg "sets_of" s_sets_of ["letters", "size"] f fd) (T : Txt P K mg t_MAX_EXPONENT t_MAX_LETTERS t_MAX_MEMBERS t_MAX_MEMBER_EXPONENT t_MAX_PASSED t_MOST_COUNTED t_MOST_FAR c_KeptMembers c_Lot tb_free_set_in) :
    FnOk P w K mg base CX0 1 f fd ["letters", "size"] (upSp K (sp_sets_of c_KeptMembers c_Lot tb_free_set_in)) := by
  refine fun_okD D.fn sc_sets_of (fun ds g Q h => len2 h) (fun cdv A outer s H E hr => ⟨_, (pds_cons (pds_set (i := 2) sc_sets_of.nd (pd_lst (pda_cons (pd_tup pda_nil) pda_nil))) (pds_cons (pds_for (tg := .nm 3) PassesOwn.never rfl (pid_range1 T.b_range (pda_cons (pdv 0) pda_nil)) (pgd_nm (i := 3) sc_sets_of.nd) (pds_one (pds_set (i := 2) sc_sets_of.nd (pd_lst (pda_star (pdv 2) (pda_star (pd_lc (own := [("one", 4)]) (tg := .nm 4) rfl sc_sets_of.nd (pid_seq (pdv 2)) (blkOk_by (own := [("one", 4)]) (N := N_sets_of) (sc := defScope s_sets_of) (by decide +kernel)) (fun _ _ _ _ _ => (pgd_nm (i := 4) sc_sets_of.nd)) (fun _ _ _ _ _ => (ptsd_one (pt_cmpD op_lt (RefCmp.op ref_cmp) (pd_callB call_len_seq ref_len T.b_len (by decide +kernel) (pda_cons (pdv 4) pda_nil)) (pdv 1) (nomark _)))) (fun _ _ _ _ _ => (pd_tup (pda_star (pdv 4) (pda_cons (pdv 3) pda_nil))))) pda_nil)))))) (pds_one (pds_ret (pd_lc (own := [("one", 4)]) (tg := .nm 4) rfl sc_sets_of.nd (pid_seq (pdv 2)) (blkOk_by (own := [("one", 4)]) (N := N_sets_of) (sc := defScope s_sets_of) (by decide +kernel)) (fun _ _ _ _ _ => (pgd_nm (i := 4) sc_sets_of.nd)) (fun _ _ _ _ _ => (ptsd_one (pt_cmpD (op_eqD hr.units) (RefCmp.op ref_eq) (pd_callB call_len_seq ref_len T.b_len (by decide +kernel) (pda_cons (pdv 4) pda_nil)) (pdv 1) (nomark _)))) (fun _ _ _ _ _ => (pdv 4))))))), ?_⟩)
  intro ds g Q h
  obtain ⟨a0, a1, rfl, h⟩ := sp2_of h
  rw [show startD N_sets_of [a0, a1] = [some a0, some a1, none, none, none] from rfl]
  obtain ⟨n, k, e1, e2, hn, hk, kk⟩ := h
  subst e1 e2
  walk_at "rr22"
  refine rd_zK (by show 0 ≤ 16777216; decide) ?_
  walk_at "rr22"
  refine rd_zK (by show 1 ≤ 16777216; decide) ?_
  walk_at "rr22"
  refine rd_rng1K ⟨by omega, by omega⟩ ?_
  refine rd_loopX (I := fun i δ g' => g' = g ∧ ∃ v3 v4 : Option DV, δ = [some (.int (n : Int)), some (.int (k : Int)), some (.lst ((setsK k i).map tI)), v3, v4]) ⟨rfl, none, none, rfl⟩ ?_ ?_
  · intro i d hd δ g' f hf hI
    obtain ⟨eg, v3, v4, e⟩ := hI
    subst eg e
    obtain ⟨hi, e⟩ := rangeD_at hd
    subst e
    have hl := setsK_le (k := k) (n := i) (by omega)
    have hl2 := setsK_le (k := k) (n := i + 1) (by omega)
    refine ⟨_, rfl, ?_⟩
    walk_at "rr22"
    refine rd_zK (by rw [List.length_map]; omega) (comp_fil (p := ltLen (k : Int)) (f := endT (i : Int)) (fun d hd => ?_) ?_)
    · obtain ⟨x, hx, e⟩ := tI_mem hd
      subst e
      have hx8 := setsK_each hx
      refine ⟨_, rfl, fun Q' h' => ?_, fun _ Q2 h2 => ?_⟩
      · walk_at "rr22"
        exact h'
      · walk_at "rr22"
        refine rd_zK (by rw [List.length_append, List.length_map]; show x.length + 1 ≤ 16777216; omega) ?_
        exact h2
    · walk_at "rr22"
      rw [List.append_nil, setsK_D]
      refine rd_zK (by rw [List.length_map]; omega) ?_
      walk_at "rr22"
      exact hf _ _ ⟨rfl, _, _, rfl⟩
  · intro δ g' hI
    obtain ⟨eg, v3, v4, e⟩ := hI
    subst eg e
    have hl := setsK_le (k := k) (n := n) hn
    rw [rangeD_len, Int.toNat_natCast]
    walk_at "rr22"
    refine rd_zK (by rw [List.length_map]; omega) (comp_fil (p := eqLen (k : Int)) (f := fun d => d) (fun d hd => ?_) ?_)
    · obtain ⟨x, hx, e⟩ := tI_mem hd
      subst e
      refine ⟨_, rfl, fun Q' h' => ?_, fun _ Q2 h2 => ?_⟩
      · walk_at "rr22"
        refine rd_eq (okD_int _) (okD_int _) ?_
        rw [eqD_int]
        walk_at "rr22"
        exact h'
      · walk_at "rr22"
        exact h2
    · rw [setsE_D]
      exact dret kk

abbrev s_free_set_in : Stmt := topS 59
abbrev N_free_set_in : List Str := ["lot", "size", "found", "one"]
theorem sc_free_set_in : FnScope N_free_set_in ["lot"] (defScope s_free_set_in) := ⟨rfl, rfl, rfl, by decide +kernel, rfl, by decide +kernel, by decide +kernel⟩
abbrev sp_free_set_in (c_KeptMembers c_Lot tb_free_set_in : Addr) : SpD :=
  sp1 fun a g P => ∃ (n : Nat) (M : List (List Int)), a = lotD c_Lot n M ∧ n ≤ 8 ∧ Prods n 60 M ∧ M.length ≤ 24 ∧ TbG (TT tb_free_set_in) g ∧ P ((fsI n M).elim .non tI) g

local macro_rules | `(tactic| walk_at "rr23") => `(tactic| (repeat (first | (with_reducible first | refine rd_seq ?_ | refine rd_seqE ?_ | refine rd_next ?_ | refine rd_rtE ?_ | refine rd_nxE ?_ | refine rd_nx ?_ | refine rd_rt ?_ | refine rd_ct ?_ | refine rd_bk ?_ | refine rd_drop ?_ | refine rd_ret ?_ | refine rd_dif ?_ | refine rd_asg ?_ | refine rd_for ?_ | refine rd_c ?_ | refine rd_op ?_ | refine rd_un ?_ | refine rd_b ?_ | refine rd_bK ?_ | refine rd_tru ?_ | refine rd_tKb ?_ | refine rd_nil ?_ | refine rd_cons ?_ | refine rd_cb ?_ | refine rd_call ?_ | refine rd_sp1 ?_ | refine rd_sp2 ?_ | refine rd_sp3 ?_ | refine rd_wseq ?_ | refine rd_wsT ?_ | refine rd_wsL ?_ | refine rd_wsS ?_ | refine rd_rngD ?_ | refine rd_ng ?_ | refine rd_fld ?_ | refine rd_gnx ?_ | refine rd_itet ?_ | refine rd_itef ?_ | refine rd_itnt ?_ | refine rd_itnf ?_) | ((with_reducible apply rd_flI); (· exact rfl)) | ((with_reducible apply rd_flR); (· (first | assumption | exact gup_same)); (· exact rfl)) | ((with_reducible apply rd_var); (· exact rfl)) | ((with_reducible apply rd_asgK); (· exact rfl)))))
theorem ok_free_set_in {P : Program} {w : World} {K : Fg} {mg : Str → Option Value} {base : Heap} {t_MAX_EXPONENT t_MAX_LETTERS t_MAX_MEMBERS t_MAX_MEMBER_EXPONENT t_MAX_PASSED t_MOST_COUNTED t_MOST_FAR : Tok} {c_KeptMembers c_Lot tb_free_set_in : Addr} {f cc_free_set_in f_sets_of f_is_free_in : Addr} {fd d_sets_of d_is_free_in : FuncData} (D : DfnC K mg "free_set_in" s_free_set_in ["lot"] f fd cc_free_set_in) (T : Txt P K mg t_MAX_EXPONENT t_MAX_LETTERS t_MAX_MEMBERS t_MAX_MEMBER_EXPONENT t_MAX_PASSED t_MOST_COUNTED t_MOST_FAR c_KeptMembers c_Lot tb_free_set_in) (B_free_set_in : TabB base mg cc_free_set_in tb_free_set_in) (D_sets_of : Dfn K mg "sets_of" s_sets_of ["letters", "size"] f_sets_of d_sets_of) (G_sets_of : FnOk P w K mg base CX0 1 f_sets_of d_sets_of ["letters", "size"] (upSp K (sp_sets_of c_KeptMembers c_Lot tb_free_set_in))) (D_is_free_in : Dfn K mg "is_free_in" s_is_free_in ["members", "letters_told"] f_is_free_in d_is_free_in) (G_is_free_in : FnOk P w K mg base CX0 1 f_is_free_in d_is_free_in ["members", "letters_told"] (upSp K (sp_is_free_in c_KeptMembers c_Lot tb_free_set_in))) :
    FnG P w K mg base 4 f fd ["lot"] (upSp K (sp_free_set_in c_KeptMembers c_Lot tb_free_set_in)) := by
  refine fun_okG D.fn sc_free_set_in (fun ds g Q h => len1 h) (fun A outer s H E hr hgd => ⟨_, (pds_cons (pds_for (tg := .nm 1) PassesOwn.never rfl (pid_rangeD T.b_range (pda_cons (pd_fld T.F_Lot.sc T.s_Lot_own_letters.choose_spec (pdv 0)) (pda_cons (pd_neg pd_int) (pda_cons (pd_neg pd_int) pda_nil)))) (pgd_nm (i := 1) sc_free_set_in.nd) (pds_cons (pds_set (i := 2) sc_free_set_in.nd (pd_nx (own := [("one", 3)]) (tg := .nm 3) (k := 1) T.b_next sc_free_set_in.nd B_free_set_in (hr.mono (by decide)) hgd (pid_seq (pd_call G_sets_of (hr.mono (by decide)) D_sets_of.at_ D_sets_of.fn.kp D_sets_of.bd pass0 (pda_cons (pd_fld T.F_Lot.sc T.s_Lot_own_letters.choose_spec (pdv 0)) (pda_cons (pdv 1) pda_nil)))) (genS_by (own := [("one", 3)]) (N := N_free_set_in) (sc := defScope s_free_set_in) (by decide +kernel)) (fun A s H C code fp hr hgd => (pgd_nm (i := 3) sc_free_set_in.nd)) (fun A s H C code fp hr hgd => (ptsd_one (pt_truD (pd_call G_is_free_in (hr.mono (by decide)) D_is_free_in.at_ D_is_free_in.fn.kp D_is_free_in.bd pass0 (pda_cons (pd_fld T.F_Lot.sc T.s_Lot_own_members.choose_spec (pdv 0)) (pda_cons (pdv 3) pda_nil)))))) (fun A s H C code fp hr hgd => (pdv 3)))) (pds_one (pds_if (pt_cmpD op_notN (RefCmp.op ref_notN) (pdv 2) pd_non (nomark _)) (pds_one (pds_ret (pdv 2))) pds_nil)))) (pds_one (pds_ret pd_non))), ?_⟩)
  intro ds g Q h
  obtain ⟨a0, rfl, h⟩ := sp1_of h
  rw [show startD N_free_set_in [a0] = [some a0, none, none, none] from rfl]
  obtain ⟨n, M, e1, n8, hM, hl, hT, k⟩ := h
  subst e1
  have hT1 := tt_free_set_in hT
  walk_at "rr23"
  refine rd_rngDK ⟨by omega, by omega, by decide, by decide⟩ ?_
  refine rd_loopX (I := fun i δ g' => g' = g ∧ (i ≤ n + 1 ∧ fsI n M = fsK n M (n + 1 - i)) ∧ ∃ v1 v2 v3 : Option DV, δ = [some (lotD c_Lot n M), v1, v2, v3]) ⟨rfl, ⟨by omega, rfl⟩, none, none, none, rfl⟩ ?_ ?_
  · intro i d hd δ g' f hf hI
    obtain ⟨eg, ⟨hi, hf0⟩, v1, v2, v3, e⟩ := hI
    subst eg e
    obtain ⟨hi2, e⟩ := downD_at hd
    subst e
    have hin : i ≤ n := by omega
    have ei : (n : Int) - (i : Int) = ((n - i : Nat) : Int) := by omega
    rw [show n + 1 - i = (n - i) + 1 by omega] at hf0
    refine ⟨_, rfl, ?_⟩
    walk_at "rr23"
    refine ⟨n, n - i, rfl, by rw [← ei], n8, by omega, ?_⟩
    refine rd_gnxK hT hT1 ?_
    refine find_first tI tI (freeB M) _ (fun x hx => ⟨_, rfl, fun R h' => ?_⟩) (fun x hx hp δ2 e h' => ?_) ?_
    · walk_at "rr23"
      exact ⟨n, M, x, rfl, rfl, n8, hM, hl, h'⟩
    · cases e
      walk_at "rr23"
      exact h'
    · cases hfd : (setsE n (n - i)).find? (freeB M) with
      | some s =>
        rw [fsK_hit hfd] at hf0
        rw [hf0] at k
        walk_at "rr23"
        exact dret k
      | none =>
        rw [fsK_step hfd] at hf0
        walk_at "rr23"
        exact hf _ _ ⟨rfl, ⟨by omega, by rw [hf0]; congr 1; omega⟩, _, _, _, rfl⟩
  · intro δ g' hI
    obtain ⟨eg, ⟨hi, hf0⟩, v1, v2, v3, e⟩ := hI
    subst eg e
    rw [downD_len, show ((n : Int) - -1).toNat = n + 1 by omega, Nat.sub_self] at hf0
    rw [hf0] at k
    walk_at "rr23"
    exact dret k

abbrev s_dimension_in : Stmt := topS 60
abbrev N_dimension_in : List Str := ["lot", "found"]
theorem sc_dimension_in : FnScope N_dimension_in ["lot"] (defScope s_dimension_in) := ⟨rfl, rfl, rfl, by decide +kernel, rfl, by decide +kernel, by decide +kernel⟩
abbrev sp_dimension_in (c_KeptMembers c_Lot tb_free_set_in : Addr) : SpD :=
  sp1 fun a g P => ∃ (n : Nat) (M : List (List Int)), a = lotD c_Lot n M ∧ n ≤ 8 ∧ Prods n 60 M ∧ M.length ≤ 24 ∧ TbG (TT tb_free_set_in) g ∧ P (.int (dimI n M)) g

local macro_rules | `(tactic| walk_at "rr24") => `(tactic| (repeat (first | (with_reducible first | refine rd_seq ?_ | refine rd_seqE ?_ | refine rd_next ?_ | refine rd_rtE ?_ | refine rd_nxE ?_ | refine rd_nx ?_ | refine rd_rt ?_ | refine rd_drop ?_ | refine rd_ret ?_ | refine rd_asg ?_ | refine rd_c ?_ | refine rd_op ?_ | refine rd_un ?_ | refine rd_b ?_ | refine rd_bK ?_ | refine rd_ifE ?_ | refine rd_nil ?_ | refine rd_cons ?_ | refine rd_cb ?_ | refine rd_call ?_ | refine rd_sp1 ?_ | refine rd_sp2 ?_ | refine rd_sp3 ?_ | refine rd_ng ?_ | refine rd_itet ?_ | refine rd_itef ?_ | refine rd_itnt ?_ | refine rd_itnf ?_) | ((with_reducible apply rd_var); (· exact rfl)) | ((with_reducible apply rd_asgK); (· exact rfl)) | ((with_reducible apply rd_len); (· (first | assumption | exact seqD_ref (by assumption) | exact seqD_up | exact lstD_ref (by assumption) | exact lstD_up | rfl))))))
theorem ok_dimension_in {P : Program} {w : World} {K : Fg} {mg : Str → Option Value} {base : Heap} {t_MAX_EXPONENT t_MAX_LETTERS t_MAX_MEMBERS t_MAX_MEMBER_EXPONENT t_MAX_PASSED t_MOST_COUNTED t_MOST_FAR : Tok} {c_KeptMembers c_Lot tb_free_set_in : Addr} {f cc_dimension_in f_free_set_in cc_free_set_in : Addr} {fd d_free_set_in : FuncData} (D : DfnC K mg "dimension_in" s_dimension_in ["lot"] f fd cc_dimension_in) (T : Txt P K mg t_MAX_EXPONENT t_MAX_LETTERS t_MAX_MEMBERS t_MAX_MEMBER_EXPONENT t_MAX_PASSED t_MOST_COUNTED t_MOST_FAR c_KeptMembers c_Lot tb_free_set_in) (D_free_set_in : DfnC K mg "free_set_in" s_free_set_in ["lot"] f_free_set_in d_free_set_in cc_free_set_in) (G_free_set_in : FnG P w K mg base 4 f_free_set_in d_free_set_in ["lot"] (upSp K (sp_free_set_in c_KeptMembers c_Lot tb_free_set_in))) :
    FnG P w K mg base 5 f fd ["lot"] (upSp K (sp_dimension_in c_KeptMembers c_Lot tb_free_set_in)) := by
  refine fun_okG D.fn sc_dimension_in (fun ds g Q h => len1 h) (fun A outer s H E hr hgd => ⟨_, (pds_cons (pds_set (i := 1) sc_dimension_in.nd (pd_callG G_free_set_in (hr.mono (by decide)) hgd D_free_set_in.at_ D_free_set_in.fn.kp D_free_set_in.bd (pda_cons (pdv 0) pda_nil))) (pds_one (pds_ret (pd_ifExp (pt_cmpD op_isN (RefCmp.op ref_isN) (pdv 1) pd_non (nomark _)) (pd_neg pd_int) (pd_callB call_len_seq ref_len T.b_len (by decide +kernel) (pda_cons (pdv 1) pda_nil)))))), ?_⟩)
  intro ds g Q h
  obtain ⟨a0, rfl, h⟩ := sp1_of h
  rw [show startD N_dimension_in [a0] = [some a0, none] from rfl]
  obtain ⟨n, M, e1, n8, hM, hl, hT, k⟩ := h
  subst e1
  walk_at "rr24"
  refine ⟨n, M, rfl, n8, hM, hl, hT, ?_⟩
  cases hfd : fsI n M with
  | none =>
    unfold dimI at k
    rw [hfd] at k
    dsimp only [Option.elim]
    walk_at "rr24"
    exact dret k
  | some s =>
    unfold dimI at k
    rw [hfd] at k
    dsimp only [Option.elim]
    have k2 : Q (.int ((s.map DV.int).length : Int)) g := by rw [List.length_map]; exact k
    walk_at "rr24"
    exact dret k2

abbrev s_stretched_comb : Stmt := topS 61
abbrev N_stretched_comb : List Str := ["top", "bottom", "found", "turn"]
theorem sc_stretched_comb : FnScope N_stretched_comb ["top", "bottom"] (defScope s_stretched_comb) := ⟨rfl, rfl, rfl, by decide +kernel, rfl, by decide +kernel, by decide +kernel⟩
abbrev sp_stretched_comb (c_KeptMembers c_Lot tb_free_set_in : Addr) : SpD :=
  sp2 fun a b g P => ∃ (x : Int) (k : Nat), a = .int x ∧ b = .int (k : Int) ∧ k ≤ 7 ∧ x.natAbs ≤ 2 ^ 20 ∧ P (.int (bn k x)) g

local macro_rules | `(tactic| walk_at "rr25") => `(tactic| (repeat (first | (with_reducible first | refine rd_seq ?_ | refine rd_seqE ?_ | refine rd_next ?_ | refine rd_rtE ?_ | refine rd_nxE ?_ | refine rd_nx ?_ | refine rd_rt ?_ | refine rd_ct ?_ | refine rd_bk ?_ | refine rd_drop ?_ | refine rd_ret ?_ | refine rd_asg ?_ | refine rd_for ?_ | refine rd_c ?_ | refine rd_op ?_ | refine rd_b ?_ | refine rd_bK ?_ | refine rd_nil ?_ | refine rd_cons ?_ | refine rd_cb ?_ | refine rd_call ?_ | refine rd_sp1 ?_ | refine rd_sp2 ?_ | refine rd_sp3 ?_ | refine rd_sub ?_ | refine rd_addI ?_ | refine rd_rng1 ?_ | refine rd_itet ?_ | refine rd_itef ?_ | refine rd_itnt ?_ | refine rd_itnf ?_) | ((with_reducible apply rd_var); (· exact rfl)) | ((with_reducible apply rd_asgK); (· exact rfl)))))
theorem ok_stretched_comb {P : Program} {w : World} {K : Fg} {mg : Str → Option Value} {base : Heap} {t_MAX_EXPONENT t_MAX_LETTERS t_MAX_MEMBERS t_MAX_MEMBER_EXPONENT t_MAX_PASSED t_MOST_COUNTED t_MOST_FAR : Tok} {c_KeptMembers c_Lot tb_free_set_in : Addr} {f : Addr} {fd : FuncData} (D : Dfn K mg "stretched_comb" s_stretched_comb ["top", "bottom"] f fd) (T : Txt P K mg t_MAX_EXPONENT t_MAX_LETTERS t_MAX_MEMBERS t_MAX_MEMBER_EXPONENT t_MAX_PASSED t_MOST_COUNTED t_MOST_FAR c_KeptMembers c_Lot tb_free_set_in) :
    FnOk P w K mg base CX0 1 f fd ["top", "bottom"] (upSp K (sp_stretched_comb c_KeptMembers c_Lot tb_free_set_in)) := by
  refine fun_okD D.fn sc_stretched_comb (fun ds g Q h => len2 h) (fun cdv A outer s H E hr => ⟨_, (pds_cons (pds_set (i := 2) sc_stretched_comb.nd pd_int) (pds_cons (pds_for (tg := .nm 3) PassesOwn.never rfl (pid_range1 T.b_range (pda_cons (pdv 1) pda_nil)) (pgd_nm (i := 3) sc_stretched_comb.nd) (pds_one (pds_aug (i := 2) sc_stretched_comb.nd iop_mulW ref_rI (pd_sub (pdv 0) (pdv 3))))) (pds_one (pds_ret (pd_fdiv (pdv 2) (pd_callF cr_factorial ref_factorial T.i_factorial (pda_cons (pdv 1) pda_nil))))))), ?_⟩)
  intro ds g Q h
  obtain ⟨a0, a1, rfl, h⟩ := sp2_of h
  rw [show startD N_stretched_comb [a0, a1] = [some a0, some a1, none, none] from rfl]
  obtain ⟨x, m, e1, e2, hm, hx, k⟩ := h
  subst e1 e2
  walk_at "rr25"
  refine rd_rng1K (j := (m : Int)) ⟨by omega, by omega⟩ ?_
  rw [Int.toNat_natCast]
  refine rd_loopX (I := fun i δ g' => g' = g ∧ ∃ v1, δ = [some (.int x), some (.int (m : Int)), some (.int (ff x i)), v1]) ⟨rfl, _, rfl⟩ ?_ ?_
  · intro i d hd δ g' f hf hI
    obtain ⟨eg, v1, e⟩ := hI
    subst eg e
    obtain ⟨hil, e⟩ := rangeD_at hd
    subst e
    refine ⟨_, rfl, ?_⟩
    walk_at "rr25"
    refine rd_rI (mul_ok (ff_abs hx i (by omega)) (b := 21) (by omega) (by omega)) ?_
    walk_at "rr25"
    exact hf _ _ ⟨rfl, _, rfl⟩
  · intro δ g' hI
    obtain ⟨eg, v1, e⟩ := hI
    subst eg e
    rw [rangeD_len]
    walk_at "rr25"
    refine rd_fact ⟨by omega, by omega⟩ ?_
    rw [Int.toNat_natCast, fac_is]
    have hfp := fac_pos m
    have hfq := fac_le m hm
    refine rd_rI (divW hfp (by omega)) ?_
    rw [ff_div]
    exact dret k

abbrev s_steady_value : Stmt := topS 62
abbrev N_steady_value : List Str := ["letters", "numerator_told", "degree", "parts", "at", "number", "rest"]
theorem sc_steady_value : FnScope N_steady_value ["letters", "numerator_told", "degree"] (defScope s_steady_value) := ⟨rfl, rfl, rfl, by decide +kernel, rfl, by decide +kernel, by decide +kernel⟩
abbrev sp_steady_value (c_KeptMembers c_Lot tb_free_set_in : Addr) : SpD :=
  sp3 fun a b c g P => ∃ (n : Nat) (ks : List Int) (f : KF) (D : Int), a = .int (n : Int) ∧ b = fnV ks f ∧ c = .int D ∧ 1 ≤ n ∧ n ≤ 8 ∧ RepK ks f 40 ∧ (∀ d, (f d).natAbs ≤ 2 ^ 24) ∧ 0 ≤ D ∧ D ≤ 1000 ∧ P (.int (sv n f D)) g

local macro_rules | `(tactic| walk_at "rr26") => `(tactic| (repeat (first | (with_reducible first | refine rd_seq ?_ | refine rd_seqE ?_ | refine rd_next ?_ | refine rd_rtE ?_ | refine rd_nxE ?_ | refine rd_nx ?_ | refine rd_rt ?_ | refine rd_drop ?_ | refine rd_ret ?_ | refine rd_asg ?_ | refine rd_c ?_ | refine rd_op ?_ | refine rd_b ?_ | refine rd_bK ?_ | refine rd_nil ?_ | refine rd_cons ?_ | refine rd_tup ?_ | refine rd_cb ?_ | refine rd_call ?_ | refine rd_sp1 ?_ | refine rd_sp2 ?_ | refine rd_sp3 ?_ | refine rd_add ?_ | refine rd_sub ?_ | refine rd_lc ?_ | refine rd_yes ?_ | refine rd_wseq ?_ | refine rd_wsT ?_ | refine rd_wsL ?_ | refine rd_wsS ?_ | refine rd_wiK ?_ | refine rd_itet ?_ | refine rd_itef ?_ | refine rd_itnt ?_ | refine rd_itnf ?_) | ((with_reducible apply rd_var); (· exact rfl)) | ((with_reducible apply rd_asgK); (· exact rfl)))))
theorem ok_steady_value {P : Program} {w : World} {K : Fg} {mg : Str → Option Value} {base : Heap} {t_MAX_EXPONENT t_MAX_LETTERS t_MAX_MEMBERS t_MAX_MEMBER_EXPONENT t_MAX_PASSED t_MOST_COUNTED t_MOST_FAR : Tok} {c_KeptMembers c_Lot tb_free_set_in : Addr} {f f_stretched_comb : Addr} {fd d_stretched_comb : FuncData} (D : Dfn K mg "steady_value" s_steady_value ["letters", "numerator_told", "degree"] f fd) (T : Txt P K mg t_MAX_EXPONENT t_MAX_LETTERS t_MAX_MEMBERS t_MAX_MEMBER_EXPONENT t_MAX_PASSED t_MOST_COUNTED t_MOST_FAR c_KeptMembers c_Lot tb_free_set_in) (D_stretched_comb : Dfn K mg "stretched_comb" s_stretched_comb ["top", "bottom"] f_stretched_comb d_stretched_comb) (G_stretched_comb : FnOk P w K mg base CX0 1 f_stretched_comb d_stretched_comb ["top", "bottom"] (upSp K (sp_stretched_comb c_KeptMembers c_Lot tb_free_set_in))) :
    FnOk P w K mg base CX0 2 f fd ["letters", "numerator_told", "degree"] (upSp K (sp_steady_value c_KeptMembers c_Lot tb_free_set_in)) := by
  refine fun_okD D.fn sc_steady_value (fun ds g Q h => len3 h) (fun cdv A outer s H E hr => ⟨_, (pds_cons (pds_setLc (i := 3) (own := [("at", 4), ("number", 5)]) (tg := .tp [4, 5]) rfl sc_steady_value.nd (sw_true rfl rfl rfl (by decide +kernel)) (pid_itemsK (pdv 1)) (blkOk_by (own := [("at", 4), ("number", 5)]) (N := N_steady_value) (sc := defScope s_steady_value) (by decide +kernel)) (fun _ _ _ _ _ => (pgd_tp (is := [4, 5]) rfl (pgd_cons (i := 4) (pgd_nm (i := 4) sc_steady_value.nd) (pgd_cons (i := 5) (pgd_nm (i := 5) sc_steady_value.nd) pgd_nil)))) (fun _ _ _ _ _ => ptsd_nil) (fun _ _ _ _ _ => (pd_tup (pda_cons (pdv 5) (pda_cons (pd_sub (pdv 2) (pdv 4)) pda_nil))))) (pds_one (pds_ret (pd_callB (cr_sum rfl) ref_sum T.b_sum (by decide +kernel) (pda_cons (pd_lc (own := [("number", 5), ("rest", 6)]) (tg := .tp [5, 6]) rfl sc_steady_value.nd (pid_seq (pdv 3)) (blkOk_by (own := [("number", 5), ("rest", 6)]) (N := N_steady_value) (sc := defScope s_steady_value) (by decide +kernel)) (fun _ _ _ _ _ => (pgd_tp (is := [5, 6]) rfl (pgd_cons (i := 5) (pgd_nm (i := 5) sc_steady_value.nd) (pgd_cons (i := 6) (pgd_nm (i := 6) sc_steady_value.nd) pgd_nil)))) (fun _ _ _ _ _ => ptsd_nil) (fun _ _ _ _ _ => (pd_mulI (pdv 5) (pd_call G_stretched_comb (hr.mono (by decide)) D_stretched_comb.at_ D_stretched_comb.fn.kp D_stretched_comb.bd pass0 (pda_cons (pd_sub (pd_add (pdv 6) (pdv 0)) pd_int) (pda_cons (pd_sub (pdv 0) pd_int) pda_nil)))))) pda_nil))))), ?_⟩)
  intro ds g Q h
  obtain ⟨a0, a1, a2, rfl, h⟩ := sp3_of h
  rw [show startD N_steady_value [a0, a1, a2] = [some a0, some a1, some a2, none, none, none, none] from rfl]
  obtain ⟨n, ks, f, D, e1, e2, e3, n1, n8, hr, hf, D0, Dm, k⟩ := h
  subst e1 e2 e3
  have hkl := hr.len (by decide)
  walk_at "rr26"
  refine ⟨_, _, rfl, ?_⟩
  rw [pairsK_int]
  refine rd_zK (by rw [List.length_map]; omega) (comp_map (f := lfD D) (fun d hd => ?_) ?_)
  · obtain ⟨x, hx, e5⟩ := List.mem_map.mp hd
    subst e5
    refine ⟨_, rfl, fun Q2 h2 => ?_⟩
    walk_at "rr26"
    refine rd_zK (by show 2 ≤ 16777216; decide) ?_
    exact h2
  rw [show (ks.map fun k => DV.tup [.int k, .int (f k)]) = ks.map (itI f) from rfl, sparts_map]
  walk_at "rr26"
  refine rd_zK (by rw [List.length_map]; omega) (comp_map (f := smD n) (fun d hd => ?_) ?_)
  · obtain ⟨x, hx, e5⟩ := List.mem_map.mp hd
    subst e5
    have hx4 := hr.bd x hx
    refine ⟨_, rfl, fun Q2 h2 => ?_⟩
    walk_at "rr26"
    refine ⟨D - x + n - 1, n - 1, rfl, by rw [show ((n - 1 : Nat) : Int) = (n : Int) - 1 by omega], by omega, by omega, ?_⟩
    walk_at "rr26"
    refine rd_rI (mul_ok (hf x) (bn_abs (x := D - x + n - 1) (k := n - 1) (by omega) (by omega)) (by omega)) ?_
    rw [show D - x + (n : Int) - 1 = D - x + ((n - 1 : Nat) : Int) by omega]
    exact h2
  rw [sterms_map]
  walk_at "rr26"
  refine rd_sum rfl (intsD_map _) ?_
  rw [sv_keys hr]
  exact dret k

abbrev s_steady_row_in : Stmt := topS 63
abbrev N_steady_row_in : List Str := ["lot", "values", "told", "row", "degree", "here", "later"]
theorem sc_steady_row_in : FnScope N_steady_row_in ["lot"] (defScope s_steady_row_in) := ⟨rfl, rfl, rfl, by decide +kernel, rfl, by decide +kernel, by decide +kernel⟩
abbrev sp_steady_row_in (c_KeptMembers c_Lot tb_free_set_in : Addr) : SpD :=
  sp1 fun a g P => ∃ (n : Nat) (M : List (List Int)), a = lotD c_Lot n M ∧ 1 ≤ n ∧ n ≤ 8 ∧ Prods n 4 M ∧ M.length ≤ 24 ∧ TbG (TT tb_free_set_in) g ∧ P (tI (rowI n M)) g

local macro_rules | `(tactic| walk_at "rr27") => `(tactic| (repeat (first | (with_reducible first | refine rd_seq ?_ | refine rd_seqE ?_ | refine rd_next ?_ | refine rd_rtE ?_ | refine rd_nxE ?_ | refine rd_nx ?_ | refine rd_rt ?_ | refine rd_ct ?_ | refine rd_bk ?_ | refine rd_drop ?_ | refine rd_ret ?_ | refine rd_asg ?_ | refine rd_c ?_ | refine rd_op ?_ | refine rd_b ?_ | refine rd_bK ?_ | refine rd_nil ?_ | refine rd_cons ?_ | refine rd_tup ?_ | refine rd_lst ?_ | refine rd_lstM ?_ | refine rd_cb ?_ | refine rd_call ?_ | refine rd_sp1 ?_ | refine rd_sp2 ?_ | refine rd_sp3 ?_ | refine rd_ii ?_ | refine rd_sub ?_ | refine rd_mt ?_ | refine rd_lc ?_ | refine rd_yes ?_ | refine rd_wzip ?_ | refine rd_zipT ?_ | refine rd_rng1 ?_ | refine rd_sl ?_ | refine rd_slT ?_ | refine rd_slL ?_ | refine rd_slS ?_ | refine rd_nopart ?_ | refine rd_part ?_ | refine rd_ptK ?_ | refine rd_fld ?_ | refine rd_itet ?_ | refine rd_itef ?_ | refine rd_itnt ?_ | refine rd_itnf ?_) | ((with_reducible apply rd_flI); (· exact rfl)) | ((with_reducible apply rd_flR); (· (first | assumption | exact gup_same)); (· exact rfl)) | ((with_reducible apply rd_var); (· exact rfl)) | ((with_reducible apply rd_asgK); (· exact rfl)) | ((with_reducible apply rd_tuple); (· (first | assumption | exact seqD_ref (by assumption) | exact seqD_up | exact lstD_ref (by assumption) | exact lstD_up | rfl))) | ((with_reducible apply rd_ix); (· (first | assumption | exact seqD_ref (by assumption) | exact seqD_up | exact lstD_ref (by assumption) | exact lstD_up | rfl)); (· (first | exact atI_c0 _ _ | exact atI_c1 _ _ _ | exact atI_c2 _ _ _ _ | assumption | rfl))) | ((with_reducible apply rd_some); (· (first | assumption | exact seqD_ref (by assumption) | exact seqD_up | exact lstD_ref (by assumption) | exact lstD_up | rfl))))))
theorem ok_steady_row_in {P : Program} {w : World} {K : Fg} {mg : Str → Option Value} {base : Heap} {t_MAX_EXPONENT t_MAX_LETTERS t_MAX_MEMBERS t_MAX_MEMBER_EXPONENT t_MAX_PASSED t_MOST_COUNTED t_MOST_FAR : Tok} {c_KeptMembers c_Lot tb_free_set_in : Addr} {f cc_steady_row_in f_dimension_in cc_dimension_in f_steady_value f_numerator_in : Addr} {fd d_dimension_in d_steady_value d_numerator_in : FuncData} (D : DfnC K mg "steady_row_in" s_steady_row_in ["lot"] f fd cc_steady_row_in) (T : Txt P K mg t_MAX_EXPONENT t_MAX_LETTERS t_MAX_MEMBERS t_MAX_MEMBER_EXPONENT t_MAX_PASSED t_MOST_COUNTED t_MOST_FAR c_KeptMembers c_Lot tb_free_set_in) (D_dimension_in : DfnC K mg "dimension_in" s_dimension_in ["lot"] f_dimension_in d_dimension_in cc_dimension_in) (G_dimension_in : FnG P w K mg base 5 f_dimension_in d_dimension_in ["lot"] (upSp K (sp_dimension_in c_KeptMembers c_Lot tb_free_set_in))) (D_steady_value : Dfn K mg "steady_value" s_steady_value ["letters", "numerator_told", "degree"] f_steady_value d_steady_value) (G_steady_value : FnOk P w K mg base CX0 2 f_steady_value d_steady_value ["letters", "numerator_told", "degree"] (upSp K (sp_steady_value c_KeptMembers c_Lot tb_free_set_in))) (D_numerator_in : Dfn K mg "numerator_in" s_numerator_in ["lot"] f_numerator_in d_numerator_in) (G_numerator_in : FnOk P w K mg base CX0 70 f_numerator_in d_numerator_in ["lot"] (upSp K (sp_numerator_in c_KeptMembers c_Lot tb_free_set_in))) :
    FnG P w K mg base 71 f fd ["lot"] (upSp K (sp_steady_row_in c_KeptMembers c_Lot tb_free_set_in)) := by
  refine fun_okG D.fn sc_steady_row_in (fun ds g Q h => len1 h) (fun A outer s H E hr hgd => ⟨_, (pds_cons (pds_setT (tg := .tp [2, 3]) (pgd_tp (is := [2, 3]) rfl (pgd_cons (i := 2) (pgd_nm (i := 2) sc_steady_row_in.nd) (pgd_cons (i := 3) (pgd_nm (i := 3) sc_steady_row_in.nd) pgd_nil))) (pd_tup (pda_cons (pd_call G_numerator_in (hr.mono (by decide)) D_numerator_in.at_ D_numerator_in.fn.kp D_numerator_in.bd pass0 (pda_cons (pdv 0) pda_nil)) (pda_cons (pd_lstM pda_nil) pda_nil)))) (pds_cons (pds_setLc (i := 1) (own := [("degree", 4)]) (tg := .nm 4) rfl sc_steady_row_in.nd (sw_true rfl rfl rfl (by decide +kernel)) (pid_range1 T.b_range (pda_cons (pd_callB (call_max2 rfl) ref_II T.b_max (by decide +kernel) (pda_cons pd_int (pda_cons (pd_callG G_dimension_in (hr.mono (by decide)) hgd D_dimension_in.at_ D_dimension_in.fn.kp D_dimension_in.bd (pda_cons (pdv 0) pda_nil)) pda_nil))) pda_nil)) (blkOk_by (own := [("degree", 4)]) (N := N_steady_row_in) (sc := defScope s_steady_row_in) (by decide +kernel)) (fun _ _ _ _ _ => (pgd_nm (i := 4) sc_steady_row_in.nd)) (fun _ _ _ _ _ => ptsd_nil) (fun _ _ _ _ _ => (pd_call G_steady_value (hr.mono (by decide)) D_steady_value.at_ D_steady_value.fn.kp D_steady_value.bd pass0 (pda_cons (pd_fld T.F_Lot.sc T.s_Lot_own_letters.choose_spec (pdv 0)) (pda_cons (pdv 2) (pda_cons (pdv 4) pda_nil)))))) (pds_cons (pds_while PassesOwn.never (pt_cmpD (op_neD hr.units) (RefCmp.op ref_ne) (pdv 1) (pd_lst pda_nil) (nomark _)) (pds_cons (pds_expr (pd_append (pdv 3) (pda_cons (pd_ix (pdv 1) pd_int) pda_nil))) (pds_one (pds_setLc (i := 1) (own := [("here", 5), ("later", 6)]) (tg := .tp [5, 6]) rfl sc_steady_row_in.nd (sw_true rfl rfl rfl (by decide +kernel)) (pid_zip T.b_zip (pda_cons (pdv 1) (pda_cons (pd_slice (pdv 1) (pod_some pd_int) pod_none) pda_nil))) (blkOk_by (own := [("here", 5), ("later", 6)]) (N := N_steady_row_in) (sc := defScope s_steady_row_in) (by decide +kernel)) (fun _ _ _ _ _ => (pgd_tp (is := [5, 6]) rfl (pgd_cons (i := 5) (pgd_nm (i := 5) sc_steady_row_in.nd) (pgd_cons (i := 6) (pgd_nm (i := 6) sc_steady_row_in.nd) pgd_nil)))) (fun _ _ _ _ _ => ptsd_nil) (fun _ _ _ _ _ => (pd_sub (pdv 6) (pdv 5))))))) (pds_one (pds_ret (pd_callTy call_tuple_of ref_tuple T.b_tuple (by decide +kernel) (pda_cons (pdv 3) pda_nil))))))), ?_⟩)
  intro ds g Q h
  obtain ⟨a0, rfl, h⟩ := sp1_of h
  rw [show startD N_steady_row_in [a0] = [some a0, none, none, none, none, none, none] from rfl]
  obtain ⟨n, M, e1, n1, n8, hM, hl, hT, k⟩ := h
  subst e1
  have hml := dimN_le hM
  have hf : ∀ d, (kp M d).natAbs ≤ 2 ^ 24 := fun d => kp_abs 24 hl d
  walk_at "rr27"
  refine ⟨n, M, rfl, n1, n8, hM, hl, fun ks hk => ?_⟩
  walk_at "rr27"
  refine rd_zK (by show 0 ≤ 16777216; decide) ?_
  intro p hp
  walk_at "rr27"
  refine rd_zK (by show 2 ≤ 16777216; decide) ?_
  walk_at "rr27"
  refine ⟨n, M, rfl, n8, hM.mono (by decide), hl, hT.new hp (fun q z => by cases z), ?_⟩
  walk_at "rr27"
  rw [max0_dim]
  refine rd_rng1K (j := ((dimN n M : Nat) : Int)) ⟨by omega, by omega⟩ ?_
  rw [Int.toNat_natCast]
  refine rd_zK (by rw [rangeD_len]; omega) (comp_map (f := onI fun d => .int (sv n (kp M) d)) (fun d hd => ?_) ?_)
  · obtain ⟨i, hi⟩ := List.mem_iff_getElem?.mp hd
    obtain ⟨hil, e5⟩ := rangeD_at hi
    subst e5
    refine ⟨_, rfl, fun Q2 h2 => ?_⟩
    walk_at "rr27"
    exact ⟨n, ks, kp M, i, rfl, rfl, rfl, n1, n8, hk.rep, hf, by omega, by omega, h2⟩
  rw [onI_range, sv_range]
  walk_at "rr27"
  refine rd_while (I := fun kk δ g' => ∃ (t : Nat) (v4 v5 v6 : Option DV), kk + t = dimN n M + 1 ∧ t ≤ dimN n M ∧ δ = [some (lotD c_Lot n M), some (.lst ((dwL t (sv n (kp M)) 0 (dimN n M - t)).map DV.int)), some (fnV ks (kp M)), some (.ref p), v4, v5, v6] ∧ g' = gup g p (.lst ((rowL (sv n (kp M)) 0 t).map DV.int))) (dimN n M + 1) ?_ ?_ ?_
  · exact ⟨0, _, _, _, rfl, Nat.zero_le _, rfl, rfl⟩
  · rintro δ g' ⟨t, _, _, _, h1, h2, _⟩
    omega
  · intro kk δ g' f hfl hI
    obtain ⟨t, v4, v5, v6, h1, h2, e, eg⟩ := hI
    subst e eg
    walk_at "rr27"
    refine rd_zK (by show 0 ≤ 16777216; decide) ?_
    refine rd_ne (okD_lI _) (okD_lI []) ?_
    rw [dwL_nilE]
    rw [show (!decide (dimN n M - t = 0)) = decide (dimN n M - t ≠ 0) from decide_not.symm]
    refine rd_itei (c := dimN n M - t ≠ 0) (fun c => ?_) (fun c => ?_)
    · walk_at "rr27"
      (with_reducible apply rd_ix)
      · rfl
      · exact atI_dwL (by omega)
      walk_at "rr27"
      refine rd_append gup_same (by rw [List.length_map, rowL_len]; omega) ?_
      rw [gup_gup, rowL_D]
      walk_at "rr27"
      rw [cutD_dr1]
      walk_at "rr27"
      refine rd_zipL13 ?_
      refine rd_zK (by have := dwL_len t (sv n (kp M)) 0 (dimN n M - t); rw [zipD_len, List.length_map]; omega) (comp_map (f := dfD) (fun d hd => ?_) ?_)
      · rw [← List.map_drop] at hd
        obtain ⟨x, y, e⟩ := zipI_mem hd
        subst e
        refine ⟨_, rfl, fun Q2 h3 => ?_⟩
        walk_at "rr27"
        exact h3
      rw [dwL_step]
      walk_at "rr27"
      exact hfl _ _ ⟨t + 1, _, _, _, by omega, by omega, by rw [show dimN n M - (t + 1) = dimN n M - t - 1 by omega]; rfl, rfl⟩
    · have et : t = dimN n M := by omega
      subst et
      rw [rowI_L] at k
      walk_at "rr27"
      exact ⟨g, gup_subK hp, k⟩

abbrev s_steady_degree_in : Stmt := topS 64
abbrev N_steady_degree_in : List Str := ["lot", "found", "told", "letters"]
theorem sc_steady_degree_in : FnScope N_steady_degree_in ["lot"] (defScope s_steady_degree_in) := ⟨rfl, rfl, rfl, by decide +kernel, rfl, by decide +kernel, by decide +kernel⟩
abbrev sp_steady_degree_in (c_KeptMembers c_Lot tb_free_set_in : Addr) : SpD :=
  sp1 fun a g P => ∃ (n : Nat) (M : List (List Int)), a = lotD c_Lot n M ∧ 1 ≤ n ∧ n ≤ 8 ∧ Prods n 4 M ∧ M.length ≤ 24 ∧ ∀ s : Nat, IsSt n (kp M) s → P (.int (s : Int)) g

local macro_rules | `(tactic| walk_at "rr28") => `(tactic| (repeat (first | (with_reducible first | refine rd_seq ?_ | refine rd_seqE ?_ | refine rd_next ?_ | refine rd_rtE ?_ | refine rd_nxE ?_ | refine rd_nx ?_ | refine rd_rt ?_ | refine rd_ct ?_ | refine rd_bk ?_ | refine rd_drop ?_ | refine rd_ret ?_ | refine rd_asg ?_ | refine rd_par ?_ | refine rd_c ?_ | refine rd_op ?_ | refine rd_b ?_ | refine rd_bK ?_ | refine rd_and ?_ | refine rd_nil ?_ | refine rd_cons ?_ | refine rd_cb ?_ | refine rd_call ?_ | refine rd_sp1 ?_ | refine rd_sp2 ?_ | refine rd_sp3 ?_ | refine rd_ii ?_ | refine rd_add ?_ | refine rd_sub ?_ | refine rd_addI ?_ | refine rd_cmp ?_ | refine rd_fld ?_ | refine rd_maxD ?_ | refine rd_maxDI ?_ | refine rd_itet ?_ | refine rd_itef ?_ | refine rd_itnt ?_ | refine rd_itnf ?_) | ((with_reducible apply rd_flI); (· exact rfl)) | ((with_reducible apply rd_flR); (· (first | assumption | exact gup_same)); (· exact rfl)) | ((with_reducible apply rd_var); (· exact rfl)) | ((with_reducible apply rd_asgK); (· exact rfl)) | ((with_reducible apply rd_parK); (· exact rfl)))))
theorem ok_steady_degree_in {P : Program} {w : World} {K : Fg} {mg : Str → Option Value} {base : Heap} {t_MAX_EXPONENT t_MAX_LETTERS t_MAX_MEMBERS t_MAX_MEMBER_EXPONENT t_MAX_PASSED t_MOST_COUNTED t_MOST_FAR : Tok} {c_KeptMembers c_Lot tb_free_set_in : Addr} {f f_left_count f_steady_value f_numerator_in : Addr} {fd d_left_count d_steady_value d_numerator_in : FuncData} (D : Dfn K mg "steady_degree_in" s_steady_degree_in ["lot"] f fd) (T : Txt P K mg t_MAX_EXPONENT t_MAX_LETTERS t_MAX_MEMBERS t_MAX_MEMBER_EXPONENT t_MAX_PASSED t_MOST_COUNTED t_MOST_FAR c_KeptMembers c_Lot tb_free_set_in) (D_left_count : Dfn K mg "left_count" s_left_count ["letters", "numerator_told", "degree"] f_left_count d_left_count) (G_left_count : FnOk P w K mg base CX0 1 f_left_count d_left_count ["letters", "numerator_told", "degree"] (upSp K (sp_left_count c_KeptMembers c_Lot tb_free_set_in))) (D_steady_value : Dfn K mg "steady_value" s_steady_value ["letters", "numerator_told", "degree"] f_steady_value d_steady_value) (G_steady_value : FnOk P w K mg base CX0 2 f_steady_value d_steady_value ["letters", "numerator_told", "degree"] (upSp K (sp_steady_value c_KeptMembers c_Lot tb_free_set_in))) (D_numerator_in : Dfn K mg "numerator_in" s_numerator_in ["lot"] f_numerator_in d_numerator_in) (G_numerator_in : FnOk P w K mg base CX0 70 f_numerator_in d_numerator_in ["lot"] (upSp K (sp_numerator_in c_KeptMembers c_Lot tb_free_set_in))) :
    FnOk P w K mg base CX0 71 f fd ["lot"] (upSp K (sp_steady_degree_in c_KeptMembers c_Lot tb_free_set_in)) := by
  refine fun_okD D.fn sc_steady_degree_in (fun ds g Q h => len1 h) (fun cdv A outer s H E hr => ⟨_, (pds_cons (pds_par (i := 2) (j := 3) rfl sc_steady_degree_in.nd (pda_cons (pd_call G_numerator_in (hr.mono (by decide)) D_numerator_in.at_ D_numerator_in.fn.kp D_numerator_in.bd pass0 (pda_cons (pdv 0) pda_nil)) (pda_cons (pd_fld T.F_Lot.sc T.s_Lot_own_letters.choose_spec (pdv 0)) pda_nil))) (pds_cons (pds_set (i := 1) sc_steady_degree_in.nd (pd_callB (call_max2 rfl) ref_II T.b_max (by decide +kernel) (pda_cons pd_int (pda_cons (pd_add (pd_sub (pd_maxDI T.b_max hr.units rfl (pdv 2) pd_int) (pdv 3)) pd_int) pda_nil)))) (pds_cons (pds_while PassesOwn.never (pwd_pt (pwd_and (pt_cmpD op_gt (RefCmp.op ref_cmp) (pdv 1) pd_int (nomark _)) (pwd_and1 (pt_cmpD (op_eqD hr.units) (RefCmp.op ref_eq) (pd_call G_left_count (hr.mono (by decide)) D_left_count.at_ D_left_count.fn.kp D_left_count.bd pass0 (pda_cons (pdv 3) (pda_cons (pdv 2) (pda_cons (pd_sub (pdv 1) pd_int) pda_nil)))) (pd_call G_steady_value (hr.mono (by decide)) D_steady_value.at_ D_steady_value.fn.kp D_steady_value.bd pass0 (pda_cons (pdv 3) (pda_cons (pdv 2) (pda_cons (pd_sub (pdv 1) pd_int) pda_nil)))) (nomark _))))) (pds_one (pds_aug (i := 1) sc_steady_degree_in.nd iop_subC ref_rI pd_int))) (pds_one (pds_ret (pdv 1)))))), ?_⟩)
  intro ds g Q h
  obtain ⟨a0, rfl, h⟩ := sp1_of h
  rw [show startD N_steady_degree_in [a0] = [some a0, none, none, none] from rfl]
  obtain ⟨n, M, e1, n1, n8, hM, hl, k⟩ := h
  subst e1
  have hf : ∀ d, (kp M d).natAbs ≤ 2 ^ 24 := fun d => kp_abs 24 hl d
  walk_at "rr28"
  refine ⟨n, M, rfl, n1, n8, hM, hl, fun ks hk => ?_⟩
  walk_at "rr28"
  refine ⟨_, _, ks, 0, rfl, rfl, rfl, fun mx hm1 hm2 => ?_⟩
  have hmx : mx ≤ 40 := hm2.elim (fun z => (hk.bd mx z).2) (fun z => by omega)
  have hout : ∀ d, mx < d → kp M d = 0 := fun d hd => hk.rep.out d fun z => by have := hm1 d z; omega
  walk_at "rr28"
  have hge : ∀ d : Nat, (if mx - (n : Int) + 1 > 0 then mx - (n : Int) + 1 else 0).toNat ≤ d → lc (cn n) (kp M) d = sv n (kp M) d := fun d hd => lc_sv n1 hout (by omega) (by revert hd; split <;> omega)
  obtain ⟨D0, hD⟩ : ∃ D0 : Nat, (if mx - (n : Int) + 1 > 0 then mx - (n : Int) + 1 else 0) = (D0 : Int) := ⟨_, (Int.toNat_of_nonneg (by split <;> omega)).symm⟩
  have hD0 : D0 ≤ 40 := by revert hD; split <;> omega
  rw [hD] at hge ⊢
  rw [Int.toNat_natCast] at hge
  refine rd_while (I := fun kk δ g' => ∃ t : Nat, kk = t + 1 ∧ t ≤ D0 ∧ g' = g ∧ δ = [some (lotD c_Lot n M), some (.int (t : Int)), some (fnV ks (kp M)), some (.int (n : Int))] ∧ ∀ d : Nat, t ≤ d → lc (cn n) (kp M) d = sv n (kp M) d) (D0 + 1) ?_ ?_ ?_
  · exact ⟨D0, rfl, Nat.le_refl _, rfl, rfl, hge⟩
  · rintro δ g' ⟨t, h1, _⟩
    omega
  · intro kk δ g' f hfl hI
    obtain ⟨t, h1, ht, eg, e, hgt⟩ := hI
    subst eg e
    walk_at "rr28"
    refine rd_itei (c := (0 : Int) < (t : Int)) (fun c => ?_) (fun c => ?_)
    · walk_at "rr28"
      refine ⟨n, ks, kp M, (t : Int) - 1, rfl, rfl, rfl, n1, n8, hk.rep, hf, by omega, by omega, ?_⟩
      walk_at "rr28"
      refine ⟨n, ks, kp M, (t : Int) - 1, rfl, rfl, rfl, n1, n8, hk.rep, hf, by omega, by omega, ?_⟩
      walk_at "rr28"
      refine rd_eq (okD_int _) (okD_int _) ?_
      rw [eqD_int]
      refine rd_itei (c := lc (cn n) (kp M) ((t : Int) - 1) = sv n (kp M) ((t : Int) - 1)) (fun c2 => ?_) (fun c2 => ?_)
      · walk_at "rr28"
        refine hfl _ _ ⟨t - 1, by omega, by omega, rfl, by rw [show ((t - 1 : Nat) : Int) = (t : Int) - 1 by omega]; rfl, fun d hd => ?_⟩
        by_cases z : t ≤ d
        · exact hgt d z
        · rw [show (d : Int) = (t : Int) - 1 by omega]; exact c2
      · walk_at "rr28"
        exact dret (k t ⟨hgt, fun _ => c2⟩)
    · walk_at "rr28"
      exact dret (k t ⟨hgt, fun z => absurd z (by omega)⟩)

abbrev s_weight_in : Stmt := topS 65
abbrev N_weight_in : List Str := ["lot", "size", "told", "degree"]
theorem sc_weight_in : FnScope N_weight_in ["lot"] (defScope s_weight_in) := ⟨rfl, rfl, rfl, by decide +kernel, rfl, by decide +kernel, by decide +kernel⟩
abbrev sp_weight_in (c_KeptMembers c_Lot tb_free_set_in : Addr) : SpD :=
  sp1 fun a g P => ∃ (n : Nat) (M : List (List Int)), a = lotD c_Lot n M ∧ 1 ≤ n ∧ n ≤ 8 ∧ Prods n 4 M ∧ M.length ≤ 24 ∧ TbG (TT tb_free_set_in) g ∧ P (.int (wI n M)) g

local macro_rules | `(tactic| walk_at "rr29") => `(tactic| (repeat (first | (with_reducible first | refine rd_seq ?_ | refine rd_seqE ?_ | refine rd_next ?_ | refine rd_rtE ?_ | refine rd_nxE ?_ | refine rd_nx ?_ | refine rd_rt ?_ | refine rd_drop ?_ | refine rd_ret ?_ | refine rd_dif ?_ | refine rd_asg ?_ | refine rd_c ?_ | refine rd_op ?_ | refine rd_un ?_ | refine rd_b ?_ | refine rd_bK ?_ | refine rd_nil ?_ | refine rd_cons ?_ | refine rd_cb ?_ | refine rd_call ?_ | refine rd_sp1 ?_ | refine rd_sp2 ?_ | refine rd_sp3 ?_ | refine rd_cmp ?_ | refine rd_lc ?_ | refine rd_yes ?_ | refine rd_rng1 ?_ | refine rd_ng ?_ | refine rd_fld ?_ | refine rd_itet ?_ | refine rd_itef ?_ | refine rd_itnt ?_ | refine rd_itnf ?_) | ((with_reducible apply rd_flI); (· exact rfl)) | ((with_reducible apply rd_flR); (· (first | assumption | exact gup_same)); (· exact rfl)) | ((with_reducible apply rd_var); (· exact rfl)) | ((with_reducible apply rd_asgK); (· exact rfl)) | ((with_reducible apply rd_ix); (· (first | assumption | exact seqD_ref (by assumption) | exact seqD_up | exact lstD_ref (by assumption) | exact lstD_up | rfl)); (· (first | exact atI_c0 _ _ | exact atI_c1 _ _ _ | exact atI_c2 _ _ _ _ | assumption | rfl))))))
theorem ok_weight_in {P : Program} {w : World} {K : Fg} {mg : Str → Option Value} {base : Heap} {t_MAX_EXPONENT t_MAX_LETTERS t_MAX_MEMBERS t_MAX_MEMBER_EXPONENT t_MAX_PASSED t_MOST_COUNTED t_MOST_FAR : Tok} {c_KeptMembers c_Lot tb_free_set_in : Addr} {f cc_weight_in f_steady_degree_in f_left_count f_numerator_in f_steady_row_in cc_steady_row_in f_dimension_in cc_dimension_in : Addr} {fd d_steady_degree_in d_left_count d_numerator_in d_steady_row_in d_dimension_in : FuncData} (D : DfnC K mg "weight_in" s_weight_in ["lot"] f fd cc_weight_in) (T : Txt P K mg t_MAX_EXPONENT t_MAX_LETTERS t_MAX_MEMBERS t_MAX_MEMBER_EXPONENT t_MAX_PASSED t_MOST_COUNTED t_MOST_FAR c_KeptMembers c_Lot tb_free_set_in) (D_steady_degree_in : Dfn K mg "steady_degree_in" s_steady_degree_in ["lot"] f_steady_degree_in d_steady_degree_in) (G_steady_degree_in : FnOk P w K mg base CX0 71 f_steady_degree_in d_steady_degree_in ["lot"] (upSp K (sp_steady_degree_in c_KeptMembers c_Lot tb_free_set_in))) (D_left_count : Dfn K mg "left_count" s_left_count ["letters", "numerator_told", "degree"] f_left_count d_left_count) (G_left_count : FnOk P w K mg base CX0 1 f_left_count d_left_count ["letters", "numerator_told", "degree"] (upSp K (sp_left_count c_KeptMembers c_Lot tb_free_set_in))) (D_numerator_in : Dfn K mg "numerator_in" s_numerator_in ["lot"] f_numerator_in d_numerator_in) (G_numerator_in : FnOk P w K mg base CX0 70 f_numerator_in d_numerator_in ["lot"] (upSp K (sp_numerator_in c_KeptMembers c_Lot tb_free_set_in))) (D_steady_row_in : DfnC K mg "steady_row_in" s_steady_row_in ["lot"] f_steady_row_in d_steady_row_in cc_steady_row_in) (G_steady_row_in : FnG P w K mg base 71 f_steady_row_in d_steady_row_in ["lot"] (upSp K (sp_steady_row_in c_KeptMembers c_Lot tb_free_set_in))) (D_dimension_in : DfnC K mg "dimension_in" s_dimension_in ["lot"] f_dimension_in d_dimension_in cc_dimension_in) (G_dimension_in : FnG P w K mg base 5 f_dimension_in d_dimension_in ["lot"] (upSp K (sp_dimension_in c_KeptMembers c_Lot tb_free_set_in))) :
    FnG P w K mg base 72 f fd ["lot"] (upSp K (sp_weight_in c_KeptMembers c_Lot tb_free_set_in)) := by
  refine fun_okG D.fn sc_weight_in (fun ds g Q h => len1 h) (fun A outer s H E hr hgd => ⟨_, (pds_cons (pds_set (i := 1) sc_weight_in.nd (pd_callG G_dimension_in (hr.mono (by decide)) hgd D_dimension_in.at_ D_dimension_in.fn.kp D_dimension_in.bd (pda_cons (pdv 0) pda_nil))) (pds_cons (pds_if (pt_cmpD op_gt (RefCmp.op ref_cmp) (pdv 1) pd_int (nomark _)) (pds_one (pds_ret (pd_ix (pd_callG G_steady_row_in (hr.mono (by decide)) hgd D_steady_row_in.at_ D_steady_row_in.fn.kp D_steady_row_in.bd (pda_cons (pdv 0) pda_nil)) (pd_neg pd_int)))) pds_nil) (pds_cons (pds_set (i := 2) sc_weight_in.nd (pd_call G_numerator_in (hr.mono (by decide)) D_numerator_in.at_ D_numerator_in.fn.kp D_numerator_in.bd pass0 (pda_cons (pdv 0) pda_nil))) (pds_one (pds_ret (pd_callB (cr_sum rfl) ref_sum T.b_sum (by decide +kernel) (pda_cons (pd_lc (own := [("degree", 3)]) (tg := .nm 3) rfl sc_weight_in.nd (pid_range1 T.b_range (pda_cons (pd_call G_steady_degree_in (hr.mono (by decide)) D_steady_degree_in.at_ D_steady_degree_in.fn.kp D_steady_degree_in.bd pass0 (pda_cons (pdv 0) pda_nil)) pda_nil)) (blkOk_by (own := [("degree", 3)]) (N := N_weight_in) (sc := defScope s_weight_in) (by decide +kernel)) (fun _ _ _ _ _ => (pgd_nm (i := 3) sc_weight_in.nd)) (fun _ _ _ _ _ => ptsd_nil) (fun _ _ _ _ _ => (pd_call G_left_count (hr.mono (by decide)) D_left_count.at_ D_left_count.fn.kp D_left_count.bd pass0 (pda_cons (pd_fld T.F_Lot.sc T.s_Lot_own_letters.choose_spec (pdv 0)) (pda_cons (pdv 2) (pda_cons (pdv 3) pda_nil)))))) pda_nil))))))), ?_⟩)
  intro ds g Q h
  obtain ⟨a0, rfl, h⟩ := sp1_of h
  rw [show startD N_weight_in [a0] = [some a0, none, none, none] from rfl]
  obtain ⟨n, M, e1, n1, n8, hM, hl, hT, k⟩ := h
  subst e1
  walk_at "rr29"
  refine ⟨n, M, rfl, n8, hM.mono (by decide), hl, hT, ?_⟩
  walk_at "rr29"
  refine rd_itei (c := 0 < dimI n M) (fun c => ?_) (fun c => ?_)
  · walk_at "rr29"
    refine ⟨n, M, rfl, n1, n8, hM, hl, hT, ?_⟩
    walk_at "rr29"
    (with_reducible apply rd_ix)
    · rfl
    · exact atI_rowI c
    walk_at "rr29"
    exact dret k
  · walk_at "rr29"
    refine ⟨n, M, rfl, n1, n8, hM, hl, fun ks hks => ?_⟩
    walk_at "rr29"
    refine ⟨n, M, rfl, n1, n8, hM, hl, fun s hs => ?_⟩
    walk_at "rr29"
    have hf40 : ∀ i, (40 : Int) < i → kp M i = 0 := fun i hi => hks.rep.out i fun z => by have := (hks.bd i z).2; omega
    have hsl := hs.le n1 hf40 (by decide)
    refine rd_rng1K (j := (s : Int)) ⟨by omega, by omega⟩ ?_
    rw [Int.toNat_natCast]
    refine rd_zK (by rw [rangeD_len]; omega) (comp_map (f := onI fun d => .int (lc (cn n) (kp M) d)) (fun d hd => ?_) ?_)
    · obtain ⟨i, hi⟩ := List.mem_iff_getElem?.mp hd
      obtain ⟨hil, e5⟩ := rangeD_at hi
      subst e5
      refine ⟨_, rfl, fun Q2 h2 => ?_⟩
      walk_at "rr29"
      exact ⟨n, ks, kp M, i, rfl, rfl, rfl, n1, n8, hks.rep, fun d => kp_abs 24 hl d, by omega, by omega, h2⟩
    rw [onI_range, lc_range]
    walk_at "rr29"
    refine rd_sum rfl (intsD_map _) ?_
    rw [sum_range (fun d => lc (cn n) (kp M) d), wI_st hM n1 hf40 c hs]
    exact dret k

abbrev s_numerator : Stmt := topS 66
abbrev N_numerator : List Str := ["lot"]
theorem sc_numerator : FnScope N_numerator ["lot"] (defScope s_numerator) := ⟨rfl, rfl, rfl, by decide +kernel, rfl, by decide +kernel, by decide +kernel⟩
abbrev sp_numerator (c_KeptMembers c_Lot tb_free_set_in : Addr) : SpD :=
  sp1 fun a g P => ∃ (n : Nat) (M : List (List Int)), a = lotD c_Lot n M ∧ 1 ≤ n ∧ n ≤ 8 ∧ Prods n 4 M ∧ M.length ≤ 24 ∧ ∀ ks, RepC ks (kp M) 40 → P (fnV ks (kp M)) g

local macro_rules | `(tactic| walk_at "rr30") => `(tactic| (repeat (first | (with_reducible first | refine rd_seq ?_ | refine rd_seqE ?_ | refine rd_next ?_ | refine rd_rtE ?_ | refine rd_nxE ?_ | refine rd_nx ?_ | refine rd_rt ?_ | refine rd_drop ?_ | refine rd_ret ?_ | refine rd_c ?_ | refine rd_op ?_ | refine rd_b ?_ | refine rd_bK ?_ | refine rd_nil ?_ | refine rd_cons ?_ | refine rd_cb ?_ | refine rd_call ?_ | refine rd_sp1 ?_ | refine rd_sp2 ?_ | refine rd_sp3 ?_ | refine rd_itet ?_ | refine rd_itef ?_ | refine rd_itnt ?_ | refine rd_itnf ?_) | ((with_reducible apply rd_var); (· exact rfl)))))
theorem ok_numerator {P : Program} {w : World} {K : Fg} {mg : Str → Option Value} {base : Heap} {t_MAX_EXPONENT t_MAX_LETTERS t_MAX_MEMBERS t_MAX_MEMBER_EXPONENT t_MAX_PASSED t_MOST_COUNTED t_MOST_FAR : Tok} {c_KeptMembers c_Lot tb_free_set_in : Addr} {f f_numerator_in f_require_lot : Addr} {fd d_numerator_in d_require_lot : FuncData} (D : Dfn K mg "numerator" s_numerator ["lot"] f fd) (T : Txt P K mg t_MAX_EXPONENT t_MAX_LETTERS t_MAX_MEMBERS t_MAX_MEMBER_EXPONENT t_MAX_PASSED t_MOST_COUNTED t_MOST_FAR c_KeptMembers c_Lot tb_free_set_in) (D_numerator_in : Dfn K mg "numerator_in" s_numerator_in ["lot"] f_numerator_in d_numerator_in) (G_numerator_in : FnOk P w K mg base CX0 70 f_numerator_in d_numerator_in ["lot"] (upSp K (sp_numerator_in c_KeptMembers c_Lot tb_free_set_in))) (D_require_lot : Dfn K mg "require_lot" s_require_lot ["value"] f_require_lot d_require_lot) (G_require_lot : FnOk P w K mg base CX0 1 f_require_lot d_require_lot ["value"] (upSp K (sp_require_lot c_KeptMembers c_Lot tb_free_set_in))) :
    FnOk P w K mg base CX0 71 f fd ["lot"] (upSp K (sp_numerator c_KeptMembers c_Lot tb_free_set_in)) := by
  refine fun_okD D.fn sc_numerator (fun ds g Q h => len1 h) (fun cdv A outer s H E hr => ⟨_, (pds_cons (pds_expr (pd_call G_require_lot (hr.mono (by decide)) D_require_lot.at_ D_require_lot.fn.kp D_require_lot.bd pass0 (pda_cons (pdv 0) pda_nil))) (pds_one (pds_ret (pd_call G_numerator_in (hr.mono (by decide)) D_numerator_in.at_ D_numerator_in.fn.kp D_numerator_in.bd pass0 (pda_cons (pdv 0) pda_nil))))), ?_⟩)
  intro ds g Q h
  obtain ⟨a0, rfl, h⟩ := sp1_of h
  rw [show startD N_numerator [a0] = [some a0] from rfl]
  obtain ⟨n, M, e1, n1, n8, hM, hl, k⟩ := h
  subst e1
  walk_at "rr30"
  refine ⟨n, M, rfl, ?_⟩
  walk_at "rr30"
  exact ⟨n, M, rfl, n1, n8, hM, hl, fun ks hk => dret (k ks hk)⟩

abbrev s_left_counts : Stmt := topS 67
abbrev N_left_counts : List Str := ["lot", "last", "told", "degree"]
theorem sc_left_counts : FnScope N_left_counts ["lot", "last"] (defScope s_left_counts) := ⟨rfl, rfl, rfl, by decide +kernel, rfl, by decide +kernel, by decide +kernel⟩
abbrev sp_left_counts (c_KeptMembers c_Lot tb_free_set_in : Addr) : SpD :=
  sp2 fun a b g P => ∃ (n : Nat) (M : List (List Int)) (j : Nat), a = lotD c_Lot n M ∧ b = .int (j : Int) ∧ j ≤ 40 ∧ 1 ≤ n ∧ n ≤ 8 ∧ Prods n 4 M ∧ M.length ≤ 24 ∧ P (.tup ((List.range (j + 1)).map fun (d : Nat) => DV.int (lc (cn n) (kp M) d))) g

local macro_rules | `(tactic| walk_at "rr31") => `(tactic| (repeat (first | (with_reducible first | refine rd_seq ?_ | refine rd_seqE ?_ | refine rd_next ?_ | refine rd_rtE ?_ | refine rd_nxE ?_ | refine rd_nx ?_ | refine rd_rt ?_ | refine rd_drop ?_ | refine rd_ret ?_ | refine rd_asg ?_ | refine rd_c ?_ | refine rd_op ?_ | refine rd_b ?_ | refine rd_bK ?_ | refine rd_nil ?_ | refine rd_cons ?_ | refine rd_cb ?_ | refine rd_call ?_ | refine rd_sp1 ?_ | refine rd_sp2 ?_ | refine rd_sp3 ?_ | refine rd_add ?_ | refine rd_lc ?_ | refine rd_yes ?_ | refine rd_rng1 ?_ | refine rd_fld ?_ | refine rd_itet ?_ | refine rd_itef ?_ | refine rd_itnt ?_ | refine rd_itnf ?_) | ((with_reducible apply rd_flI); (· exact rfl)) | ((with_reducible apply rd_flR); (· (first | assumption | exact gup_same)); (· exact rfl)) | ((with_reducible apply rd_var); (· exact rfl)) | ((with_reducible apply rd_asgK); (· exact rfl)) | ((with_reducible apply rd_tuple); (· (first | assumption | exact seqD_ref (by assumption) | exact seqD_up | exact lstD_ref (by assumption) | exact lstD_up | rfl))))))
theorem ok_left_counts {P : Program} {w : World} {K : Fg} {mg : Str → Option Value} {base : Heap} {t_MAX_EXPONENT t_MAX_LETTERS t_MAX_MEMBERS t_MAX_MEMBER_EXPONENT t_MAX_PASSED t_MOST_COUNTED t_MOST_FAR : Tok} {c_KeptMembers c_Lot tb_free_set_in : Addr} {f f_left_count f_numerator_in f_require_within f_require_lot : Addr} {fd d_left_count d_numerator_in d_require_within d_require_lot : FuncData} (D : Dfn K mg "left_counts" s_left_counts ["lot", "last"] f fd) (T : Txt P K mg t_MAX_EXPONENT t_MAX_LETTERS t_MAX_MEMBERS t_MAX_MEMBER_EXPONENT t_MAX_PASSED t_MOST_COUNTED t_MOST_FAR c_KeptMembers c_Lot tb_free_set_in) (D_left_count : Dfn K mg "left_count" s_left_count ["letters", "numerator_told", "degree"] f_left_count d_left_count) (G_left_count : FnOk P w K mg base CX0 1 f_left_count d_left_count ["letters", "numerator_told", "degree"] (upSp K (sp_left_count c_KeptMembers c_Lot tb_free_set_in))) (D_numerator_in : Dfn K mg "numerator_in" s_numerator_in ["lot"] f_numerator_in d_numerator_in) (G_numerator_in : FnOk P w K mg base CX0 70 f_numerator_in d_numerator_in ["lot"] (upSp K (sp_numerator_in c_KeptMembers c_Lot tb_free_set_in))) (D_require_within : Dfn K mg "require_within" s_require_within ["value", "least", "greatest"] f_require_within d_require_within) (G_require_within : FnOk P w K mg base CX0 3 f_require_within d_require_within ["value", "least", "greatest"] (upSp K (sp_require_within c_KeptMembers c_Lot tb_free_set_in))) (D_require_lot : Dfn K mg "require_lot" s_require_lot ["value"] f_require_lot d_require_lot) (G_require_lot : FnOk P w K mg base CX0 1 f_require_lot d_require_lot ["value"] (upSp K (sp_require_lot c_KeptMembers c_Lot tb_free_set_in))) :
    FnOk P w K mg base CX0 71 f fd ["lot", "last"] (upSp K (sp_left_counts c_KeptMembers c_Lot tb_free_set_in)) := by
  refine fun_okD D.fn sc_left_counts (fun ds g Q h => len2 h) (fun cdv A outer s H E hr => ⟨_, (pds_cons (pds_expr (pd_call G_require_lot (hr.mono (by decide)) D_require_lot.at_ D_require_lot.fn.kp D_require_lot.bd pass0 (pda_cons (pdv 0) pda_nil))) (pds_cons (pds_expr (pd_call G_require_within (hr.mono (by decide)) D_require_within.at_ D_require_within.fn.kp D_require_within.bd pass0 (pda_cons (pdv 1) (pda_cons pd_int (pda_cons (pd_globI T.c_MOST_COUNTED) pda_nil))))) (pds_cons (pds_set (i := 2) sc_left_counts.nd (pd_call G_numerator_in (hr.mono (by decide)) D_numerator_in.at_ D_numerator_in.fn.kp D_numerator_in.bd pass0 (pda_cons (pdv 0) pda_nil))) (pds_one (pds_ret (pd_callTy call_tuple_of ref_tuple T.b_tuple (by decide +kernel) (pda_cons (pd_lc (own := [("degree", 3)]) (tg := .nm 3) rfl sc_left_counts.nd (pid_range1 T.b_range (pda_cons (pd_add (pdv 1) pd_int) pda_nil)) (blkOk_by (own := [("degree", 3)]) (N := N_left_counts) (sc := defScope s_left_counts) (by decide +kernel)) (fun _ _ _ _ _ => (pgd_nm (i := 3) sc_left_counts.nd)) (fun _ _ _ _ _ => ptsd_nil) (fun _ _ _ _ _ => (pd_call G_left_count (hr.mono (by decide)) D_left_count.at_ D_left_count.fn.kp D_left_count.bd pass0 (pda_cons (pd_fld T.F_Lot.sc T.s_Lot_own_letters.choose_spec (pdv 0)) (pda_cons (pdv 2) (pda_cons (pdv 3) pda_nil)))))) pda_nil))))))), ?_⟩)
  intro ds g Q h
  obtain ⟨a0, a1, rfl, h⟩ := sp2_of h
  rw [show startD N_left_counts [a0, a1] = [some a0, some a1, none, none] from rfl]
  obtain ⟨n, M, j, e1, e2, hj, n1, n8, hM, hl, k⟩ := h
  subst e1 e2
  walk_at "rr31"
  refine ⟨n, M, rfl, ?_⟩
  walk_at "rr31"
  refine ⟨j, 0, 40, rfl, rfl, rfl, by omega, by omega, ?_⟩
  walk_at "rr31"
  refine ⟨n, M, rfl, n1, n8, hM, hl, fun ks hk => ?_⟩
  walk_at "rr31"
  refine rd_rng1K (j := (j : Int) + 1) ⟨by omega, by omega⟩ ?_
  rw [show ((j : Int) + 1).toNat = j + 1 by omega]
  refine rd_zK (by rw [rangeD_len]; omega) (comp_map (f := cntD n M) (fun d hd => ?_) ?_)
  · obtain ⟨i, hi⟩ := List.mem_iff_getElem?.mp hd
    obtain ⟨hil, e5⟩ := rangeD_at hi
    subst e5
    refine ⟨_, rfl, fun Q2 h2 => ?_⟩
    walk_at "rr31"
    exact ⟨n, ks, kp M, i, rfl, rfl, rfl, n1, n8, hk.rep, fun d => kp_abs 24 hl d, by omega, by omega, h2⟩
  rw [cnt_range]
  walk_at "rr31"
  exact dret k

abbrev s_count_at : Stmt := topS 68
abbrev N_count_at : List Str := ["lot", "degree"]
theorem sc_count_at : FnScope N_count_at ["lot", "degree"] (defScope s_count_at) := ⟨rfl, rfl, rfl, by decide +kernel, rfl, by decide +kernel, by decide +kernel⟩
abbrev sp_count_at (c_KeptMembers c_Lot tb_free_set_in : Addr) : SpD :=
  sp2 fun a b g P => ∃ (n : Nat) (M : List (List Int)) (D : Int), a = lotD c_Lot n M ∧ b = .int D ∧ 0 ≤ D ∧ D ≤ 1000000 ∧ 1 ≤ n ∧ n ≤ 8 ∧ Prods n 4 M ∧ M.length ≤ 24 ∧ P (.int (lc (cn n) (kp M) D)) g

local macro_rules | `(tactic| walk_at "rr32") => `(tactic| (repeat (first | (with_reducible first | refine rd_seq ?_ | refine rd_seqE ?_ | refine rd_next ?_ | refine rd_rtE ?_ | refine rd_nxE ?_ | refine rd_nx ?_ | refine rd_rt ?_ | refine rd_drop ?_ | refine rd_ret ?_ | refine rd_c ?_ | refine rd_op ?_ | refine rd_b ?_ | refine rd_bK ?_ | refine rd_nil ?_ | refine rd_cons ?_ | refine rd_cb ?_ | refine rd_call ?_ | refine rd_sp1 ?_ | refine rd_sp2 ?_ | refine rd_sp3 ?_ | refine rd_fld ?_ | refine rd_itet ?_ | refine rd_itef ?_ | refine rd_itnt ?_ | refine rd_itnf ?_) | ((with_reducible apply rd_flI); (· exact rfl)) | ((with_reducible apply rd_flR); (· (first | assumption | exact gup_same)); (· exact rfl)) | ((with_reducible apply rd_var); (· exact rfl)))))
theorem ok_count_at {P : Program} {w : World} {K : Fg} {mg : Str → Option Value} {base : Heap} {t_MAX_EXPONENT t_MAX_LETTERS t_MAX_MEMBERS t_MAX_MEMBER_EXPONENT t_MAX_PASSED t_MOST_COUNTED t_MOST_FAR : Tok} {c_KeptMembers c_Lot tb_free_set_in : Addr} {f f_left_count f_numerator_in f_require_within f_require_lot : Addr} {fd d_left_count d_numerator_in d_require_within d_require_lot : FuncData} (D : Dfn K mg "count_at" s_count_at ["lot", "degree"] f fd) (T : Txt P K mg t_MAX_EXPONENT t_MAX_LETTERS t_MAX_MEMBERS t_MAX_MEMBER_EXPONENT t_MAX_PASSED t_MOST_COUNTED t_MOST_FAR c_KeptMembers c_Lot tb_free_set_in) (D_left_count : Dfn K mg "left_count" s_left_count ["letters", "numerator_told", "degree"] f_left_count d_left_count) (G_left_count : FnOk P w K mg base CX0 1 f_left_count d_left_count ["letters", "numerator_told", "degree"] (upSp K (sp_left_count c_KeptMembers c_Lot tb_free_set_in))) (D_numerator_in : Dfn K mg "numerator_in" s_numerator_in ["lot"] f_numerator_in d_numerator_in) (G_numerator_in : FnOk P w K mg base CX0 70 f_numerator_in d_numerator_in ["lot"] (upSp K (sp_numerator_in c_KeptMembers c_Lot tb_free_set_in))) (D_require_within : Dfn K mg "require_within" s_require_within ["value", "least", "greatest"] f_require_within d_require_within) (G_require_within : FnOk P w K mg base CX0 3 f_require_within d_require_within ["value", "least", "greatest"] (upSp K (sp_require_within c_KeptMembers c_Lot tb_free_set_in))) (D_require_lot : Dfn K mg "require_lot" s_require_lot ["value"] f_require_lot d_require_lot) (G_require_lot : FnOk P w K mg base CX0 1 f_require_lot d_require_lot ["value"] (upSp K (sp_require_lot c_KeptMembers c_Lot tb_free_set_in))) :
    FnOk P w K mg base CX0 71 f fd ["lot", "degree"] (upSp K (sp_count_at c_KeptMembers c_Lot tb_free_set_in)) := by
  refine fun_okD D.fn sc_count_at (fun ds g Q h => len2 h) (fun cdv A outer s H E hr => ⟨_, (pds_cons (pds_expr (pd_call G_require_lot (hr.mono (by decide)) D_require_lot.at_ D_require_lot.fn.kp D_require_lot.bd pass0 (pda_cons (pdv 0) pda_nil))) (pds_cons (pds_expr (pd_call G_require_within (hr.mono (by decide)) D_require_within.at_ D_require_within.fn.kp D_require_within.bd pass0 (pda_cons (pdv 1) (pda_cons pd_int (pda_cons (pd_globI T.c_MOST_FAR) pda_nil))))) (pds_one (pds_ret (pd_call G_left_count (hr.mono (by decide)) D_left_count.at_ D_left_count.fn.kp D_left_count.bd pass0 (pda_cons (pd_fld T.F_Lot.sc T.s_Lot_own_letters.choose_spec (pdv 0)) (pda_cons (pd_call G_numerator_in (hr.mono (by decide)) D_numerator_in.at_ D_numerator_in.fn.kp D_numerator_in.bd pass0 (pda_cons (pdv 0) pda_nil)) (pda_cons (pdv 1) pda_nil)))))))), ?_⟩)
  intro ds g Q h
  obtain ⟨a0, a1, rfl, h⟩ := sp2_of h
  rw [show startD N_count_at [a0, a1] = [some a0, some a1] from rfl]
  obtain ⟨n, M, D, e1, e2, D0, Dm, n1, n8, hM, hl, k⟩ := h
  subst e1 e2
  walk_at "rr32"
  refine ⟨n, M, rfl, ?_⟩
  walk_at "rr32"
  refine ⟨D, 0, 1000000, rfl, rfl, rfl, by omega, by omega, ?_⟩
  walk_at "rr32"
  refine ⟨n, M, rfl, n1, n8, hM, hl, fun ks hk => ?_⟩
  walk_at "rr32"
  exact ⟨n, ks, kp M, D, rfl, rfl, rfl, n1, n8, hk.rep, fun d => kp_abs 24 hl d, by omega, by omega, dret k⟩

abbrev s_dimension : Stmt := topS 69
abbrev N_dimension : List Str := ["lot"]
theorem sc_dimension : FnScope N_dimension ["lot"] (defScope s_dimension) := ⟨rfl, rfl, rfl, by decide +kernel, rfl, by decide +kernel, by decide +kernel⟩
abbrev sp_dimension (c_KeptMembers c_Lot tb_free_set_in : Addr) : SpD :=
  sp1 fun a g P => ∃ (n : Nat) (M : List (List Int)), a = lotD c_Lot n M ∧ n ≤ 8 ∧ Prods n 60 M ∧ M.length ≤ 24 ∧ TbG (TT tb_free_set_in) g ∧ P (.int (dimI n M)) g

local macro_rules | `(tactic| walk_at "rr33") => `(tactic| (repeat (first | (with_reducible first | refine rd_seq ?_ | refine rd_seqE ?_ | refine rd_next ?_ | refine rd_rtE ?_ | refine rd_nxE ?_ | refine rd_nx ?_ | refine rd_rt ?_ | refine rd_drop ?_ | refine rd_ret ?_ | refine rd_c ?_ | refine rd_op ?_ | refine rd_b ?_ | refine rd_bK ?_ | refine rd_nil ?_ | refine rd_cons ?_ | refine rd_cb ?_ | refine rd_call ?_ | refine rd_sp1 ?_ | refine rd_sp2 ?_ | refine rd_sp3 ?_ | refine rd_itet ?_ | refine rd_itef ?_ | refine rd_itnt ?_ | refine rd_itnf ?_) | ((with_reducible apply rd_var); (· exact rfl)))))
theorem ok_dimension {P : Program} {w : World} {K : Fg} {mg : Str → Option Value} {base : Heap} {t_MAX_EXPONENT t_MAX_LETTERS t_MAX_MEMBERS t_MAX_MEMBER_EXPONENT t_MAX_PASSED t_MOST_COUNTED t_MOST_FAR : Tok} {c_KeptMembers c_Lot tb_free_set_in : Addr} {f cc_dimension f_dimension_in cc_dimension_in f_require_lot : Addr} {fd d_dimension_in d_require_lot : FuncData} (D : DfnC K mg "dimension" s_dimension ["lot"] f fd cc_dimension) (T : Txt P K mg t_MAX_EXPONENT t_MAX_LETTERS t_MAX_MEMBERS t_MAX_MEMBER_EXPONENT t_MAX_PASSED t_MOST_COUNTED t_MOST_FAR c_KeptMembers c_Lot tb_free_set_in) (D_dimension_in : DfnC K mg "dimension_in" s_dimension_in ["lot"] f_dimension_in d_dimension_in cc_dimension_in) (G_dimension_in : FnG P w K mg base 5 f_dimension_in d_dimension_in ["lot"] (upSp K (sp_dimension_in c_KeptMembers c_Lot tb_free_set_in))) (D_require_lot : Dfn K mg "require_lot" s_require_lot ["value"] f_require_lot d_require_lot) (G_require_lot : FnOk P w K mg base CX0 1 f_require_lot d_require_lot ["value"] (upSp K (sp_require_lot c_KeptMembers c_Lot tb_free_set_in))) :
    FnG P w K mg base 6 f fd ["lot"] (upSp K (sp_dimension c_KeptMembers c_Lot tb_free_set_in)) := by
  refine fun_okG D.fn sc_dimension (fun ds g Q h => len1 h) (fun A outer s H E hr hgd => ⟨_, (pds_cons (pds_expr (pd_call G_require_lot (hr.mono (by decide)) D_require_lot.at_ D_require_lot.fn.kp D_require_lot.bd pass0 (pda_cons (pdv 0) pda_nil))) (pds_one (pds_ret (pd_callG G_dimension_in (hr.mono (by decide)) hgd D_dimension_in.at_ D_dimension_in.fn.kp D_dimension_in.bd (pda_cons (pdv 0) pda_nil))))), ?_⟩)
  intro ds g Q h
  obtain ⟨a0, rfl, h⟩ := sp1_of h
  rw [show startD N_dimension [a0] = [some a0] from rfl]
  obtain ⟨n, M, e1, n8, hM, hl, hT, k⟩ := h
  subst e1
  walk_at "rr33"
  refine ⟨n, M, rfl, ?_⟩
  walk_at "rr33"
  exact ⟨n, M, rfl, n8, hM, hl, hT, dret k⟩

abbrev s_weight : Stmt := topS 70
abbrev N_weight : List Str := ["lot"]
theorem sc_weight : FnScope N_weight ["lot"] (defScope s_weight) := ⟨rfl, rfl, rfl, by decide +kernel, rfl, by decide +kernel, by decide +kernel⟩
abbrev sp_weight (c_KeptMembers c_Lot tb_free_set_in : Addr) : SpD :=
  sp1 fun a g P => ∃ (n : Nat) (M : List (List Int)), a = lotD c_Lot n M ∧ 1 ≤ n ∧ n ≤ 8 ∧ Prods n 4 M ∧ M.length ≤ 24 ∧ TbG (TT tb_free_set_in) g ∧ P (.int (wI n M)) g

local macro_rules | `(tactic| walk_at "rr34") => `(tactic| (repeat (first | (with_reducible first | refine rd_seq ?_ | refine rd_seqE ?_ | refine rd_next ?_ | refine rd_rtE ?_ | refine rd_nxE ?_ | refine rd_nx ?_ | refine rd_rt ?_ | refine rd_drop ?_ | refine rd_ret ?_ | refine rd_c ?_ | refine rd_op ?_ | refine rd_b ?_ | refine rd_bK ?_ | refine rd_nil ?_ | refine rd_cons ?_ | refine rd_cb ?_ | refine rd_call ?_ | refine rd_sp1 ?_ | refine rd_sp2 ?_ | refine rd_sp3 ?_ | refine rd_itet ?_ | refine rd_itef ?_ | refine rd_itnt ?_ | refine rd_itnf ?_) | ((with_reducible apply rd_var); (· exact rfl)))))
theorem ok_weight {P : Program} {w : World} {K : Fg} {mg : Str → Option Value} {base : Heap} {t_MAX_EXPONENT t_MAX_LETTERS t_MAX_MEMBERS t_MAX_MEMBER_EXPONENT t_MAX_PASSED t_MOST_COUNTED t_MOST_FAR : Tok} {c_KeptMembers c_Lot tb_free_set_in : Addr} {f cc_weight f_weight_in cc_weight_in f_require_lot : Addr} {fd d_weight_in d_require_lot : FuncData} (D : DfnC K mg "weight" s_weight ["lot"] f fd cc_weight) (T : Txt P K mg t_MAX_EXPONENT t_MAX_LETTERS t_MAX_MEMBERS t_MAX_MEMBER_EXPONENT t_MAX_PASSED t_MOST_COUNTED t_MOST_FAR c_KeptMembers c_Lot tb_free_set_in) (D_weight_in : DfnC K mg "weight_in" s_weight_in ["lot"] f_weight_in d_weight_in cc_weight_in) (G_weight_in : FnG P w K mg base 72 f_weight_in d_weight_in ["lot"] (upSp K (sp_weight_in c_KeptMembers c_Lot tb_free_set_in))) (D_require_lot : Dfn K mg "require_lot" s_require_lot ["value"] f_require_lot d_require_lot) (G_require_lot : FnOk P w K mg base CX0 1 f_require_lot d_require_lot ["value"] (upSp K (sp_require_lot c_KeptMembers c_Lot tb_free_set_in))) :
    FnG P w K mg base 73 f fd ["lot"] (upSp K (sp_weight c_KeptMembers c_Lot tb_free_set_in)) := by
  refine fun_okG D.fn sc_weight (fun ds g Q h => len1 h) (fun A outer s H E hr hgd => ⟨_, (pds_cons (pds_expr (pd_call G_require_lot (hr.mono (by decide)) D_require_lot.at_ D_require_lot.fn.kp D_require_lot.bd pass0 (pda_cons (pdv 0) pda_nil))) (pds_one (pds_ret (pd_callG G_weight_in (hr.mono (by decide)) hgd D_weight_in.at_ D_weight_in.fn.kp D_weight_in.bd (pda_cons (pdv 0) pda_nil))))), ?_⟩)
  intro ds g Q h
  obtain ⟨a0, rfl, h⟩ := sp1_of h
  rw [show startD N_weight [a0] = [some a0] from rfl]
  obtain ⟨n, M, e1, n1, n8, hM, hl, hT, k⟩ := h
  subst e1
  walk_at "rr34"
  refine ⟨n, M, rfl, ?_⟩
  walk_at "rr34"
  exact ⟨n, M, rfl, n1, n8, hM, hl, hT, dret k⟩

abbrev s_steady_row : Stmt := topS 71
abbrev N_steady_row : List Str := ["lot"]
theorem sc_steady_row : FnScope N_steady_row ["lot"] (defScope s_steady_row) := ⟨rfl, rfl, rfl, by decide +kernel, rfl, by decide +kernel, by decide +kernel⟩
abbrev sp_steady_row (c_KeptMembers c_Lot tb_free_set_in : Addr) : SpD :=
  sp1 fun a g P => ∃ (n : Nat) (M : List (List Int)), a = lotD c_Lot n M ∧ 1 ≤ n ∧ n ≤ 8 ∧ Prods n 4 M ∧ M.length ≤ 24 ∧ TbG (TT tb_free_set_in) g ∧ P (tI (rowI n M)) g

local macro_rules | `(tactic| walk_at "rr35") => `(tactic| (repeat (first | (with_reducible first | refine rd_seq ?_ | refine rd_seqE ?_ | refine rd_next ?_ | refine rd_rtE ?_ | refine rd_nxE ?_ | refine rd_nx ?_ | refine rd_rt ?_ | refine rd_drop ?_ | refine rd_ret ?_ | refine rd_c ?_ | refine rd_op ?_ | refine rd_b ?_ | refine rd_bK ?_ | refine rd_nil ?_ | refine rd_cons ?_ | refine rd_cb ?_ | refine rd_call ?_ | refine rd_sp1 ?_ | refine rd_sp2 ?_ | refine rd_sp3 ?_ | refine rd_itet ?_ | refine rd_itef ?_ | refine rd_itnt ?_ | refine rd_itnf ?_) | ((with_reducible apply rd_var); (· exact rfl)))))
theorem ok_steady_row {P : Program} {w : World} {K : Fg} {mg : Str → Option Value} {base : Heap} {t_MAX_EXPONENT t_MAX_LETTERS t_MAX_MEMBERS t_MAX_MEMBER_EXPONENT t_MAX_PASSED t_MOST_COUNTED t_MOST_FAR : Tok} {c_KeptMembers c_Lot tb_free_set_in : Addr} {f cc_steady_row f_steady_row_in cc_steady_row_in f_require_lot : Addr} {fd d_steady_row_in d_require_lot : FuncData} (D : DfnC K mg "steady_row" s_steady_row ["lot"] f fd cc_steady_row) (T : Txt P K mg t_MAX_EXPONENT t_MAX_LETTERS t_MAX_MEMBERS t_MAX_MEMBER_EXPONENT t_MAX_PASSED t_MOST_COUNTED t_MOST_FAR c_KeptMembers c_Lot tb_free_set_in) (D_steady_row_in : DfnC K mg "steady_row_in" s_steady_row_in ["lot"] f_steady_row_in d_steady_row_in cc_steady_row_in) (G_steady_row_in : FnG P w K mg base 71 f_steady_row_in d_steady_row_in ["lot"] (upSp K (sp_steady_row_in c_KeptMembers c_Lot tb_free_set_in))) (D_require_lot : Dfn K mg "require_lot" s_require_lot ["value"] f_require_lot d_require_lot) (G_require_lot : FnOk P w K mg base CX0 1 f_require_lot d_require_lot ["value"] (upSp K (sp_require_lot c_KeptMembers c_Lot tb_free_set_in))) :
    FnG P w K mg base 72 f fd ["lot"] (upSp K (sp_steady_row c_KeptMembers c_Lot tb_free_set_in)) := by
  refine fun_okG D.fn sc_steady_row (fun ds g Q h => len1 h) (fun A outer s H E hr hgd => ⟨_, (pds_cons (pds_expr (pd_call G_require_lot (hr.mono (by decide)) D_require_lot.at_ D_require_lot.fn.kp D_require_lot.bd pass0 (pda_cons (pdv 0) pda_nil))) (pds_one (pds_ret (pd_callG G_steady_row_in (hr.mono (by decide)) hgd D_steady_row_in.at_ D_steady_row_in.fn.kp D_steady_row_in.bd (pda_cons (pdv 0) pda_nil))))), ?_⟩)
  intro ds g Q h
  obtain ⟨a0, rfl, h⟩ := sp1_of h
  rw [show startD N_steady_row [a0] = [some a0] from rfl]
  obtain ⟨n, M, e1, n1, n8, hM, hl, hT, k⟩ := h
  subst e1
  walk_at "rr35"
  refine ⟨n, M, rfl, ?_⟩
  walk_at "rr35"
  exact ⟨n, M, rfl, n1, n8, hM, hl, hT, dret k⟩

abbrev s_steady_degree : Stmt := topS 72
abbrev N_steady_degree : List Str := ["lot"]
theorem sc_steady_degree : FnScope N_steady_degree ["lot"] (defScope s_steady_degree) := ⟨rfl, rfl, rfl, by decide +kernel, rfl, by decide +kernel, by decide +kernel⟩
abbrev sp_steady_degree (c_KeptMembers c_Lot tb_free_set_in : Addr) : SpD :=
  sp1 fun a g P => ∃ (n : Nat) (M : List (List Int)), a = lotD c_Lot n M ∧ 1 ≤ n ∧ n ≤ 8 ∧ Prods n 4 M ∧ M.length ≤ 24 ∧ ∀ s : Nat, IsSt n (kp M) s → P (.int (s : Int)) g

local macro_rules | `(tactic| walk_at "rr36") => `(tactic| (repeat (first | (with_reducible first | refine rd_seq ?_ | refine rd_seqE ?_ | refine rd_next ?_ | refine rd_rtE ?_ | refine rd_nxE ?_ | refine rd_nx ?_ | refine rd_rt ?_ | refine rd_drop ?_ | refine rd_ret ?_ | refine rd_c ?_ | refine rd_op ?_ | refine rd_b ?_ | refine rd_bK ?_ | refine rd_nil ?_ | refine rd_cons ?_ | refine rd_cb ?_ | refine rd_call ?_ | refine rd_sp1 ?_ | refine rd_sp2 ?_ | refine rd_sp3 ?_ | refine rd_itet ?_ | refine rd_itef ?_ | refine rd_itnt ?_ | refine rd_itnf ?_) | ((with_reducible apply rd_var); (· exact rfl)))))
theorem ok_steady_degree {P : Program} {w : World} {K : Fg} {mg : Str → Option Value} {base : Heap} {t_MAX_EXPONENT t_MAX_LETTERS t_MAX_MEMBERS t_MAX_MEMBER_EXPONENT t_MAX_PASSED t_MOST_COUNTED t_MOST_FAR : Tok} {c_KeptMembers c_Lot tb_free_set_in : Addr} {f f_steady_degree_in f_require_lot : Addr} {fd d_steady_degree_in d_require_lot : FuncData} (D : Dfn K mg "steady_degree" s_steady_degree ["lot"] f fd) (T : Txt P K mg t_MAX_EXPONENT t_MAX_LETTERS t_MAX_MEMBERS t_MAX_MEMBER_EXPONENT t_MAX_PASSED t_MOST_COUNTED t_MOST_FAR c_KeptMembers c_Lot tb_free_set_in) (D_steady_degree_in : Dfn K mg "steady_degree_in" s_steady_degree_in ["lot"] f_steady_degree_in d_steady_degree_in) (G_steady_degree_in : FnOk P w K mg base CX0 71 f_steady_degree_in d_steady_degree_in ["lot"] (upSp K (sp_steady_degree_in c_KeptMembers c_Lot tb_free_set_in))) (D_require_lot : Dfn K mg "require_lot" s_require_lot ["value"] f_require_lot d_require_lot) (G_require_lot : FnOk P w K mg base CX0 1 f_require_lot d_require_lot ["value"] (upSp K (sp_require_lot c_KeptMembers c_Lot tb_free_set_in))) :
    FnOk P w K mg base CX0 72 f fd ["lot"] (upSp K (sp_steady_degree c_KeptMembers c_Lot tb_free_set_in)) := by
  refine fun_okD D.fn sc_steady_degree (fun ds g Q h => len1 h) (fun cdv A outer s H E hr => ⟨_, (pds_cons (pds_expr (pd_call G_require_lot (hr.mono (by decide)) D_require_lot.at_ D_require_lot.fn.kp D_require_lot.bd pass0 (pda_cons (pdv 0) pda_nil))) (pds_one (pds_ret (pd_call G_steady_degree_in (hr.mono (by decide)) D_steady_degree_in.at_ D_steady_degree_in.fn.kp D_steady_degree_in.bd pass0 (pda_cons (pdv 0) pda_nil))))), ?_⟩)
  intro ds g Q h
  obtain ⟨a0, rfl, h⟩ := sp1_of h
  rw [show startD N_steady_degree [a0] = [some a0] from rfl]
  obtain ⟨n, M, e1, n1, n8, hM, hl, k⟩ := h
  subst e1
  walk_at "rr36"
  refine ⟨n, M, rfl, ?_⟩
  walk_at "rr36"
  exact ⟨n, M, rfl, n1, n8, hM, hl, fun s hs => dret (k s hs)⟩

abbrev s_qjug : Stmt := topS 74
abbrev N_qjug : List Str := ["_law_script", "_law_turn", "_law_cell", "_law_great"]
theorem sc_qjug : FnScope N_qjug ["_law_script", "_law_turn"] (defScope s_qjug) := ⟨rfl, rfl, rfl, by decide +kernel, rfl, by decide +kernel, by decide +kernel⟩
abbrev sp_qjug (c_KeptMembers c_Lot tb_free_set_in : Addr) : SpD :=
  sp2 fun a b g P => ∃ (ns : List Int) (i : Nat), a = .scr ns ∧ b = .int (i : Nat) ∧ i < 3 ∧ ∀ p L, g p = none → PotL 0 L → P (.ref p) (gup g p (.lst L))

local macro_rules | `(tactic| walk_at "rr37") => `(tactic| (repeat (first | (with_reducible first | refine rd_seq ?_ | refine rd_seqE ?_ | refine rd_next ?_ | refine rd_rtE ?_ | refine rd_nxE ?_ | refine rd_nx ?_ | refine rd_rt ?_ | refine rd_drop ?_ | refine rd_ret ?_ | refine rd_asg ?_ | refine rd_c ?_ | refine rd_op ?_ | refine rd_b ?_ | refine rd_bK ?_ | refine rd_ifE ?_ | refine rd_nil ?_ | refine rd_cons ?_ | refine rd_lst ?_ | refine rd_lstM ?_ | refine rd_cb ?_ | refine rd_call ?_ | refine rd_sp1 ?_ | refine rd_sp2 ?_ | refine rd_sp3 ?_ | refine rd_int ?_ | refine rd_intb ?_ | refine rd_abs ?_ | refine rd_ii ?_ | refine rd_add ?_ | refine rd_sub ?_ | refine rd_cmp ?_ | refine rd_sl ?_ | refine rd_slT ?_ | refine rd_slL ?_ | refine rd_slS ?_ | refine rd_nopart ?_ | refine rd_part ?_ | refine rd_ptK ?_ | refine rd_itet ?_ | refine rd_itef ?_ | refine rd_itnt ?_ | refine rd_itnf ?_) | ((with_reducible apply rd_var); (· exact rfl)) | ((with_reducible apply rd_asgK); (· exact rfl)) | ((with_reducible apply rd_len); (· (first | assumption | exact seqD_ref (by assumption) | exact seqD_up | exact lstD_ref (by assumption) | exact lstD_up | rfl))) | ((with_reducible apply rd_ix); (· (first | assumption | exact seqD_ref (by assumption) | exact seqD_up | exact lstD_ref (by assumption) | exact lstD_up | rfl)); (· (first | exact atI_c0 _ _ | exact atI_c1 _ _ _ | exact atI_c2 _ _ _ _ | assumption | rfl))))))
theorem ok_qjug {P : Program} {w : World} {K : Fg} {mg : Str → Option Value} {base : Heap} {t_MAX_EXPONENT t_MAX_LETTERS t_MAX_MEMBERS t_MAX_MEMBER_EXPONENT t_MAX_PASSED t_MOST_COUNTED t_MOST_FAR : Tok} {c_KeptMembers c_Lot tb_free_set_in : Addr} {f : Addr} {fd : FuncData} (D : Dfn K mg "_law_jug" s_qjug ["_law_script", "_law_turn"] f fd) (T : Txt P K mg t_MAX_EXPONENT t_MAX_LETTERS t_MAX_MEMBERS t_MAX_MEMBER_EXPONENT t_MAX_PASSED t_MOST_COUNTED t_MOST_FAR c_KeptMembers c_Lot tb_free_set_in) :
    FnOk P w K mg base CX0 1 f fd ["_law_script", "_law_turn"] (upSp K (sp_qjug c_KeptMembers c_Lot tb_free_set_in)) := by
  refine fun_okD D.fn sc_qjug (fun ds g Q h => len2 h) (fun cdv A outer s H E hr => ⟨_, (pds_cons (pds_set (i := 2) sc_qjug.nd (pd_ifExp (pt_cmpD op_lt (RefCmp.op ref_cmp) (pdv 1) (pd_callB call_len_seq ref_len T.b_len (by decide +kernel) (pda_cons (pdv 0) pda_nil)) (nomark _)) (pd_callTy call_int1 ref_int T.b_int (by decide +kernel) (pda_cons (pd_ix (pdv 0) (pdv 1)) pda_nil)) (pd_add (pd_add (pd_mulI pd_int (pdv 1)) pd_int) (pd_mod (pd_callTy call_int1 ref_int T.b_int (by decide +kernel) (pda_cons (pd_callB (cr_sum rfl) ref_sum T.b_sum (by decide +kernel) (pda_cons (pd_slice (pdv 0) pod_none (pod_some pd_int)) pda_nil)) pda_nil)) pd_int)))) (pds_cons (pds_set (i := 3) sc_qjug.nd (pd_mod (pd_callB call_abs ref_abs T.b_abs (by decide +kernel) (pda_cons (pdv 2) pda_nil)) (pd_pow (pd_pow pd_int pd_int) pd_int))) (pds_one (pds_ret (pd_lstM (pda_cons (pd_callB (call_max2 rfl) ref_II T.b_max (by decide +kernel) (pda_cons pd_int (pda_cons (pd_sub (pdv 3) (pd_pow pd_int pd_int)) pda_nil))) (pda_cons (pd_add (pd_add (pd_add (pd_mulI (pd_mod (pdv 3) pd_int) pd_int) (pd_mulI pd_int (pdv 1))) (pd_mulI pd_int (pd_callTy call_int1 ref_int T.b_int (by decide +kernel) (pda_cons (pd_cmp op_lt (RefCmp.op ref_cmp) (pdv 2) pd_int (nomark _)) pda_nil)))) pd_int) (pda_cons pd_int pda_nil)))))))), ?_⟩)
  intro ds g Q h
  obtain ⟨a0, a1, rfl, h⟩ := sp2_of h
  rw [show startD N_qjug [a0, a1] = [some a0, some a1, none, none] from rfl]
  obtain ⟨ns, i, e1, e2, h1, k⟩ := h
  subst e1 e2
  walk_at "rr37"
  refine rd_iteb (fun c => ?_) (fun c => ?_)
  walk_at "rr37"
  have c' : i < ns.length := by simpa using c
  (with_reducible apply rd_ix)
  · rfl
  · exact atI_ints c'
  generalize ns[i] = cell
  rotate_left
  walk_at "rr37"
  refine rd_rI (mulW (by omega) (by omega) (by omega) (by omega)) ?_
  walk_at "rr37"
  refine rd_sum (ns := ns.take 1) rfl (cut1 ns) ?_
  walk_at "rr37"
  refine rd_rI (by decide) ?_
  walk_at "rr37"
  generalize 2503 * (i : Int) + 79 + (ns.take 1).sum % 1000033 = cell
  all_goals walk_at "rr37"
  all_goals refine rd_rI (powW (by decide +kernel)) ?_
  all_goals walk_at "rr37"
  all_goals refine rd_rI (powW (by decide +kernel)) ?_
  all_goals walk_at "rr37"
  all_goals refine rd_rI (by decide +kernel) ?_
  all_goals generalize (if cell < 0 then -cell else cell) % (10 ^ Int.toNat 57) ^ Int.toNat 6 = gr
  all_goals walk_at "rr37"
  all_goals refine rd_rI (powW (by decide +kernel)) ?_
  all_goals walk_at "rr37"
  all_goals refine rd_rI (by decide) ?_
  all_goals have b1 := Int.emod_nonneg gr (b := 1000000000177) (by decide)
  all_goals have b2 := Int.emod_lt_of_pos gr (b := 1000000000177) (by decide)
  all_goals generalize gr % 1000000000177 = m1 at b1 b2 ⊢
  all_goals walk_at "rr37"
  all_goals refine rd_rI (mulW (by omega) (by omega) (by omega) (by omega)) ?_
  all_goals walk_at "rr37"
  all_goals refine rd_rI (mulW (by omega) (by omega) (by omega) (by omega)) ?_
  all_goals walk_at "rr37"
  all_goals have b4 : 0 ≤ (if decide (cell < 0) = true then (1 : Int) else 0) ∧ (if decide (cell < 0) = true then (1 : Int) else 0) ≤ 1 := by split <;> decide
  all_goals generalize (if decide (cell < 0) = true then (1 : Int) else 0) = m2 at b4 ⊢
  all_goals refine rd_rI (mulW (by omega) (by omega) (by omega) (by omega)) ?_
  all_goals walk_at "rr37"
  all_goals refine rd_zK (by show 3 ≤ 16777216; decide) ?_
  all_goals intro p hp
  all_goals walk_at "rr37"
  all_goals exact dret (k p _ hp ⟨_, _, _, rfl, by omega, by omega, by decide, by decide⟩)

abbrev s_qpour : Stmt := topS 75
abbrev N_qpour : List Str := ["_law_jug_here", "_law_total", "_law_one", "_law_two", "_law_found"]
theorem sc_qpour : FnScope N_qpour ["_law_jug_here", "_law_total"] (defScope s_qpour) := ⟨rfl, rfl, rfl, by decide +kernel, rfl, by decide +kernel, by decide +kernel⟩
abbrev sp_qpour (c_KeptMembers c_Lot tb_free_set_in : Addr) : SpD :=
  sp2 fun a b g P => ∃ p t n L, a = .ref p ∧ b = .int t ∧ 0 < t ∧ t < 2000000 ∧ g p = some (.lst L) ∧ PotL n L ∧ n ≤ 100000 ∧ ∀ r L', 0 ≤ r → r < t → PotL (n + 1) L' → P (.int r) (gup g p (.lst L'))

local macro_rules | `(tactic| walk_at "rr38") => `(tactic| (repeat (first | (with_reducible first | refine rd_seq ?_ | refine rd_seqE ?_ | refine rd_next ?_ | refine rd_rtE ?_ | refine rd_nxE ?_ | refine rd_nx ?_ | refine rd_rt ?_ | refine rd_drop ?_ | refine rd_ret ?_ | refine rd_dif ?_ | refine rd_asg ?_ | refine rd_c ?_ | refine rd_op ?_ | refine rd_b ?_ | refine rd_bK ?_ | refine rd_nil ?_ | refine rd_cons ?_ | refine rd_cb ?_ | refine rd_call ?_ | refine rd_sp1 ?_ | refine rd_sp2 ?_ | refine rd_sp3 ?_ | refine rd_int ?_ | refine rd_intb ?_ | refine rd_add ?_ | refine rd_cmp ?_ | refine rd_setI ?_ | refine rd_itet ?_ | refine rd_itef ?_ | refine rd_itnt ?_ | refine rd_itnf ?_) | ((with_reducible apply rd_var); (· exact rfl)) | ((with_reducible apply rd_asgK); (· exact rfl)) | ((with_reducible apply rd_ix); (· (first | assumption | exact seqD_ref (by assumption) | exact seqD_up | exact lstD_ref (by assumption) | exact lstD_up | rfl)); (· (first | exact atI_c0 _ _ | exact atI_c1 _ _ _ | exact atI_c2 _ _ _ _ | assumption | rfl))) | ((with_reducible apply rd_set30); (· (first | assumption | exact gup_same))) | ((with_reducible apply rd_set32); (· (first | assumption | exact gup_same))))))
theorem ok_qpour {P : Program} {w : World} {K : Fg} {mg : Str → Option Value} {base : Heap} {t_MAX_EXPONENT t_MAX_LETTERS t_MAX_MEMBERS t_MAX_MEMBER_EXPONENT t_MAX_PASSED t_MOST_COUNTED t_MOST_FAR : Tok} {c_KeptMembers c_Lot tb_free_set_in : Addr} {f : Addr} {fd : FuncData} (D : Dfn K mg "_law_pour" s_qpour ["_law_jug_here", "_law_total"] f fd) (T : Txt P K mg t_MAX_EXPONENT t_MAX_LETTERS t_MAX_MEMBERS t_MAX_MEMBER_EXPONENT t_MAX_PASSED t_MOST_COUNTED t_MOST_FAR c_KeptMembers c_Lot tb_free_set_in) :
    FnOk P w K mg base CX0 1 f fd ["_law_jug_here", "_law_total"] (upSp K (sp_qpour c_KeptMembers c_Lot tb_free_set_in)) := by
  refine fun_okD D.fn sc_qpour (fun ds g Q h => len2 h) (fun cdv A outer s H E hr => ⟨_, (pds_cons (pds_if (pt_cmpD op_gt (RefCmp.op ref_cmp) (pd_ix (pdv 0) pd_int) pd_int (nomark _)) (pds_cons (pds_set (i := 4) sc_qpour.nd (pd_mod (pd_callTy call_int1 ref_int T.b_int (by decide +kernel) (pda_cons (pd_ix (pdv 0) pd_int) pda_nil)) (pdv 1))) (pds_cons (pds_setI (pd_fdiv (pd_callTy call_int1 ref_int T.b_int (by decide +kernel) (pda_cons (pd_ix (pdv 0) pd_int) pda_nil)) (pdv 1)) (pdv 0) pd_int) (pds_one (pds_ret (pdv 4))))) pds_nil) (pds_cons (pds_setI (pd_add (pd_ix (pdv 0) pd_int) pd_int) (pdv 0) pd_int) (pds_cons (pds_set (i := 2) sc_qpour.nd (pd_mod (pd_callTy call_int1 ref_int T.b_int (by decide +kernel) (pda_cons (pd_add (pd_ix (pdv 0) pd_int) (pd_mulI pd_int (pd_ix (pdv 0) pd_int))) pda_nil)) pd_int)) (pds_cons (pds_set (i := 3) sc_qpour.nd (pd_mod (pd_callTy call_int1 ref_int T.b_int (by decide +kernel) (pda_cons (pd_add (pd_add (pd_mulI (pdv 2) (pdv 2)) (pd_mulI pd_int (pd_ix (pdv 0) pd_int))) pd_int) pda_nil)) pd_int)) (pds_one (pds_ret (pd_mod (pd_callTy call_int1 ref_int T.b_int (by decide +kernel) (pda_cons (pd_fdiv (pd_mulI (pdv 3) (pd_add (pd_mod (pdv 2) pd_int) pd_int)) pd_int) pda_nil)) (pdv 1)))))))), ?_⟩)
  intro ds g Q h
  obtain ⟨a0, a1, rfl, h⟩ := sp2_of h
  rw [show startD N_qpour [a0, a1] = [some a0, some a1, none, none, none] from rfl]
  obtain ⟨p, t, n, L, e1, e2, h1, h2, hg, ⟨u, v, kk, eL, v0, v1, k0, k1⟩, hn, k⟩ := h
  subst e1 e2 eL
  walk_at "rr38"
  refine rd_itei (c := 0 < u) (fun c => ?_) (fun c => ?_)
  · walk_at "rr38"
    refine rd_rI h1 ?_
    walk_at "rr38"
    refine rd_rI (divW h1 (by omega)) ?_
    walk_at "rr38"
    exact dret (k _ _ (Int.emod_nonneg _ (by omega)) (Int.emod_lt_of_pos _ h1) ⟨_, _, _, rfl, v0, v1, k0, by omega⟩)
  · walk_at "rr38"
    refine rd_rI (mulW (by omega) (by omega) (by omega) (by omega)) ?_
    walk_at "rr38"
    refine rd_rI (by decide) ?_
    have b1 := Int.emod_nonneg (v + 141650939 * (kk + 1)) (b := 2305843009213693951) (by decide)
    have b2 := Int.emod_lt_of_pos (v + 141650939 * (kk + 1)) (b := 2305843009213693951) (by decide)
    generalize (v + 141650939 * (kk + 1)) % 2305843009213693951 = o1 at b1 b2 ⊢
    walk_at "rr38"
    refine rd_rI (mulW (by omega) (by omega) (by omega) (by omega)) ?_
    walk_at "rr38"
    refine rd_rI (mulW (by omega) (by omega) (by omega) (by omega)) ?_
    walk_at "rr38"
    refine rd_rI (by decide) ?_
    have b3 := Int.emod_nonneg (o1 * o1 + 86028121 * (kk + 1) + 7) (b := 1152921504606846883) (by decide)
    have b4 := Int.emod_lt_of_pos (o1 * o1 + 86028121 * (kk + 1) + 7) (b := 1152921504606846883) (by decide)
    generalize (o1 * o1 + 86028121 * (kk + 1) + 7) % 1152921504606846883 = o2 at b3 b4 ⊢
    walk_at "rr38"
    refine rd_rI (by decide) ?_
    have b5 := Int.emod_nonneg o1 (b := 1031) (by decide)
    have b6 := Int.emod_lt_of_pos o1 (b := 1031) (by decide)
    generalize o1 % 1031 = o3 at b5 b6 ⊢
    walk_at "rr38"
    refine rd_rI (mulW (by omega) (by omega) (by omega) (by omega)) ?_
    walk_at "rr38"
    refine rd_rI (divW (by decide) (by decide)) ?_
    walk_at "rr38"
    refine rd_rI h1 ?_
    walk_at "rr38"
    exact dret (k _ _ (Int.emod_nonneg _ (by omega)) (Int.emod_lt_of_pos _ h1) ⟨_, _, _, rfl, v0, v1, by omega, by omega⟩)

abbrev s_qtaken : Stmt := topS 76
abbrev N_qtaken : List Str := ["_law_jug_here", "_law_items"]
theorem sc_qtaken : FnScope N_qtaken ["_law_jug_here", "_law_items"] (defScope s_qtaken) := ⟨rfl, rfl, rfl, by decide +kernel, rfl, by decide +kernel, by decide +kernel⟩
abbrev sp_qtaken (c_KeptMembers c_Lot tb_free_set_in : Addr) : SpD :=
  sp2 fun a b g P => ∃ p ds n L, a = .ref p ∧ b = .lst ds ∧ ds ≠ [] ∧ ds.length < 100000 ∧ g p = some (.lst L) ∧ PotL n L ∧ n ≤ 100000 ∧ ∀ d ∈ ds, ∀ L', PotL (n + 1) L' → P d (gup g p (.lst L'))

local macro_rules | `(tactic| walk_at "rr39") => `(tactic| (repeat (first | (with_reducible first | refine rd_seq ?_ | refine rd_seqE ?_ | refine rd_next ?_ | refine rd_rtE ?_ | refine rd_nxE ?_ | refine rd_nx ?_ | refine rd_rt ?_ | refine rd_drop ?_ | refine rd_ret ?_ | refine rd_c ?_ | refine rd_op ?_ | refine rd_b ?_ | refine rd_bK ?_ | refine rd_nil ?_ | refine rd_cons ?_ | refine rd_cb ?_ | refine rd_call ?_ | refine rd_sp1 ?_ | refine rd_sp2 ?_ | refine rd_sp3 ?_ | refine rd_itet ?_ | refine rd_itef ?_ | refine rd_itnt ?_ | refine rd_itnf ?_) | ((with_reducible apply rd_var); (· exact rfl)) | ((with_reducible apply rd_len); (· (first | assumption | exact seqD_ref (by assumption) | exact seqD_up | exact lstD_ref (by assumption) | exact lstD_up | rfl))) | ((with_reducible apply rd_ix); (· (first | assumption | exact seqD_ref (by assumption) | exact seqD_up | exact lstD_ref (by assumption) | exact lstD_up | rfl)); (· (first | exact atI_c0 _ _ | exact atI_c1 _ _ _ | exact atI_c2 _ _ _ _ | assumption | rfl))))))
theorem ok_qtaken {P : Program} {w : World} {K : Fg} {mg : Str → Option Value} {base : Heap} {t_MAX_EXPONENT t_MAX_LETTERS t_MAX_MEMBERS t_MAX_MEMBER_EXPONENT t_MAX_PASSED t_MOST_COUNTED t_MOST_FAR : Tok} {c_KeptMembers c_Lot tb_free_set_in : Addr} {f f_qpour : Addr} {fd d_qpour : FuncData} (D : Dfn K mg "_law_taken" s_qtaken ["_law_jug_here", "_law_items"] f fd) (T : Txt P K mg t_MAX_EXPONENT t_MAX_LETTERS t_MAX_MEMBERS t_MAX_MEMBER_EXPONENT t_MAX_PASSED t_MOST_COUNTED t_MOST_FAR c_KeptMembers c_Lot tb_free_set_in) (D_qpour : Dfn K mg "_law_pour" s_qpour ["_law_jug_here", "_law_total"] f_qpour d_qpour) (G_qpour : FnOk P w K mg base CX0 1 f_qpour d_qpour ["_law_jug_here", "_law_total"] (upSp K (sp_qpour c_KeptMembers c_Lot tb_free_set_in))) :
    FnOk P w K mg base CX0 2 f fd ["_law_jug_here", "_law_items"] (upSp K (sp_qtaken c_KeptMembers c_Lot tb_free_set_in)) := by
  refine fun_okD D.fn sc_qtaken (fun ds g Q h => len2 h) (fun cdv A outer s H E hr => ⟨_, (pds_one (pds_ret (pd_ix (pdv 1) (pd_call G_qpour (hr.mono (by decide)) D_qpour.at_ D_qpour.fn.kp D_qpour.bd pass0 (pda_cons (pdv 0) (pda_cons (pd_callB call_len_seq ref_len T.b_len (by decide +kernel) (pda_cons (pdv 1) pda_nil)) pda_nil)))))), ?_⟩)
  intro ds g Q h
  obtain ⟨a0, a1, rfl, h⟩ := sp2_of h
  rw [show startD N_qtaken [a0, a1] = [some a0, some a1] from rfl]
  obtain ⟨p, ds, n, L, e1, e2, h1, h2, hg, hp, hn, k⟩ := h
  subst e1 e2
  have hl : 1 ≤ ds.length := List.length_pos_iff.mpr h1
  walk_at "rr39"
  refine ⟨p, _, n, L, rfl, rfl, by omega, by omega, hg, hp, hn, fun r L' r0 r1 hp' => ?_⟩
  obtain ⟨j, rfl⟩ := Int.eq_ofNat_of_zero_le r0
  have hj : j < ds.length := by omega
  (with_reducible apply rd_ix)
  · rfl
  · exact atI_nat (List.getElem?_eq_getElem hj)
  walk_at "rr39"
  exact dret (k _ (List.getElem_mem hj) _ hp')

abbrev s_qdivides : Stmt := topS 77
abbrev N_qdivides : List Str := ["_law_one", "_law_other", "_law_left", "_law_right_here"]
theorem sc_qdivides : FnScope N_qdivides ["_law_one", "_law_other"] (defScope s_qdivides) := ⟨rfl, rfl, rfl, by decide +kernel, rfl, by decide +kernel, by decide +kernel⟩
abbrev sp_qdivides (c_KeptMembers c_Lot tb_free_set_in : Addr) : SpD :=
  sp2 fun a b g P => ∃ xs ys : List Int, a = tI xs ∧ b = tI ys ∧ xs.length ≤ 100 ∧ P (.bl (dvB xs ys)) g

local macro_rules | `(tactic| walk_at "rr40") => `(tactic| (repeat (first | (with_reducible first | refine rd_seq ?_ | refine rd_seqE ?_ | refine rd_next ?_ | refine rd_rtE ?_ | refine rd_nxE ?_ | refine rd_nx ?_ | refine rd_rt ?_ | refine rd_drop ?_ | refine rd_ret ?_ | refine rd_c ?_ | refine rd_op ?_ | refine rd_b ?_ | refine rd_bK ?_ | refine rd_nil ?_ | refine rd_cons ?_ | refine rd_lst ?_ | refine rd_cb ?_ | refine rd_call ?_ | refine rd_sp1 ?_ | refine rd_sp2 ?_ | refine rd_sp3 ?_ | refine rd_cmp ?_ | refine rd_lc ?_ | refine rd_wzip ?_ | refine rd_zipT ?_ | refine rd_itet ?_ | refine rd_itef ?_ | refine rd_itnt ?_ | refine rd_itnf ?_) | ((with_reducible apply rd_var); (· exact rfl)))))
theorem ok_qdivides {P : Program} {w : World} {K : Fg} {mg : Str → Option Value} {base : Heap} {t_MAX_EXPONENT t_MAX_LETTERS t_MAX_MEMBERS t_MAX_MEMBER_EXPONENT t_MAX_PASSED t_MOST_COUNTED t_MOST_FAR : Tok} {c_KeptMembers c_Lot tb_free_set_in : Addr} {f : Addr} {fd : FuncData} (D : Dfn K mg "_law_divides" s_qdivides ["_law_one", "_law_other"] f fd) (T : Txt P K mg t_MAX_EXPONENT t_MAX_LETTERS t_MAX_MEMBERS t_MAX_MEMBER_EXPONENT t_MAX_PASSED t_MOST_COUNTED t_MOST_FAR c_KeptMembers c_Lot tb_free_set_in) :
    FnOk P w K mg base CX0 1 f fd ["_law_one", "_law_other"] (upSp K (sp_qdivides c_KeptMembers c_Lot tb_free_set_in)) := by
  refine fun_okD D.fn sc_qdivides (fun ds g Q h => len2 h) (fun cdv A outer s H E hr => ⟨_, (pds_one (pds_ret (pd_cmp (op_eqD hr.units) (RefCmp.op ref_eq) (pd_lc (own := [("_law_left", 2), ("_law_right_here", 3)]) (tg := .tp [2, 3]) rfl sc_qdivides.nd (pid_zip T.b_zip (pda_cons (pdv 0) (pda_cons (pdv 1) pda_nil))) (blkOk_by (own := [("_law_left", 2), ("_law_right_here", 3)]) (N := N_qdivides) (sc := defScope s_qdivides) (by decide +kernel)) (fun _ _ _ _ _ => (pgd_tp (is := [2, 3]) rfl (pgd_cons (i := 2) (pgd_nm (i := 2) sc_qdivides.nd) (pgd_cons (i := 3) (pgd_nm (i := 3) sc_qdivides.nd) pgd_nil)))) (fun _ _ _ _ _ => (ptsd_one (pt_cmpD op_gt (RefCmp.op ref_cmp) (pdv 2) (pdv 3) (nomark _)))) (fun _ _ _ _ _ => pd_int)) (pd_lst pda_nil) (nomark _)))), ?_⟩)
  intro ds g Q h
  obtain ⟨a0, a1, rfl, h⟩ := sp2_of h
  rw [show startD N_qdivides [a0, a1] = [some a0, some a1, none, none] from rfl]
  obtain ⟨xs, ys, e1, e2, hx, k⟩ := h
  subst e1 e2
  have hz := zip_len xs ys
  walk_at "rr40"
  refine rd_zK (by omega) (comp_fil (p := gt12D) (f := fun _ => .int 1) (fun d hd => ?_) ?_)
  · obtain ⟨i, j, e⟩ := zip_mem hd
    subst e
    refine ⟨_, rfl, fun Q' h' => ?_, fun _ Q2 h2 => ?_⟩
    · walk_at "rr40"
      exact h'
    · walk_at "rr40"
      exact h2
  rw [ones_map]
  walk_at "rr40"
  refine rd_zK (by show 0 ≤ 16777216; decide) ?_
  refine rd_eq (okD_lI _) (okD_lI []) ?_
  rw [show (DV.lst []) = .lst (([] : List Int).map DV.int) from rfl, eqD_lI, ones_nil]
  walk_at "rr40"
  exact dret k

abbrev s_qleast : Stmt := topS 79
abbrev N_qleast : List Str := ["_law_products", "_law_once", "_law_found", "_law_product_here", "_law_other"]
theorem sc_qleast : FnScope N_qleast ["_law_products"] (defScope s_qleast) := ⟨rfl, rfl, rfl, by decide +kernel, rfl, by decide +kernel, by decide +kernel⟩
abbrev sp_qleast (c_KeptMembers c_Lot tb_free_set_in : Addr) : SpD :=
  sp1 fun a g P => ∃ (n : Nat) (B : Int) (L : List (List Int)), a = .lst (L.map tI) ∧ 1 ≤ n ∧ n ≤ 8 ∧ 0 ≤ B ∧ Prods n B L ∧ L.length ≤ 24 ∧ P (.tup ((leastL L).map tI)) g

local macro_rules | `(tactic| walk_at "rr41") => `(tactic| (repeat (first | (with_reducible first | refine rd_seq ?_ | refine rd_seqE ?_ | refine rd_next ?_ | refine rd_rtE ?_ | refine rd_nxE ?_ | refine rd_nx ?_ | refine rd_rt ?_ | refine rd_ct ?_ | refine rd_bk ?_ | refine rd_drop ?_ | refine rd_ret ?_ | refine rd_dif ?_ | refine rd_asg ?_ | refine rd_for ?_ | refine rd_c ?_ | refine rd_op ?_ | refine rd_b ?_ | refine rd_bK ?_ | refine rd_tru ?_ | refine rd_tKb ?_ | refine rd_and ?_ | refine rd_nil ?_ | refine rd_cons ?_ | refine rd_lst ?_ | refine rd_lstM ?_ | refine rd_cb ?_ | refine rd_call ?_ | refine rd_sp1 ?_ | refine rd_sp2 ?_ | refine rd_sp3 ?_ | refine rd_mt ?_ | refine rd_lc ?_ | refine rd_wseq ?_ | refine rd_wsT ?_ | refine rd_wsL ?_ | refine rd_wsS ?_ | refine rd_sts ?_ | refine rd_itet ?_ | refine rd_itef ?_ | refine rd_itnt ?_ | refine rd_itnf ?_) | ((with_reducible apply rd_var); (· exact rfl)) | ((with_reducible apply rd_asgK); (· exact rfl)) | ((with_reducible apply rd_tuple); (· (first | assumption | exact seqD_ref (by assumption) | exact seqD_up | exact lstD_ref (by assumption) | exact lstD_up | rfl))) | ((with_reducible apply rd_some); (· (first | assumption | exact seqD_ref (by assumption) | exact seqD_up | exact lstD_ref (by assumption) | exact lstD_up | rfl))))))
theorem ok_qleast {P : Program} {w : World} {K : Fg} {mg : Str → Option Value} {base : Heap} {t_MAX_EXPONENT t_MAX_LETTERS t_MAX_MEMBERS t_MAX_MEMBER_EXPONENT t_MAX_PASSED t_MOST_COUNTED t_MOST_FAR : Tok} {c_KeptMembers c_Lot tb_free_set_in : Addr} {f f_qdivides : Addr} {fd d_qdivides : FuncData} (D : Dfn K mg "_law_least" s_qleast ["_law_products"] f fd) (T : Txt P K mg t_MAX_EXPONENT t_MAX_LETTERS t_MAX_MEMBERS t_MAX_MEMBER_EXPONENT t_MAX_PASSED t_MOST_COUNTED t_MOST_FAR c_KeptMembers c_Lot tb_free_set_in) (D_qdivides : Dfn K mg "_law_divides" s_qdivides ["_law_one", "_law_other"] f_qdivides d_qdivides) (G_qdivides : FnOk P w K mg base CX0 1 f_qdivides d_qdivides ["_law_one", "_law_other"] (upSp K (sp_qdivides c_KeptMembers c_Lot tb_free_set_in))) :
    FnOk P w K mg base CX0 2 f fd ["_law_products"] (upSp K (sp_qleast c_KeptMembers c_Lot tb_free_set_in)) := by
  refine fun_okD D.fn sc_qleast (fun ds g Q h => len1 h) (fun cdv A outer s H E hr => ⟨_, (pds_cons (pds_set (i := 1) sc_qleast.nd (pd_sortedSetT hr.units T.b_sorted T.b_set (pdv 0))) (pds_cons (pds_set (i := 2) sc_qleast.nd (pd_lstM pda_nil)) (pds_cons (pds_for (tg := .nm 3) PassesOwn.never rfl (pid_seq (pdv 1)) (pgd_nm (i := 3) sc_qleast.nd) (pds_one (pds_if (pt_cmpD (op_eqD hr.units) (RefCmp.op ref_eq) (pd_lc (own := [("_law_other", 4)]) (tg := .nm 4) rfl sc_qleast.nd (pid_seq (pdv 1)) (blkOk_by (own := [("_law_other", 4)]) (N := N_qleast) (sc := defScope s_qleast) (by decide +kernel)) (fun _ _ _ _ _ => (pgd_nm (i := 4) sc_qleast.nd)) (fun _ _ _ _ _ => (ptsd_one (pwd_pt (pwd_and (pt_cmpD (op_neD hr.units) (RefCmp.op ref_ne) (pdv 4) (pdv 3) (nomark _)) (pwd_and1 (pt_truD (pd_call G_qdivides (hr.mono (by decide)) D_qdivides.at_ D_qdivides.fn.kp D_qdivides.bd pass0 (pda_cons (pdv 4) (pda_cons (pdv 3) pda_nil))))))))) (fun _ _ _ _ _ => (pdv 4))) (pd_lst pda_nil) (nomark _)) (pds_one (pds_expr (pd_append (pdv 2) (pda_cons (pdv 3) pda_nil)))) pds_nil))) (pds_fz 2 (pds_one (pds_ret (pd_callTy call_tuple_of ref_tuple T.b_tuple (by decide +kernel) (pda_cons (pdv 2) pda_nil)))))))), ?_⟩)
  intro ds g Q h
  obtain ⟨a0, rfl, h⟩ := sp1_of h
  rw [show startD N_qleast [a0] = [some a0, none, none, none, none] from rfl]
  obtain ⟨n, B, L, e1, n1, n8, hB, hp, hl, k⟩ := h
  subst e1
  walk_at "rr41"
  have hb : ∀ z ∈ L, z.length = n ∧ TS.Bd (B + 1) z := fun z hz => ⟨(hp z hz).1, fun x hx => by have := (hp z hz).2 x hx; omega⟩
  refine ⟨L, rfl, by omega, n, B + 1, n1, hb, fun M nd hM hML hs => ?_⟩
  have asc := asc_of_code (B := B + 1) (n := n) nd (fun z hz => hb z ((hM z).mp hz)) hs
  have hpM : Prods n B M := hp.sub fun z hz => (hM z).mp hz
  rw [tIs]
  walk_at "rr41"
  refine rd_zK (by show 0 ≤ 16777216; decide) ?_
  intro q hq
  walk_at "rr41"
  refine rd_loopX (I := fun i δ g' => g' = gup g q (.lst (((M.take i).filter (minB M)).map tI)) ∧ ∃ v3 v4 : Option DV, δ = [some (.lst (L.map tI)), some (.lst (M.map tI)), some (.ref q), v3, v4]) ⟨rfl, _, _, rfl⟩ ?_ ?_
  · intro i d hd δ g' f hf hI
    obtain ⟨eg, v3, v4, e⟩ := hI
    subst eg e
    rw [List.getElem?_map] at hd
    obtain ⟨m, hx, e⟩ := Option.map_eq_some_iff.mp hd
    subst e
    have hm := List.mem_of_getElem? hx
    have hft := filter_take (q := minB M) hx
    have hfl := flt_len (O := M) (q := minB M) i
    refine ⟨_, rfl, ?_⟩
    walk_at "rr41"
    refine rd_zK (by rw [List.length_map]; omega) (comp_fil (p := lwP (tI m)) (f := fun d => d) (fun d hd => ?_) ?_)
    · obtain ⟨x, hx, e⟩ := tI_mem hd
      subst e
      refine ⟨_, rfl, fun Q' h' => ?_, fun _ Q2 h2 => ?_⟩
      · walk_at "rr41"
        refine rd_ne (okD_tI x) (okD_tI m) ?_
        rw [eqD_tI]
        rw [lwP_at] at h'
        walk_at "rr41"
        refine rd_iteb (fun c => ?_) (fun c => ?_)
        · rw [c, Bool.true_and] at h'
          walk_at "rr41"
          refine ⟨x, m, rfl, rfl, by rw [(hpM x hx).1]; omega, ?_⟩
          walk_at "rr41"
          exact h'
        · rw [c, Bool.false_and] at h'
          exact h'
      · walk_at "rr41"
        exact h2
    rw [lw_map]
    walk_at "rr41"
    refine rd_zK (by show 0 ≤ 16777216; decide) ?_
    refine rd_eq (okD_lIs' _) (okD_lIs' []) ?_
    rw [eqD_nilL, lw_min]
    walk_at "rr41"
    refine rd_iteb (fun c => ?_) (fun c => ?_)
    · rw [if_pos c] at hft
      walk_at "rr41"
      refine rd_append gup_same (by rw [List.length_map]; omega) ?_
      rw [gup_gup, show ((M.take i).filter (minB M)).map tI ++ [tI m] = ((M.take i).filter (minB M) ++ [m]).map tI by rw [List.map_append]; rfl, ← hft]
      walk_at "rr41"
      exact hf _ _ ⟨rfl, _, _, rfl⟩
    · rw [if_neg (by rw [c]; decide), List.append_nil] at hft
      walk_at "rr41"
      exact hf _ _ ⟨by rw [hft], _, _, rfl⟩
  · intro δ g' hI
    obtain ⟨eg, v3, v4, e⟩ := hI
    subst eg e
    rw [List.length_map, List.take_length, asc_least asc hM]
    walk_at "rr41"
    refine rd_fz rfl gup_same ?_
    rw [gdel_gup hq]
    walk_at "rr41"
    exact dret k

abbrev s_qproduct : Stmt := topS 80
abbrev N_qproduct : List Str := ["_law_jug_here", "_law_letters", "_law_most", "_law_found", "_law_letter"]
theorem sc_qproduct : FnScope N_qproduct ["_law_jug_here", "_law_letters", "_law_most"] (defScope s_qproduct) := ⟨rfl, rfl, rfl, by decide +kernel, rfl, by decide +kernel, by decide +kernel⟩
abbrev sp_qproduct (c_KeptMembers c_Lot tb_free_set_in : Addr) : SpD :=
  sp3 fun a b c g P => ∃ (p : Addr) (l n : Nat) (m : Int) (L : List DV), a = .ref p ∧ b = .int (l : Int) ∧ l ≤ 8 ∧ c = .int m ∧ 1 ≤ m ∧ m ≤ 4 ∧ g p = some (.lst L) ∧ PotL n L ∧ n ≤ 90000 ∧ ∀ (xs : List Int) (L' : List DV), xs.length = l → (∀ x ∈ xs, 0 ≤ x ∧ x ≤ m) → PotL (n + 16) L' → P (tI xs) (gup g p (.lst L'))

local macro_rules | `(tactic| walk_at "rr42") => `(tactic| (repeat (first | (with_reducible first | refine rd_seq ?_ | refine rd_seqE ?_ | refine rd_next ?_ | refine rd_rtE ?_ | refine rd_nxE ?_ | refine rd_nx ?_ | refine rd_rt ?_ | refine rd_ct ?_ | refine rd_bk ?_ | refine rd_drop ?_ | refine rd_ret ?_ | refine rd_asg ?_ | refine rd_for ?_ | refine rd_c ?_ | refine rd_op ?_ | refine rd_b ?_ | refine rd_bK ?_ | refine rd_ifE ?_ | refine rd_nil ?_ | refine rd_cons ?_ | refine rd_lst ?_ | refine rd_lstM ?_ | refine rd_cb ?_ | refine rd_call ?_ | refine rd_sp1 ?_ | refine rd_sp2 ?_ | refine rd_sp3 ?_ | refine rd_add ?_ | refine rd_mt ?_ | refine rd_rng1 ?_ | refine rd_itet ?_ | refine rd_itef ?_ | refine rd_itnt ?_ | refine rd_itnf ?_) | ((with_reducible apply rd_var); (· exact rfl)) | ((with_reducible apply rd_asgK); (· exact rfl)) | ((with_reducible apply rd_tuple); (· (first | assumption | exact seqD_ref (by assumption) | exact seqD_up | exact lstD_ref (by assumption) | exact lstD_up | rfl))) | ((with_reducible apply rd_some); (· (first | assumption | exact seqD_ref (by assumption) | exact seqD_up | exact lstD_ref (by assumption) | exact lstD_up | rfl))))))
theorem ok_qproduct {P : Program} {w : World} {K : Fg} {mg : Str → Option Value} {base : Heap} {t_MAX_EXPONENT t_MAX_LETTERS t_MAX_MEMBERS t_MAX_MEMBER_EXPONENT t_MAX_PASSED t_MOST_COUNTED t_MOST_FAR : Tok} {c_KeptMembers c_Lot tb_free_set_in : Addr} {f f_qpour : Addr} {fd d_qpour : FuncData} (D : Dfn K mg "_law_product" s_qproduct ["_law_jug_here", "_law_letters", "_law_most"] f fd) (T : Txt P K mg t_MAX_EXPONENT t_MAX_LETTERS t_MAX_MEMBERS t_MAX_MEMBER_EXPONENT t_MAX_PASSED t_MOST_COUNTED t_MOST_FAR c_KeptMembers c_Lot tb_free_set_in) (D_qpour : Dfn K mg "_law_pour" s_qpour ["_law_jug_here", "_law_total"] f_qpour d_qpour) (G_qpour : FnOk P w K mg base CX0 1 f_qpour d_qpour ["_law_jug_here", "_law_total"] (upSp K (sp_qpour c_KeptMembers c_Lot tb_free_set_in))) :
    FnOk P w K mg base CX0 2 f fd ["_law_jug_here", "_law_letters", "_law_most"] (upSp K (sp_qproduct c_KeptMembers c_Lot tb_free_set_in)) := by
  refine fun_okD D.fn sc_qproduct (fun ds g Q h => len3 h) (fun cdv A outer s H E hr => ⟨_, (pds_cons (pds_set (i := 3) sc_qproduct.nd (pd_lstM pda_nil)) (pds_cons (pds_for (tg := .nm 4) PassesOwn.never rfl (pid_range1 T.b_range (pda_cons (pdv 1) pda_nil)) (pgd_nm (i := 4) sc_qproduct.nd) (pds_one (pds_expr (pd_append (pdv 3) (pda_cons (pd_ifExp (pt_cmpD (op_eqD hr.units) (RefCmp.op ref_eq) (pd_call G_qpour (hr.mono (by decide)) D_qpour.at_ D_qpour.fn.kp D_qpour.bd pass0 (pda_cons (pdv 0) (pda_cons pd_int pda_nil))) pd_int (nomark _)) pd_int (pd_call G_qpour (hr.mono (by decide)) D_qpour.at_ D_qpour.fn.kp D_qpour.bd pass0 (pda_cons (pdv 0) (pda_cons (pd_add (pdv 2) pd_int) pda_nil)))) pda_nil))))) (pds_fz 3 (pds_one (pds_ret (pd_callTy call_tuple_of ref_tuple T.b_tuple (by decide +kernel) (pda_cons (pdv 3) pda_nil))))))), ?_⟩)
  intro ds g Q h
  obtain ⟨a0, a1, a2, rfl, h⟩ := sp3_of h
  rw [show startD N_qproduct [a0, a1, a2] = [some a0, some a1, some a2, none, none] from rfl]
  obtain ⟨p, l, n, m, L, e1, e2, hl, e3, m1, m4, hg, hp, hn, k⟩ := h
  subst e1 e2 e3
  walk_at "rr42"
  refine rd_zK (by show 0 ≤ 16777216; decide) ?_
  intro q hq
  have hqp : q ≠ p := fun z => by rw [z, hg] at hq; cases hq
  have hpq : p ≠ q := fun z => hqp z.symm
  walk_at "rr42"
  refine rd_rng1K (j := (l : Int)) ⟨by omega, by omega⟩ ?_
  rw [Int.toNat_natCast]
  refine rd_loopX (I := fun i δ g' => ∃ (xs : List Int) (L' : List DV), xs.length = i ∧ (∀ x ∈ xs, 0 ≤ x ∧ x ≤ m) ∧ PotL (n + 2 * i) L' ∧ g' = gup (gup g p (.lst L')) q (.lst (xs.map DV.int)) ∧ ∃ v4 : Option DV, δ = [some (.ref p), some (.int (l : Int)), some (.int m), some (.ref q), v4]) ⟨[], L, rfl, (fun x hx => by cases hx), hp, by rw [gup_self hg]; rfl, _, rfl⟩ ?_ ?_
  · intro i d hd δ g' f hf hI
    obtain ⟨xs, L1, hxl, hx, hp1, eg, v4, e⟩ := hI
    subst eg e
    obtain ⟨hil, e⟩ := rangeD_at hd
    subst e
    refine ⟨_, rfl, ?_⟩
    walk_at "rr42"
    refine ⟨p, 2, _, L1, rfl, rfl, by decide, by decide, by rw [gup_ne hpq]; exact gup_same, hp1, by omega, fun r L2 r0 r1 hp2 => ?_⟩
    rw [gup_swap2 hqp]
    walk_at "rr42"
    refine rd_eq (okD_int _) (okD_int _) ?_
    rw [eqD_int]
    refine rd_itei (c := r = 0) (fun c => ?_) (fun c => ?_)
    · walk_at "rr42"
      refine rd_append gup_same (by rw [List.length_map]; omega) ?_
      rw [gup_gup, show xs.map DV.int ++ [DV.int 0] = (xs ++ [0]).map DV.int by rw [List.map_append]; rfl]
      walk_at "rr42"
      refine hf _ _ ⟨xs ++ [0], L2, by rw [List.length_append, hxl]; rfl, fun x hx2 => ?_, hp2.more (by omega), rfl, _, rfl⟩
      rcases List.mem_append.mp hx2 with z | z
      · exact hx x z
      · rw [List.mem_singleton.mp z]; omega
    · walk_at "rr42"
      refine ⟨p, m + 1, _, L2, rfl, rfl, by omega, by omega, by rw [gup_ne hpq]; exact gup_same, hp2, by omega, fun r2 L3 r20 r21 hp3 => ?_⟩
      rw [gup_swap2 hqp]
      walk_at "rr42"
      refine rd_append gup_same (by rw [List.length_map]; omega) ?_
      rw [gup_gup, show xs.map DV.int ++ [DV.int r2] = (xs ++ [r2]).map DV.int by rw [List.map_append]; rfl]
      walk_at "rr42"
      refine hf _ _ ⟨xs ++ [r2], L3, by rw [List.length_append, hxl]; rfl, fun x hx2 => ?_, hp3.more (by omega), rfl, _, rfl⟩
      rcases List.mem_append.mp hx2 with z | z
      · exact hx x z
      · rw [List.mem_singleton.mp z]; omega
  · intro δ g' hI
    obtain ⟨xs, L1, hxl, hx, hp1, eg, v4, e⟩ := hI
    subst eg e
    rw [rangeD_len] at hxl hp1
    walk_at "rr42"
    refine rd_fz rfl gup_same ?_
    rw [gdel_gup (by rw [gup_ne hqp]; exact hq)]
    walk_at "rr42"
    exact dret (k xs L1 hxl hx (hp1.more (by omega)))

abbrev s_qmembers : Stmt := topS 81
abbrev N_qmembers : List Str := ["_law_jug_here", "_law_letters", "_law_total", "_law_most", "_law_turn"]
theorem sc_qmembers : FnScope N_qmembers ["_law_jug_here", "_law_letters", "_law_total", "_law_most"] (defScope s_qmembers) := ⟨rfl, rfl, rfl, by decide +kernel, rfl, by decide +kernel, by decide +kernel⟩
abbrev sp_qmembers (c_KeptMembers c_Lot tb_free_set_in : Addr) : SpD :=
  sp4 fun a b c d g P => ∃ (p : Addr) (l n k : Nat) (m : Int) (L : List DV), a = .ref p ∧ b = .int (l : Int) ∧ 1 ≤ l ∧ l ≤ 8 ∧ c = .int (k : Int) ∧ k ≤ 6 ∧ d = .int m ∧ 1 ≤ m ∧ m ≤ 4 ∧ g p = some (.lst L) ∧ PotL n L ∧ n ≤ 80000 ∧ ∀ (G : List (List Int)) (L' : List DV), Prods l m G → G.length ≤ k → PotL (n + 97) L' → P (.tup ((leastL G).map tI)) (gup g p (.lst L'))

local macro_rules | `(tactic| walk_at "rr43") => `(tactic| (repeat (first | (with_reducible first | refine rd_seq ?_ | refine rd_seqE ?_ | refine rd_next ?_ | refine rd_rtE ?_ | refine rd_nxE ?_ | refine rd_nx ?_ | refine rd_rt ?_ | refine rd_drop ?_ | refine rd_ret ?_ | refine rd_c ?_ | refine rd_op ?_ | refine rd_b ?_ | refine rd_bK ?_ | refine rd_nil ?_ | refine rd_cons ?_ | refine rd_cb ?_ | refine rd_call ?_ | refine rd_sp1 ?_ | refine rd_sp2 ?_ | refine rd_sp3 ?_ | refine rd_add ?_ | refine rd_lc ?_ | refine rd_yes ?_ | refine rd_rng1 ?_ | refine rd_itet ?_ | refine rd_itef ?_ | refine rd_itnt ?_ | refine rd_itnf ?_) | ((with_reducible apply rd_var); (· exact rfl)))))
theorem ok_qmembers {P : Program} {w : World} {K : Fg} {mg : Str → Option Value} {base : Heap} {t_MAX_EXPONENT t_MAX_LETTERS t_MAX_MEMBERS t_MAX_MEMBER_EXPONENT t_MAX_PASSED t_MOST_COUNTED t_MOST_FAR : Tok} {c_KeptMembers c_Lot tb_free_set_in : Addr} {f f_qleast f_qpour f_qproduct : Addr} {fd d_qleast d_qpour d_qproduct : FuncData} (D : Dfn K mg "_law_members" s_qmembers ["_law_jug_here", "_law_letters", "_law_total", "_law_most"] f fd) (T : Txt P K mg t_MAX_EXPONENT t_MAX_LETTERS t_MAX_MEMBERS t_MAX_MEMBER_EXPONENT t_MAX_PASSED t_MOST_COUNTED t_MOST_FAR c_KeptMembers c_Lot tb_free_set_in) (D_qleast : Dfn K mg "_law_least" s_qleast ["_law_products"] f_qleast d_qleast) (G_qleast : FnOk P w K mg base CX0 2 f_qleast d_qleast ["_law_products"] (upSp K (sp_qleast c_KeptMembers c_Lot tb_free_set_in))) (D_qpour : Dfn K mg "_law_pour" s_qpour ["_law_jug_here", "_law_total"] f_qpour d_qpour) (G_qpour : FnOk P w K mg base CX0 1 f_qpour d_qpour ["_law_jug_here", "_law_total"] (upSp K (sp_qpour c_KeptMembers c_Lot tb_free_set_in))) (D_qproduct : Dfn K mg "_law_product" s_qproduct ["_law_jug_here", "_law_letters", "_law_most"] f_qproduct d_qproduct) (G_qproduct : FnOk P w K mg base CX0 2 f_qproduct d_qproduct ["_law_jug_here", "_law_letters", "_law_most"] (upSp K (sp_qproduct c_KeptMembers c_Lot tb_free_set_in))) :
    FnOk P w K mg base CX0 3 f fd ["_law_jug_here", "_law_letters", "_law_total", "_law_most"] (upSp K (sp_qmembers c_KeptMembers c_Lot tb_free_set_in)) := by
  refine fun_okD D.fn sc_qmembers (fun ds g Q h => len4 h) (fun cdv A outer s H E hr => ⟨_, (pds_one (pds_ret (pd_call G_qleast (hr.mono (by decide)) D_qleast.at_ D_qleast.fn.kp D_qleast.bd pass0 (pda_cons (pd_lc (own := [("_law_turn", 4)]) (tg := .nm 4) rfl sc_qmembers.nd (pid_range1 T.b_range (pda_cons (pd_call G_qpour (hr.mono (by decide)) D_qpour.at_ D_qpour.fn.kp D_qpour.bd pass0 (pda_cons (pdv 0) (pda_cons (pd_add (pdv 2) pd_int) pda_nil))) pda_nil)) (blkOk_by (own := [("_law_turn", 4)]) (N := N_qmembers) (sc := defScope s_qmembers) (by decide +kernel)) (fun _ _ _ _ _ => (pgd_nm (i := 4) sc_qmembers.nd)) (fun _ _ _ _ _ => ptsd_nil) (fun _ _ _ _ _ => (pd_call G_qproduct (hr.mono (by decide)) D_qproduct.at_ D_qproduct.fn.kp D_qproduct.bd pass0 (pda_cons (pdv 0) (pda_cons (pdv 1) (pda_cons (pdv 3) pda_nil)))))) pda_nil)))), ?_⟩)
  intro ds g Q h
  obtain ⟨a0, a1, a2, a3, rfl, h⟩ := sp4_of h
  rw [show startD N_qmembers [a0, a1, a2, a3] = [some a0, some a1, some a2, some a3, none] from rfl]
  obtain ⟨p, l, n, k, m, L, e1, e2, l1, hl, e3, hk, e4, m1, m4, hg, hp, hn, kk⟩ := h
  subst e1 e2 e3 e4
  walk_at "rr43"
  refine ⟨p, _, n, L, rfl, rfl, by omega, by omega, hg, hp, by omega, fun r L1 r0 r1 hp1 => ?_⟩
  obtain ⟨j, rfl⟩ := Int.eq_ofNat_of_zero_le r0
  walk_at "rr43"
  refine rd_rng1K (j := (j : Int)) ⟨by omega, by omega⟩ ?_
  refine rd_zK (by rw [rangeD_len]; omega) (comp_invJ (Pd := fun d => ∃ xs : List Int, d = tI xs ∧ xs.length = l ∧ ∀ x ∈ xs, 0 ≤ x ∧ x ≤ m) (fun j g' => ∃ L' : List DV, g' = gup g p (.lst L') ∧ PotL (n + 1 + 16 * j) L') (m := 0) ⟨L1, rfl, hp1⟩ (fun d hd j g' hj hI => ?_) (fun ys g' hl2 hy hI => ?_))
  · obtain ⟨L2, e, hp2⟩ := hI
    subst e
    rw [rangeD_len] at hj
    obtain ⟨i, hi⟩ := List.mem_iff_getElem?.mp hd
    obtain ⟨hil, e⟩ := rangeD_at hi
    subst e
    refine ⟨_, rfl, fun Q2 h2 => ?_⟩
    walk_at "rr43"
    refine ⟨p, l, _, m, L2, rfl, rfl, hl, rfl, m1, m4, gup_same, hp2, by omega, fun xs L3 hx1 hx2 hp3 => ?_⟩
    rw [gup_gup]
    exact h2 _ _ ⟨xs, rfl, hx1, hx2⟩ ⟨L3, rfl, hp3.more (by omega)⟩
  · obtain ⟨L2, e, hp2⟩ := hI
    subst e
    rw [rangeD_len] at hl2 hp2
    obtain ⟨G, e, hG⟩ := tIs_of hy
    subst e
    have hGl : G.length ≤ k := by rw [List.length_map] at hl2; omega
    walk_at "rr43"
    exact ⟨l, m, G, rfl, l1, hl, by omega, hG, by omega, dret (kk G L2 hG hGl (hp2.more (by omega)))⟩

abbrev s_qchoices : Stmt := topS 82
abbrev N_qchoices : List Str := ["_law_top", "_law_bottom", "_law_found", "_law_turn"]
theorem sc_qchoices : FnScope N_qchoices ["_law_top", "_law_bottom"] (defScope s_qchoices) := ⟨rfl, rfl, rfl, by decide +kernel, rfl, by decide +kernel, by decide +kernel⟩
abbrev sp_qchoices (c_KeptMembers c_Lot tb_free_set_in : Addr) : SpD :=
  sp2 fun a b g P => ∃ (x : Int) (k : Nat), a = .int x ∧ b = .int (k : Int) ∧ k ≤ 7 ∧ x.natAbs ≤ 2 ^ 20 ∧ P (.int (bn k x)) g

local macro_rules | `(tactic| walk_at "rr44") => `(tactic| (repeat (first | (with_reducible first | refine rd_seq ?_ | refine rd_seqE ?_ | refine rd_next ?_ | refine rd_rtE ?_ | refine rd_nxE ?_ | refine rd_nx ?_ | refine rd_rt ?_ | refine rd_ct ?_ | refine rd_bk ?_ | refine rd_drop ?_ | refine rd_ret ?_ | refine rd_asg ?_ | refine rd_for ?_ | refine rd_c ?_ | refine rd_op ?_ | refine rd_b ?_ | refine rd_bK ?_ | refine rd_nil ?_ | refine rd_cons ?_ | refine rd_cb ?_ | refine rd_call ?_ | refine rd_sp1 ?_ | refine rd_sp2 ?_ | refine rd_sp3 ?_ | refine rd_add ?_ | refine rd_sub ?_ | refine rd_rng1 ?_ | refine rd_itet ?_ | refine rd_itef ?_ | refine rd_itnt ?_ | refine rd_itnf ?_) | ((with_reducible apply rd_var); (· exact rfl)) | ((with_reducible apply rd_asgK); (· exact rfl)))))
theorem ok_qchoices {P : Program} {w : World} {K : Fg} {mg : Str → Option Value} {base : Heap} {t_MAX_EXPONENT t_MAX_LETTERS t_MAX_MEMBERS t_MAX_MEMBER_EXPONENT t_MAX_PASSED t_MOST_COUNTED t_MOST_FAR : Tok} {c_KeptMembers c_Lot tb_free_set_in : Addr} {f : Addr} {fd : FuncData} (D : Dfn K mg "_law_choices" s_qchoices ["_law_top", "_law_bottom"] f fd) (T : Txt P K mg t_MAX_EXPONENT t_MAX_LETTERS t_MAX_MEMBERS t_MAX_MEMBER_EXPONENT t_MAX_PASSED t_MOST_COUNTED t_MOST_FAR c_KeptMembers c_Lot tb_free_set_in) :
    FnOk P w K mg base CX0 1 f fd ["_law_top", "_law_bottom"] (upSp K (sp_qchoices c_KeptMembers c_Lot tb_free_set_in)) := by
  refine fun_okD D.fn sc_qchoices (fun ds g Q h => len2 h) (fun cdv A outer s H E hr => ⟨_, (pds_cons (pds_set (i := 2) sc_qchoices.nd pd_int) (pds_cons (pds_for (tg := .nm 3) PassesOwn.never rfl (pid_range1 T.b_range (pda_cons (pdv 1) pda_nil)) (pgd_nm (i := 3) sc_qchoices.nd) (pds_one (pds_set (i := 2) sc_qchoices.nd (pd_fdiv (pd_mulI (pdv 2) (pd_sub (pdv 0) (pdv 3))) (pd_add (pdv 3) pd_int))))) (pds_one (pds_ret (pdv 2))))), ?_⟩)
  intro ds g Q h
  obtain ⟨a0, a1, rfl, h⟩ := sp2_of h
  rw [show startD N_qchoices [a0, a1] = [some a0, some a1, none, none] from rfl]
  obtain ⟨x, m, e1, e2, hm, hx, k⟩ := h
  subst e1 e2
  walk_at "rr44"
  refine rd_rng1K (j := (m : Int)) ⟨by omega, by omega⟩ ?_
  rw [Int.toNat_natCast]
  refine rd_loopX (I := fun i δ g' => g' = g ∧ ∃ v1, δ = [some (.int x), some (.int (m : Int)), some (.int (bn i x)), v1]) ⟨rfl, _, by rw [bn_zero]; rfl⟩ ?_ ?_
  · intro i d hd δ g' f hf hI
    obtain ⟨eg, v1, e⟩ := hI
    subst eg e
    obtain ⟨hil, e⟩ := rangeD_at hd
    subst e
    refine ⟨_, rfl, ?_⟩
    walk_at "rr44"
    refine rd_rI (mul_ok (bn_abs hx (by omega)) (b := 21) (by omega) (by omega)) ?_
    walk_at "rr44"
    refine rd_rI (divW (by omega) (by omega)) ?_
    rw [bn_next]
    walk_at "rr44"
    exact hf _ _ ⟨rfl, _, rfl⟩
  · intro δ g' hI
    obtain ⟨eg, v1, e⟩ := hI
    subst eg e
    rw [rangeD_len]
    walk_at "rr44"
    exact dret k

abbrev s_qat : Stmt := topS 83
abbrev N_qat : List Str := ["_law_row", "_law_degree", "_law_at_here", "_law_entry"]
theorem sc_qat : FnScope N_qat ["_law_row", "_law_degree"] (defScope s_qat) := ⟨rfl, rfl, rfl, by decide +kernel, rfl, by decide +kernel, by decide +kernel⟩
abbrev sp_qat (c_KeptMembers c_Lot tb_free_set_in : Addr) : SpD :=
  sp2 fun a b g P => ∃ (r : List Int) (d : Int), a = tI r ∧ b = .int d ∧ r.length ≤ 8 ∧ d.natAbs ≤ 2 ^ 20 ∧ (∀ x ∈ r, x.natAbs ≤ 2 ^ 1000) ∧ P (.int (sumTo (fun j => r.getD j 0 * bn j d) r.length)) g

local macro_rules | `(tactic| walk_at "rr45") => `(tactic| (repeat (first | (with_reducible first | refine rd_seq ?_ | refine rd_seqE ?_ | refine rd_next ?_ | refine rd_rtE ?_ | refine rd_nxE ?_ | refine rd_nx ?_ | refine rd_rt ?_ | refine rd_drop ?_ | refine rd_ret ?_ | refine rd_c ?_ | refine rd_op ?_ | refine rd_b ?_ | refine rd_bK ?_ | refine rd_nil ?_ | refine rd_cons ?_ | refine rd_cb ?_ | refine rd_call ?_ | refine rd_sp1 ?_ | refine rd_sp2 ?_ | refine rd_sp3 ?_ | refine rd_lc ?_ | refine rd_yes ?_ | refine rd_wenT ?_ | refine rd_enK ?_ | refine rd_itet ?_ | refine rd_itef ?_ | refine rd_itnt ?_ | refine rd_itnf ?_) | ((with_reducible apply rd_var); (· exact rfl)))))
theorem ok_qat {P : Program} {w : World} {K : Fg} {mg : Str → Option Value} {base : Heap} {t_MAX_EXPONENT t_MAX_LETTERS t_MAX_MEMBERS t_MAX_MEMBER_EXPONENT t_MAX_PASSED t_MOST_COUNTED t_MOST_FAR : Tok} {c_KeptMembers c_Lot tb_free_set_in : Addr} {f f_qchoices : Addr} {fd d_qchoices : FuncData} (D : Dfn K mg "_law_at" s_qat ["_law_row", "_law_degree"] f fd) (T : Txt P K mg t_MAX_EXPONENT t_MAX_LETTERS t_MAX_MEMBERS t_MAX_MEMBER_EXPONENT t_MAX_PASSED t_MOST_COUNTED t_MOST_FAR c_KeptMembers c_Lot tb_free_set_in) (D_qchoices : Dfn K mg "_law_choices" s_qchoices ["_law_top", "_law_bottom"] f_qchoices d_qchoices) (G_qchoices : FnOk P w K mg base CX0 1 f_qchoices d_qchoices ["_law_top", "_law_bottom"] (upSp K (sp_qchoices c_KeptMembers c_Lot tb_free_set_in))) :
    FnOk P w K mg base CX0 2 f fd ["_law_row", "_law_degree"] (upSp K (sp_qat c_KeptMembers c_Lot tb_free_set_in)) := by
  refine fun_okD D.fn sc_qat (fun ds g Q h => len2 h) (fun cdv A outer s H E hr => ⟨_, (pds_one (pds_ret (pd_callB (cr_sum rfl) ref_sum T.b_sum (by decide +kernel) (pda_cons (pd_lc (own := [("_law_at_here", 2), ("_law_entry", 3)]) (tg := .tp [2, 3]) rfl sc_qat.nd (pid_enT T.b_enumerate (pda_cons (pdv 0) pda_nil)) (blkOk_by (own := [("_law_at_here", 2), ("_law_entry", 3)]) (N := N_qat) (sc := defScope s_qat) (by decide +kernel)) (fun _ _ _ _ _ => (pgd_tp (is := [2, 3]) rfl (pgd_cons (i := 2) (pgd_nm (i := 2) sc_qat.nd) (pgd_cons (i := 3) (pgd_nm (i := 3) sc_qat.nd) pgd_nil)))) (fun _ _ _ _ _ => ptsd_nil) (fun _ _ _ _ _ => (pd_mulI (pdv 3) (pd_call G_qchoices (hr.mono (by decide)) D_qchoices.at_ D_qchoices.fn.kp D_qchoices.bd pass0 (pda_cons (pdv 1) (pda_cons (pdv 2) pda_nil)))))) pda_nil)))), ?_⟩)
  intro ds g Q h
  obtain ⟨a0, a1, rfl, h⟩ := sp2_of h
  rw [show startD N_qat [a0, a1] = [some a0, some a1, none, none] from rfl]
  obtain ⟨r, d, e1, e2, hl, hd, hr, k⟩ := h
  subst e1 e2
  walk_at "rr45"
  refine rd_zK (by rw [en_ints14, List.length_map, List.length_range]; omega) (comp_map (f := lawAt d) (fun x hx => ?_) ?_)
  · rw [en_ints14] at hx
    obtain ⟨i, hi, e⟩ := List.mem_map.mp hx
    rw [List.mem_range] at hi
    subst e
    have hri : (r.getD i 0).natAbs ≤ 2 ^ 1000 := by
      rw [List.getD_eq_getElem?_getD, List.getElem?_eq_getElem hi]
      exact hr _ (List.getElem_mem hi)
    refine ⟨_, rfl, fun Q2 h2 => ?_⟩
    walk_at "rr45"
    refine ⟨d, i, rfl, rfl, by omega, hd, ?_⟩
    walk_at "rr45"
    refine rd_rI (mul_ok hri (bn_abs hd (k := i) (by omega)) (by omega)) ?_
    have h2 : Q2 (.int (r.getD i 0 * bn ((i : Int)).toNat d)) g := h2
    rw [Int.toNat_natCast] at h2
    exact h2
  rw [at_map]
  walk_at "rr45"
  refine rd_sum rfl (intsD_map _) ?_
  rw [at_sum]
  exact dret k

abbrev s_qby_differences : Stmt := topS 84
abbrev N_qby_differences : List Str := ["_law_counts", "_law_start", "_law_size", "_law_turn", "_law_moved", "_law_rows", "_law_found", "_law_at_here", "_law_entry", "_law_lower", "_law_sign", "_law_one", "_law_other"]
theorem sc_qby_differences : FnScope N_qby_differences ["_law_counts", "_law_start", "_law_size"] (defScope s_qby_differences) := ⟨rfl, rfl, rfl, by decide +kernel, rfl, by decide +kernel, by decide +kernel⟩
abbrev sp_qby_differences (c_KeptMembers c_Lot tb_free_set_in : Addr) : SpD :=
  sp3 fun a b c g P => ∃ (cs : List Int) (gg : KF) (s m : Nat), a = tI cs ∧ b = .int (s : Int) ∧ c = .int (m : Int) ∧ m ≤ 8 ∧ s + m ≤ cs.length ∧ cs.length ≤ 41 ∧ (∀ i : Nat, s ≤ i → i < cs.length → cs.getD i 0 = gg i) ∧ (∀ x, dwn m gg x = 0) ∧ (∀ j ≤ 8, (dwn j gg s).natAbs ≤ 2 ^ 1000) ∧ P (tI ((List.range m).map fun j => dwn j gg 0)) g

local macro_rules | `(tactic| walk_at "rr46") => `(tactic| (repeat (first | (with_reducible first | refine rd_seq ?_ | refine rd_seqE ?_ | refine rd_next ?_ | refine rd_rtE ?_ | refine rd_nxE ?_ | refine rd_nx ?_ | refine rd_rt ?_ | refine rd_ct ?_ | refine rd_bk ?_ | refine rd_drop ?_ | refine rd_ret ?_ | refine rd_asg ?_ | refine rd_par ?_ | refine rd_for ?_ | refine rd_c ?_ | refine rd_op ?_ | refine rd_un ?_ | refine rd_b ?_ | refine rd_bK ?_ | refine rd_ifE ?_ | refine rd_nil ?_ | refine rd_cons ?_ | refine rd_lst ?_ | refine rd_lstM ?_ | refine rd_cb ?_ | refine rd_call ?_ | refine rd_sp1 ?_ | refine rd_sp2 ?_ | refine rd_sp3 ?_ | refine rd_int ?_ | refine rd_intb ?_ | refine rd_add ?_ | refine rd_sub ?_ | refine rd_setI ?_ | refine rd_mt ?_ | refine rd_lc ?_ | refine rd_yes ?_ | refine rd_wzip ?_ | refine rd_zipT ?_ | refine rd_rng1 ?_ | refine rd_sl ?_ | refine rd_slT ?_ | refine rd_slL ?_ | refine rd_slS ?_ | refine rd_nopart ?_ | refine rd_part ?_ | refine rd_ptK ?_ | refine rd_ng ?_ | refine rd_repL ?_ | refine rd_repLM ?_ | refine rd_wenL ?_ | refine rd_enKL ?_ | refine rd_itet ?_ | refine rd_itef ?_ | refine rd_itnt ?_ | refine rd_itnf ?_) | ((with_reducible apply rd_var); (· exact rfl)) | ((with_reducible apply rd_asgK); (· exact rfl)) | ((with_reducible apply rd_parK); (· exact rfl)) | ((with_reducible apply rd_tuple); (· (first | assumption | exact seqD_ref (by assumption) | exact seqD_up | exact lstD_ref (by assumption) | exact lstD_up | rfl))) | ((with_reducible apply rd_list); (· (first | assumption | exact seqD_ref (by assumption) | exact seqD_up | exact lstD_ref (by assumption) | exact lstD_up | rfl))) | ((with_reducible apply rd_ix); (· (first | assumption | exact seqD_ref (by assumption) | exact seqD_up | exact lstD_ref (by assumption) | exact lstD_up | rfl)); (· (first | exact atI_c0 _ _ | exact atI_c1 _ _ _ | exact atI_c2 _ _ _ _ | assumption | rfl))) | ((with_reducible apply rd_set30); (· (first | assumption | exact gup_same))) | ((with_reducible apply rd_set32); (· (first | assumption | exact gup_same))) | ((with_reducible apply rd_some); (· (first | assumption | exact seqD_ref (by assumption) | exact seqD_up | exact lstD_ref (by assumption) | exact lstD_up | rfl))))))
theorem ok_qby_differences {P : Program} {w : World} {K : Fg} {mg : Str → Option Value} {base : Heap} {t_MAX_EXPONENT t_MAX_LETTERS t_MAX_MEMBERS t_MAX_MEMBER_EXPONENT t_MAX_PASSED t_MOST_COUNTED t_MOST_FAR : Tok} {c_KeptMembers c_Lot tb_free_set_in : Addr} {f f_qchoices : Addr} {fd d_qchoices : FuncData} (D : Dfn K mg "_law_by_differences" s_qby_differences ["_law_counts", "_law_start", "_law_size"] f fd) (T : Txt P K mg t_MAX_EXPONENT t_MAX_LETTERS t_MAX_MEMBERS t_MAX_MEMBER_EXPONENT t_MAX_PASSED t_MOST_COUNTED t_MOST_FAR c_KeptMembers c_Lot tb_free_set_in) (D_qchoices : Dfn K mg "_law_choices" s_qchoices ["_law_top", "_law_bottom"] f_qchoices d_qchoices) (G_qchoices : FnOk P w K mg base CX0 1 f_qchoices d_qchoices ["_law_top", "_law_bottom"] (upSp K (sp_qchoices c_KeptMembers c_Lot tb_free_set_in))) :
    FnOk P w K mg base CX0 2 f fd ["_law_counts", "_law_start", "_law_size"] (upSp K (sp_qby_differences c_KeptMembers c_Lot tb_free_set_in)) := by
  refine fun_okD D.fn sc_qby_differences (fun ds g Q h => len3 h) (fun cdv A outer s H E hr => ⟨_, (pds_cons (pds_par (i := 5) (j := 6) rfl sc_qby_differences.nd (pda_cons (pd_callTy call_list_of ref_list T.b_list (by decide +kernel) (pda_cons (pd_slice (pdv 0) (pod_some (pdv 1)) (pod_some (pd_add (pd_add (pdv 1) (pdv 2)) pd_int))) pda_nil)) (pda_cons (pd_lstM pda_nil) pda_nil))) (pds_cons (pds_for (tg := .nm 3) PassesOwn.never rfl (pid_range1 T.b_range (pda_cons (pdv 2) pda_nil)) (pgd_nm (i := 3) sc_qby_differences.nd) (pds_cons (pds_expr (pd_append (pdv 6) (pda_cons (pd_ix (pdv 5) pd_int) pda_nil))) (pds_one (pds_setLc (i := 5) (own := [("_law_one", 11), ("_law_other", 12)]) (tg := .tp [11, 12]) rfl sc_qby_differences.nd (sw_true rfl rfl rfl (by decide +kernel)) (pid_zip T.b_zip (pda_cons (pdv 5) (pda_cons (pd_slice (pdv 5) (pod_some pd_int) pod_none) pda_nil))) (blkOk_by (own := [("_law_one", 11), ("_law_other", 12)]) (N := N_qby_differences) (sc := defScope s_qby_differences) (by decide +kernel)) (fun _ _ _ _ _ => (pgd_tp (is := [11, 12]) rfl (pgd_cons (i := 11) (pgd_nm (i := 11) sc_qby_differences.nd) (pgd_cons (i := 12) (pgd_nm (i := 12) sc_qby_differences.nd) pgd_nil)))) (fun _ _ _ _ _ => ptsd_nil) (fun _ _ _ _ _ => (pd_sub (pdv 12) (pdv 11))))))) (pds_fz 6 (pds_cons (pds_set (i := 4) sc_qby_differences.nd (pd_repLM (pda_cons pd_int pda_nil) (pdv 2))) (pds_cons (pds_for (tg := .tp [7, 8]) PassesOwn.never rfl (pid_enL T.b_enumerate (pda_cons (pdv 6) pda_nil)) (pgd_tp (is := [7, 8]) rfl (pgd_cons (i := 7) (pgd_nm (i := 7) sc_qby_differences.nd) (pgd_cons (i := 8) (pgd_nm (i := 8) sc_qby_differences.nd) pgd_nil))) (pds_one (pds_for (tg := .nm 9) PassesOwn.never rfl (pid_range1 T.b_range (pda_cons (pd_add (pdv 7) pd_int) pda_nil)) (pgd_nm (i := 9) sc_qby_differences.nd) (pds_cons (pds_set (i := 10) sc_qby_differences.nd (pd_ifExp (pt_cmpD (op_eqD hr.units) (RefCmp.op ref_eq) (pd_mod (pd_callTy call_int1 ref_int T.b_int (by decide +kernel) (pda_cons (pd_sub (pdv 7) (pdv 9)) pda_nil)) pd_int) pd_int (nomark _)) (pd_neg pd_int) pd_int)) (pds_one (pds_setI (pd_add (pd_ix (pdv 4) (pdv 9)) (pd_mulI (pd_mulI (pdv 8) (pdv 10)) (pd_call G_qchoices (hr.mono (by decide)) D_qchoices.at_ D_qchoices.fn.kp D_qchoices.bd pass0 (pda_cons (pd_sub (pd_sub (pd_add (pdv 1) (pdv 7)) (pdv 9)) pd_int) (pda_cons (pd_sub (pdv 7) (pdv 9)) pda_nil))))) (pdv 4) (pdv 9))))))) (pds_one (pds_ret (pd_callTy call_tuple_of ref_tuple T.b_tuple (by decide +kernel) (pda_cons (pdv 4) pda_nil))))))))), ?_⟩)
  intro ds g Q h
  obtain ⟨a0, a1, a2, rfl, h⟩ := sp3_of h
  rw [show startD N_qby_differences [a0, a1, a2] = [some a0, some a1, some a2, none, none, none, none, none, none, none, none, none, none] from rfl]
  obtain ⟨cs, gg, s, m, e1, e2, e3, hm, hsm, hcl, hcs, hz, hbd, k⟩ := h
  subst e1 e2 e3
  walk_at "rr46"
  rw [show (s : Int) + (m : Int) + 1 = ((s + m + 1 : Nat) : Int) by omega, counts_cut hcs (by omega)]
  walk_at "rr46"
  refine rd_zK (by show 0 ≤ 16777216; decide) ?_
  intro q hq
  walk_at "rr46"
  refine rd_rng1K (j := (m : Int)) ⟨by omega, by omega⟩ ?_
  rw [Int.toNat_natCast]
  refine rd_loopX (I := fun i δ g' => i ≤ m ∧ g' = gup g q (.lst ((rowL gg s i).map DV.int)) ∧ ∃ v3 v11 v12, δ = [some (tI cs), some (.int (s : Int)), some (.int (m : Int)), v3, none, some (.lst ((dwL i gg s (min (s + m + 1) cs.length - s - i)).map DV.int)), some (.ref q), none, none, none, none, v11, v12]) ⟨Nat.zero_le _, rfl, _, _, _, rfl⟩ ?_ ?_
  · intro i d hd δ g' f hf hI
    obtain ⟨him, eg, v3, v11, v12, e⟩ := hI
    subst eg e
    obtain ⟨hil, e⟩ := rangeD_at hd
    subst e
    refine ⟨_, rfl, ?_⟩
    walk_at "rr46"
    (with_reducible apply rd_ix)
    · rfl
    · exact atI_dwL (by omega)
    walk_at "rr46"
    refine rd_append gup_same (by rw [List.length_map, rowL_len]; omega) ?_
    rw [gup_gup, rowL_D]
    walk_at "rr46"
    rw [cutD_dr1]
    walk_at "rr46"
    refine rd_zipL13 ?_
    refine rd_zK (by have := dwL_len i gg s (min (s + m + 1) cs.length - s - i); rw [zipD_len, List.length_map]; omega) (comp_map (f := dfD) (fun d hd => ?_) ?_)
    · rw [← List.map_drop] at hd
      obtain ⟨x, y, e⟩ := zipI_mem hd
      subst e
      refine ⟨_, rfl, fun Q2 h3 => ?_⟩
      walk_at "rr46"
      exact h3
    rw [dwL_step]
    walk_at "rr46"
    exact hf _ _ ⟨by omega, rfl, _, _, _, by rw [show min (s + m + 1) cs.length - s - (i + 1) = min (s + m + 1) cs.length - s - i - 1 by omega]; rfl⟩
  intro δ g' hI
  obtain ⟨him, eg, v3, v11, v12, e⟩ := hI
  subst eg e
  rw [rangeD_len] at him ⊢
  walk_at "rr46"
  refine rd_fz rfl gup_same ?_
  rw [gdel_gup hq]
  walk_at "rr46"
  refine ⟨by decide, ?_⟩
  walk_at "rr46"
  refine ⟨(m : Int), rfl, by omega, by omega, fun q2 hq2 => ?_⟩
  rw [Int.toNat_natCast, rep_flat, ← mvL_0 gg s m]
  walk_at "rr46"
  refine rd_loopX (I := fun a δ g' => a ≤ m ∧ g' = gup g q2 (.lst ((mvL gg s m a 0).map DV.int)) ∧ ∃ v3 v5 v7 v8 v9 v10 v11 v12, δ = [some (tI cs), some (.int (s : Int)), some (.int (m : Int)), v3, some (.ref q2), v5, some (.lst ((rowL gg s m).map DV.int)), v7, v8, v9, v10, v11, v12]) ⟨Nat.zero_le _, rfl, _, _, _, _, _, _, _, _, rfl⟩ ?_ ?_
  · intro a d hd δ g' f hf hI
    obtain ⟨ham, eg, v3, v5, v7, v8, v9, v10, v11, v12, e⟩ := hI
    subst eg e
    obtain ⟨hal, e⟩ := enI_at hd
    rw [rowL_len] at hal
    rw [rowL_getD hal] at e
    subst e
    refine ⟨_, rfl, ?_⟩
    walk_at "rr46"
    refine rd_rng1K (j := ((a + 1 : Nat) : Int)) ⟨by omega, by omega⟩ ?_
    rw [Int.toNat_natCast]
    refine rd_loopX (I := fun b δ g' => b ≤ a + 1 ∧ g' = gup g q2 (.lst ((mvL gg s m a b).map DV.int)) ∧ ∃ v9 v10, δ = [some (tI cs), some (.int (s : Int)), some (.int (m : Int)), v3, some (.ref q2), v5, some (.lst ((rowL gg s m).map DV.int)), some (.int (a : Int)), some (.int (dwn a gg s)), v9, v10, v11, v12]) ⟨Nat.zero_le _, rfl, _, _, rfl⟩ ?_ ?_
    · intro b d hd δ g' f2 hf2 hI
      obtain ⟨hbm, eg, v9, v10, e⟩ := hI
      subst eg e
      obtain ⟨hbl, e⟩ := rangeD_at hd
      subst e
      have hba : b ≤ a := by omega
      refine ⟨_, rfl, ?_⟩
      walk_at "rr46"
      refine rd_rI (by decide) ?_
      walk_at "rr46"
      refine rd_eq (okD_int _) (okD_int _) ?_
      rw [eqD_int]
      have esg := sg_is hba
      refine rd_itei (c := ((a : Int) - (b : Int)) % 2 = 1) (fun c => ?_) (fun c => ?_)
      · rw [if_pos (decide_eq_true c)] at esg
        walk_at "rr46"
        (with_reducible apply rd_ix)
        · exact seqD_up
        · exact mvL_at hba hal
        walk_at "rr46"
        refine rd_rI (mul_ok (a := 1000) (b := 0) (hbd a (by omega)) (by decide) (by omega)) ?_
        walk_at "rr46"
        refine ⟨(s : Int) + a - b - 1, a - b, rfl, by rw [show ((a - b : Nat) : Int) = (a : Int) - b by omega], by omega, by omega, ?_⟩
        walk_at "rr46"
        refine rd_rI (mul_ok (a := 1000) (b := 21 * (a - b)) (by rw [Int.natAbs_mul]; exact Nat.le_trans (Nat.mul_le_mul_left _ (show ((-1) : Int).natAbs ≤ 1 by decide)) (by rw [Nat.mul_one]; exact hbd a (by omega))) (bn_abs (by omega) (by omega)) (by omega)) ?_
        rw [show dwn a gg s * (-1) * bn (a - b) ((s : Int) + a - b - 1) = mvF gg s b (a - b) from by rw [mvF_is hba, ← esg]]
        walk_at "rr46"
        refine rd_setK gup_same (ixN_at13 (by rw [List.length_map, mvL_len]; omega)) ?_
        rw [gup_gup, mvL_setD hba hal]
        exact hf2 _ _ ⟨by omega, rfl, _, _, rfl⟩
      · rw [if_neg (by rw [decide_eq_true_eq]; exact c)] at esg
        walk_at "rr46"
        (with_reducible apply rd_ix)
        · exact seqD_up
        · exact mvL_at hba hal
        walk_at "rr46"
        refine rd_rI (mul_ok (a := 1000) (b := 0) (hbd a (by omega)) (by decide) (by omega)) ?_
        walk_at "rr46"
        refine ⟨(s : Int) + a - b - 1, a - b, rfl, by rw [show ((a - b : Nat) : Int) = (a : Int) - b by omega], by omega, by omega, ?_⟩
        walk_at "rr46"
        refine rd_rI (mul_ok (a := 1000) (b := 21 * (a - b)) (by rw [Int.natAbs_mul]; exact Nat.le_trans (Nat.mul_le_mul_left _ (show (1 : Int).natAbs ≤ 1 by decide)) (by rw [Nat.mul_one]; exact hbd a (by omega))) (bn_abs (by omega) (by omega)) (by omega)) ?_
        rw [show dwn a gg s * 1 * bn (a - b) ((s : Int) + a - b - 1) = mvF gg s b (a - b) from by rw [mvF_is hba, ← esg]]
        walk_at "rr46"
        refine rd_setK gup_same (ixN_at13 (by rw [List.length_map, mvL_len]; omega)) ?_
        rw [gup_gup, mvL_setD hba hal]
        exact hf2 _ _ ⟨by omega, rfl, _, _, rfl⟩
    · intro δ g' hI
      obtain ⟨hbm, eg, v9, v10, e⟩ := hI
      subst eg e
      rw [rangeD_len, mvL_up]
      walk_at "rr46"
      exact hf _ _ ⟨by omega, rfl, _, _, _, _, _, _, _, _, rfl⟩
  · intro δ g' hI
    obtain ⟨ham, eg, v3, v5, v7, v8, v9, v10, v11, v12, e⟩ := hI
    subst eg e
    rw [en_ints14, List.length_map, List.length_range, rowL_len, mvL_end hz]
    walk_at "rr46"
    exact ⟨g, gup_subK hq2, k⟩

abbrev s_qquotient_value : Stmt := topS 85
abbrev N_qquotient_value : List Str := ["_law_due", "_law_letters", "_law_size", "_law_row", "_law_degree", "_law_turn", "_law_entry", "_law_found", "_law_total"]
theorem sc_qquotient_value : FnScope N_qquotient_value ["_law_due", "_law_letters", "_law_size"] (defScope s_qquotient_value) := ⟨rfl, rfl, rfl, by decide +kernel, rfl, by decide +kernel, by decide +kernel⟩
abbrev sp_qquotient_value (c_KeptMembers c_Lot tb_free_set_in : Addr) : SpD :=
  sp3 fun a b c g P => ∃ (n : Nat) (z : Int) (ks : List Int) (f : KF) (v : Int), a = fnV ks f ∧ b = .int (n : Int) ∧ c = .int z ∧ n ≤ 8 ∧ 0 ≤ z ∧ z ≤ n ∧ RepC ks f 40 ∧ GQ (n - z.toNat) f v ∧ P (.int v) g

local macro_rules | `(tactic| walk_at "rr47") => `(tactic| (repeat (first | (with_reducible first | refine rd_seq ?_ | refine rd_seqE ?_ | refine rd_next ?_ | refine rd_rtE ?_ | refine rd_nxE ?_ | refine rd_nx ?_ | refine rd_rt ?_ | refine rd_ct ?_ | refine rd_bk ?_ | refine rd_drop ?_ | refine rd_ret ?_ | refine rd_dif ?_ | refine rd_asg ?_ | refine rd_par ?_ | refine rd_for ?_ | refine rd_c ?_ | refine rd_op ?_ | refine rd_un ?_ | refine rd_b ?_ | refine rd_bK ?_ | refine rd_ifE ?_ | refine rd_nil ?_ | refine rd_cons ?_ | refine rd_lst ?_ | refine rd_lstM ?_ | refine rd_cb ?_ | refine rd_call ?_ | refine rd_sp1 ?_ | refine rd_sp2 ?_ | refine rd_sp3 ?_ | refine rd_add ?_ | refine rd_sub ?_ | refine rd_cmp ?_ | refine rd_setI ?_ | refine rd_mt ?_ | refine rd_wseq ?_ | refine rd_wsT ?_ | refine rd_wsL ?_ | refine rd_wsS ?_ | refine rd_rng1 ?_ | refine rd_sl ?_ | refine rd_slT ?_ | refine rd_slL ?_ | refine rd_slS ?_ | refine rd_nopart ?_ | refine rd_part ?_ | refine rd_ptK ?_ | refine rd_ng ?_ | refine rd_dget ?_ | refine rd_repL ?_ | refine rd_repLM ?_ | refine rd_wkK2 ?_ | refine rd_itet ?_ | refine rd_itef ?_ | refine rd_itnt ?_ | refine rd_itnf ?_) | ((with_reducible apply rd_var); (· exact rfl)) | ((with_reducible apply rd_asgK); (· exact rfl)) | ((with_reducible apply rd_parK); (· exact rfl)) | ((with_reducible apply rd_len); (· (first | assumption | exact seqD_ref (by assumption) | exact seqD_up | exact lstD_ref (by assumption) | exact lstD_up | rfl))) | ((with_reducible apply rd_list); (· (first | assumption | exact seqD_ref (by assumption) | exact seqD_up | exact lstD_ref (by assumption) | exact lstD_up | rfl))) | ((with_reducible apply rd_ix); (· (first | assumption | exact seqD_ref (by assumption) | exact seqD_up | exact lstD_ref (by assumption) | exact lstD_up | rfl)); (· (first | exact atI_c0 _ _ | exact atI_c1 _ _ _ | exact atI_c2 _ _ _ _ | assumption | rfl))) | ((with_reducible apply rd_set30); (· (first | assumption | exact gup_same))) | ((with_reducible apply rd_set32); (· (first | assumption | exact gup_same))) | ((with_reducible apply rd_some); (· (first | assumption | exact seqD_ref (by assumption) | exact seqD_up | exact lstD_ref (by assumption) | exact lstD_up | rfl))))))
theorem ok_qquotient_value {P : Program} {w : World} {K : Fg} {mg : Str → Option Value} {base : Heap} {t_MAX_EXPONENT t_MAX_LETTERS t_MAX_MEMBERS t_MAX_MEMBER_EXPONENT t_MAX_PASSED t_MOST_COUNTED t_MOST_FAR : Tok} {c_KeptMembers c_Lot tb_free_set_in : Addr} {f : Addr} {fd : FuncData} (D : Dfn K mg "_law_quotient_value" s_qquotient_value ["_law_due", "_law_letters", "_law_size"] f fd) (T : Txt P K mg t_MAX_EXPONENT t_MAX_LETTERS t_MAX_MEMBERS t_MAX_MEMBER_EXPONENT t_MAX_PASSED t_MOST_COUNTED t_MOST_FAR c_KeptMembers c_Lot tb_free_set_in) :
    FnOk P w K mg base CX0 1 f fd ["_law_due", "_law_letters", "_law_size"] (upSp K (sp_qquotient_value c_KeptMembers c_Lot tb_free_set_in)) := by
  refine fun_okD D.fn sc_qquotient_value (fun ds g Q h => len3 h) (fun cdv A outer s H E hr => ⟨_, (pds_cons (pds_set (i := 3) sc_qquotient_value.nd (pd_repLM (pda_cons pd_int pda_nil) (pd_add (pd_callB (cr_maxS rfl) ref_maxS T.b_max (by decide +kernel) (pda_cons (pd_add (pd_callTy (cr_listK rfl) ref_listK T.b_list (by decide +kernel) (pda_cons (pdv 0) pda_nil)) (pd_lst (pda_cons pd_int pda_nil))) pda_nil)) pd_int))) (pds_cons (pds_for (tg := .nm 4) PassesOwn.never rfl (pid_keysK (pdv 0)) (pgd_nm (i := 4) sc_qquotient_value.nd) (pds_one (pds_setI (pd_dget hr.units (pdv 0) (pdv 4)) (pdv 3) (pdv 4)))) (pds_cons (pds_for (tg := .nm 5) PassesOwn.never rfl (pid_range1 T.b_range (pda_cons (pd_sub (pdv 1) (pdv 2)) pda_nil)) (pgd_nm (i := 5) sc_qquotient_value.nd) (pds_cons (pds_par (i := 7) (j := 8) rfl sc_qquotient_value.nd (pda_cons (pd_lstM pda_nil) (pda_cons pd_int pda_nil))) (pds_cons (pds_for (tg := .nm 6) PassesOwn.never rfl (pid_seq (pd_callTy call_list_of ref_list T.b_list (by decide +kernel) (pda_cons (pdv 3) pda_nil))) (pgd_nm (i := 6) sc_qquotient_value.nd) (pds_cons (pds_set (i := 8) sc_qquotient_value.nd (pd_add (pdv 8) (pdv 6))) (pds_one (pds_expr (pd_append (pdv 7) (pda_cons (pdv 8) pda_nil)))))) (pds_cons (pds_if (pt_cmpD (op_neD hr.units) (RefCmp.op ref_ne) (pd_ix (pdv 7) (pd_neg pd_int)) pd_int (nomark _)) (pds_one (pds_ret pd_non)) pds_nil) (pds_one (pds_set (i := 3) sc_qquotient_value.nd (pd_ifExp (pt_cmpD op_gt (RefCmp.op ref_cmp) (pd_callB call_len_seq ref_len T.b_len (by decide +kernel) (pda_cons (pdv 7) pda_nil)) pd_int (nomark _)) (pd_slice (pdv 7) pod_none (pod_some (pd_neg pd_int))) (pd_lst (pda_cons pd_int pda_nil))))))))) (pds_one (pds_ret (pd_callB (cr_sum rfl) ref_sum T.b_sum (by decide +kernel) (pda_cons (pdv 3) pda_nil))))))), ?_⟩)
  intro ds g Q h
  obtain ⟨a0, a1, a2, rfl, h⟩ := sp3_of h
  rw [show startD N_qquotient_value [a0, a1, a2] = [some a0, some a1, some a2, none, none, none, none, none, none] from rfl]
  obtain ⟨n, z, ks, f, v, e1, e2, e3, hn, hz0, hzn, hr, hv, k⟩ := h
  subst e1 e2 e3
  have hcs : (DV.lst [.int 0]) = .lst [.int 0] := rfl
  walk_at "rr47"
  refine ⟨by decide, ?_⟩
  walk_at "rr47"
  refine rd_listK rfl ?_
  rw [keysK_int]
  walk_at "rr47"
  refine rd_zK (by show 1 ≤ 16777216; decide) ?_
  refine rd_addL (by rw [List.length_map]; have := hr.rep.len (by decide); show _ + 1 ≤ _; omega) ?_
  walk_at "rr47"
  rw [show ks.map DV.int ++ [DV.int 0] = (ks ++ [0]).map DV.int by rw [List.map_append]; rfl]
  refine rd_maxS (ns := ks ++ [0]) rfl (by rw [List.length_append]; show 0 < _ + 1; omega) fun mx hm1 hm2 => ?_
  have hmx0 : 0 ≤ mx := hm2 0 (List.mem_append_right _ (List.mem_singleton.mpr rfl))
  have hmx40 : mx ≤ 40 := (List.mem_append.mp hm1).elim (fun z => (hr.bd mx z).2) (fun z => by rw [List.mem_singleton.mp z]; decide)
  have hout : ∀ d, mx < d → f d = 0 := fun d hd => hr.rep.out d fun z => by have := hm2 d (List.mem_append_left _ z); omega
  obtain ⟨L0, rfl⟩ := Int.eq_ofNat_of_zero_le hmx0
  walk_at "rr47"
  refine ⟨((L0 + 1 : Nat) : Int), rfl, by omega, by omega, fun p hp => ?_⟩
  rw [Int.toNat_natCast, rep_flat]
  walk_at "rr47"
  refine ⟨_, _, rfl, ?_⟩
  rw [keysK_int, ← fillL_0 f]
  refine rd_loopX (I := fun i δ g' => g' = gup g p (.lst ((fillL f (ks.take i) (L0 + 1)).map DV.int)) ∧ ∃ v4, δ = [some (fnV ks f), some (.int (n : Int)), some (.int z), some (.ref p), v4, none, none, none, none]) ⟨rfl, _, rfl⟩ ?_ ?_
  · intro i d hd δ g' ff2 hff hI
    obtain ⟨eg, v4, e⟩ := hI
    subst eg e
    rw [List.getElem?_map] at hd
    obtain ⟨x, hx, e⟩ := Option.map_eq_some_iff.mp hd
    subst e
    have hxm := List.mem_of_getElem? hx
    have hx4 := hr.bd x hxm
    have hxl : x ≤ L0 := hm2 x (List.mem_append_left _ hxm)
    obtain ⟨j, rfl⟩ := Int.eq_ofNat_of_zero_le hx4.1
    refine ⟨_, rfl, ?_⟩
    walk_at "rr47"
    refine ⟨.int (f j), by rw [atV_fi, if_pos hxm], ?_⟩
    walk_at "rr47"
    refine rd_setK gup_same (ixN_at13 (by rw [List.length_map, fillL_len]; omega)) ?_
    rw [gup_gup, fillL_set hx (by omega)]
    exact hff _ _ ⟨rfl, _, rfl⟩
  intro δ g' hI
  obtain ⟨eg, v4, e⟩ := hI
  subst eg e
  rw [List.length_map, List.take_length, fillL_all hr]
  walk_at "rr47"
  obtain ⟨Q0, B, q1, q2, q3, q4⟩ := hv
  rw [show (n : Int) - z = ((n - z.toNat : Nat) : Int) by omega]
  generalize hc : n - z.toNat = c at q3 ⊢
  have hc8 : c ≤ 8 := by omega
  refine rd_rng1K (j := (c : Int)) ⟨by omega, by omega⟩ ?_
  rw [Int.toNat_natCast]
  refine rd_loopX (I := fun t δ g' => t ≤ c ∧ Sub g g' ∧ ∃ (x : DV) (L : Nat), 1 ≤ L ∧ L ≤ 41 ∧ (∀ d, (L : Int) ≤ d → dln (c - t) Q0 d = 0) ∧ lstD g' x = some ((preL (dln (c - t) Q0) L).map DV.int) ∧ ∃ v4 v5 v6 v7 v8, δ = [some (fnV ks f), some (.int (n : Int)), some (.int z), some x, v4, v5, v6, v7, v8]) ?_ ?_ ?_
  · exact ⟨Nat.zero_le _, gup_subK hp, .ref p, L0 + 1, by omega, by omega, fun d hd => by rw [Nat.sub_zero, q3]; exact hout d (by push_cast at hd; omega), by rw [Nat.sub_zero, q3]; exact lstD_up, _, _, _, _, _, rfl⟩
  · intro t d hd δ g' ff2 hff hI
    obtain ⟨htc, hsub, x, L, hL1, hL41, hfar, hx, v4, v5, v6, v7, v8, e⟩ := hI
    subst e
    obtain ⟨htl, e⟩ := rangeD_at hd
    subst e
    refine ⟨_, rfl, ?_⟩
    have ec : c - t = (c - (t + 1)) + 1 := by omega
    rw [ec] at hfar hx
    have hG : ∀ d, (L : Int) - 1 ≤ d → dln (c - (t + 1)) Q0 d = 0 := still_zero (Q := dln (c - (t + 1)) Q0) (B := B + 100) (fun d hd => dln_far q2 _ d (by omega)) hfar
    have hG0 : dln (c - (t + 1)) Q0 (-1) = 0 := dln_neg q1 _ _ (by decide)
    generalize hc2 : c - (t + 1) = c2 at hfar hx hG hG0
    walk_at "rr47"
    refine rd_zK (by show 0 ≤ 16777216; decide) ?_
    intro q hq
    have hxq := lst_seq (lstD_gup (o := .lst []) hx hq)
    walk_at "rr47"
    refine rd_loopX (I := fun i δ g2 => i ≤ L ∧ g2 = gup g' q (.lst ((preL (dln c2 Q0) i).map DV.int)) ∧ ∃ v6, δ = [some (fnV ks f), some (.int (n : Int)), some (.int z), some x, v4, some (.int (t : Int)), v6, some (.ref q), some (.int (dln c2 Q0 ((i : Int) - 1)))]) ?_ ?_ ?_
    · exact ⟨Nat.zero_le _, rfl, _, by rw [show ((0 : Nat) : Int) - 1 = -1 by omega, hG0]; rfl⟩
    · intro i d hd δ g2 ff3 hff3 hI
      obtain ⟨hiL, eg, v6, e⟩ := hI
      subst eg e
      rw [List.getElem?_map] at hd
      obtain ⟨y, hy, e⟩ := Option.map_eq_some_iff.mp hd
      subst e
      have hil : i < L := by have := (List.getElem?_eq_some_iff.mp hy).1; rw [preL_len] at this; exact this
      rw [preL_get hil] at hy
      cases hy
      refine ⟨_, rfl, ?_⟩
      walk_at "rr47"
      refine rd_append gup_same (by rw [List.length_map, preL_len]; omega) ?_
      have es : dln c2 Q0 ((i : Int) - 1) + dln (c2 + 1) Q0 i = dln c2 Q0 i := by
        show _ + (dln c2 Q0 i - dln c2 Q0 ((i : Int) - 1)) = _
        omega
      rw [gup_gup, es, preL_D]
      exact hff3 _ _ ⟨by omega, rfl, _, by rw [show ((i + 1 : Nat) : Int) - 1 = i by omega]; rfl⟩
    intro δ g2 hI
    obtain ⟨hiL, eg, v6, e⟩ := hI
    subst eg e
    rw [List.length_map, preL_len]
    walk_at "rr47"
    (with_reducible apply rd_ix)
    · exact seqD_up
    · exact preL_last hL1
    walk_at "rr47"
    rw [hG _ (by omega)]
    refine rd_neN rfl ?_
    walk_at "rr47"
    rw [List.length_map, preL_len]
    refine rd_itei (c := (1 : Int) < (L : Int)) (fun c1 => ?_) (fun c1 => ?_)
    · walk_at "rr47"
      refine rd_slR gup_same ?_
      rw [preL_cut hL1]
      walk_at "rr47"
      exact hff _ _ ⟨by omega, sub_gup hsub hq, _, L - 1, by omega, by omega, fun d hd => by rw [hc2]; exact hG d (by omega), by rw [hc2]; rfl, _, _, _, _, _, rfl⟩
    · walk_at "rr47"
      refine rd_zK (by show 1 ≤ 16777216; decide) ?_
      have e0 : dln c2 Q0 0 = 0 := hG 0 (by omega)
      walk_at "rr47"
      exact hff _ _ ⟨by omega, sub_gup hsub hq, _, 1, by omega, by omega, fun d hd => by rw [hc2]; exact hG d (by omega), by rw [hc2]; show some [DV.int 0] = some [DV.int (dln c2 Q0 ((0 : Nat) : Int))]; rw [show ((0 : Nat) : Int) = 0 from rfl, e0], _, _, _, _, _, rfl⟩
  intro δ g' hI
  obtain ⟨htc, hsub, x, L, hL1, hL41, hfar, hx, v4, v5, v6, v7, v8, e⟩ := hI
  subst e
  rw [rangeD_len, Nat.sub_self] at hfar hx
  walk_at "rr47"
  refine rd_sum hx (intsD_map _) ?_
  rw [preL_sum, tot_eq hfar q2, show sumTo (fun i => dln 0 Q0 i) B = v from q4]
  exact ⟨g, hsub, k⟩

abbrev s_qright : Stmt := topS 86
abbrev N_qright : List Str := ["_law_jug_here", "_law_letters", "_law_members_here", "_law_lot", "_law_counts", "_law_due", "_law_size", "_law_row", "_law_start", "_law_degree"]
theorem sc_qright : FnScope N_qright ["_law_jug_here"] (defScope s_qright) := ⟨rfl, rfl, rfl, by decide +kernel, rfl, by decide +kernel, by decide +kernel⟩
abbrev sp_qright (c_KeptMembers c_Lot tb_free_set_in : Addr) : SpD :=
  sp1 fun a g P => ∃ (p : Addr) (n : Nat) (L : List DV), a = .ref p ∧ g p = some (.lst L) ∧ PotL n L ∧ n ≤ 50000 ∧ TbG (TT tb_free_set_in) g ∧ ∀ (L' : List DV), PotL (n + 200) L' → P (.bl true) (gup g p (.lst L'))

local macro_rules | `(tactic| walk_at "rr48") => `(tactic| (repeat (first | (with_reducible first | refine rd_seq ?_ | refine rd_seqE ?_ | refine rd_next ?_ | refine rd_rtE ?_ | refine rd_nxE ?_ | refine rd_nx ?_ | refine rd_rt ?_ | refine rd_drop ?_ | refine rd_ret ?_ | refine rd_dif ?_ | refine rd_asg ?_ | refine rd_c ?_ | refine rd_op ?_ | refine rd_un ?_ | refine rd_b ?_ | refine rd_bK ?_ | refine rd_and ?_ | refine rd_or ?_ | refine rd_andV ?_ | refine rd_tvKb ?_ | refine rd_ifE ?_ | refine rd_nil ?_ | refine rd_cons ?_ | refine rd_tup ?_ | refine rd_lst ?_ | refine rd_cb ?_ | refine rd_call ?_ | refine rd_sp1 ?_ | refine rd_sp2 ?_ | refine rd_sp3 ?_ | refine rd_ii ?_ | refine rd_add ?_ | refine rd_sub ?_ | refine rd_cmp ?_ | refine rd_lc ?_ | refine rd_rng2 ?_ | refine rd_ng ?_ | refine rd_newF ?_ | refine rd_mk ?_ | refine rd_itet ?_ | refine rd_itef ?_ | refine rd_itnt ?_ | refine rd_itnf ?_) | ((with_reducible apply rd_var); (· exact rfl)) | ((with_reducible apply rd_asgK); (· exact rfl)) | ((with_reducible apply rd_len); (· (first | assumption | exact seqD_ref (by assumption) | exact seqD_up | exact lstD_ref (by assumption) | exact lstD_up | rfl))) | ((with_reducible apply rd_ix); (· (first | assumption | exact seqD_ref (by assumption) | exact seqD_up | exact lstD_ref (by assumption) | exact lstD_up | rfl)); (· (first | exact atI_c0 _ _ | exact atI_c1 _ _ _ | exact atI_c2 _ _ _ _ | assumption | rfl))))))
theorem ok_qright {P : Program} {w : World} {K : Fg} {mg : Str → Option Value} {base : Heap} {t_MAX_EXPONENT t_MAX_LETTERS t_MAX_MEMBERS t_MAX_MEMBER_EXPONENT t_MAX_PASSED t_MOST_COUNTED t_MOST_FAR : Tok} {c_KeptMembers c_Lot tb_free_set_in : Addr} {f cc_qright f_qquotient_value f_weight cc_weight f_qby_differences f_count_at f_qat f_left_counts f_steady_degree f_steady_row cc_steady_row f_dimension cc_dimension f_numerator f_qmembers f_qtaken f_qpour f_Lot___init__ : Addr} {fd d_qquotient_value d_weight d_qby_differences d_count_at d_qat d_left_counts d_steady_degree d_steady_row d_dimension d_numerator d_qmembers d_qtaken d_qpour d_Lot___init__ : FuncData} (D : DfnC K mg "_law_right" s_qright ["_law_jug_here"] f fd cc_qright) (T : Txt P K mg t_MAX_EXPONENT t_MAX_LETTERS t_MAX_MEMBERS t_MAX_MEMBER_EXPONENT t_MAX_PASSED t_MOST_COUNTED t_MOST_FAR c_KeptMembers c_Lot tb_free_set_in) (D_qquotient_value : Dfn K mg "_law_quotient_value" s_qquotient_value ["_law_due", "_law_letters", "_law_size"] f_qquotient_value d_qquotient_value) (G_qquotient_value : FnOk P w K mg base CX0 1 f_qquotient_value d_qquotient_value ["_law_due", "_law_letters", "_law_size"] (upSp K (sp_qquotient_value c_KeptMembers c_Lot tb_free_set_in))) (D_weight : DfnC K mg "weight" s_weight ["lot"] f_weight d_weight cc_weight) (G_weight : FnG P w K mg base 73 f_weight d_weight ["lot"] (upSp K (sp_weight c_KeptMembers c_Lot tb_free_set_in))) (D_qby_differences : Dfn K mg "_law_by_differences" s_qby_differences ["_law_counts", "_law_start", "_law_size"] f_qby_differences d_qby_differences) (G_qby_differences : FnOk P w K mg base CX0 2 f_qby_differences d_qby_differences ["_law_counts", "_law_start", "_law_size"] (upSp K (sp_qby_differences c_KeptMembers c_Lot tb_free_set_in))) (D_count_at : Dfn K mg "count_at" s_count_at ["lot", "degree"] f_count_at d_count_at) (G_count_at : FnOk P w K mg base CX0 71 f_count_at d_count_at ["lot", "degree"] (upSp K (sp_count_at c_KeptMembers c_Lot tb_free_set_in))) (D_qat : Dfn K mg "_law_at" s_qat ["_law_row", "_law_degree"] f_qat d_qat) (G_qat : FnOk P w K mg base CX0 2 f_qat d_qat ["_law_row", "_law_degree"] (upSp K (sp_qat c_KeptMembers c_Lot tb_free_set_in))) (D_left_counts : Dfn K mg "left_counts" s_left_counts ["lot", "last"] f_left_counts d_left_counts) (G_left_counts : FnOk P w K mg base CX0 71 f_left_counts d_left_counts ["lot", "last"] (upSp K (sp_left_counts c_KeptMembers c_Lot tb_free_set_in))) (D_steady_degree : Dfn K mg "steady_degree" s_steady_degree ["lot"] f_steady_degree d_steady_degree) (G_steady_degree : FnOk P w K mg base CX0 72 f_steady_degree d_steady_degree ["lot"] (upSp K (sp_steady_degree c_KeptMembers c_Lot tb_free_set_in))) (D_steady_row : DfnC K mg "steady_row" s_steady_row ["lot"] f_steady_row d_steady_row cc_steady_row) (G_steady_row : FnG P w K mg base 72 f_steady_row d_steady_row ["lot"] (upSp K (sp_steady_row c_KeptMembers c_Lot tb_free_set_in))) (D_dimension : DfnC K mg "dimension" s_dimension ["lot"] f_dimension d_dimension cc_dimension) (G_dimension : FnG P w K mg base 6 f_dimension d_dimension ["lot"] (upSp K (sp_dimension c_KeptMembers c_Lot tb_free_set_in))) (D_numerator : Dfn K mg "numerator" s_numerator ["lot"] f_numerator d_numerator) (G_numerator : FnOk P w K mg base CX0 71 f_numerator d_numerator ["lot"] (upSp K (sp_numerator c_KeptMembers c_Lot tb_free_set_in))) (D_qmembers : Dfn K mg "_law_members" s_qmembers ["_law_jug_here", "_law_letters", "_law_total", "_law_most"] f_qmembers d_qmembers) (G_qmembers : FnOk P w K mg base CX0 3 f_qmembers d_qmembers ["_law_jug_here", "_law_letters", "_law_total", "_law_most"] (upSp K (sp_qmembers c_KeptMembers c_Lot tb_free_set_in))) (D_qtaken : Dfn K mg "_law_taken" s_qtaken ["_law_jug_here", "_law_items"] f_qtaken d_qtaken) (G_qtaken : FnOk P w K mg base CX0 2 f_qtaken d_qtaken ["_law_jug_here", "_law_items"] (upSp K (sp_qtaken c_KeptMembers c_Lot tb_free_set_in))) (D_qpour : Dfn K mg "_law_pour" s_qpour ["_law_jug_here", "_law_total"] f_qpour d_qpour) (G_qpour : FnOk P w K mg base CX0 1 f_qpour d_qpour ["_law_jug_here", "_law_total"] (upSp K (sp_qpour c_KeptMembers c_Lot tb_free_set_in))) (D_Lot___init__ : Mtd K c_Lot "__init__" "Lot.__init__" s_Lot___init__ ["self", "letters", "members"] f_Lot___init__ d_Lot___init__) (G_Lot___init__ : FnOk P w K mg base CX0 5 f_Lot___init__ d_Lot___init__ ["self", "letters", "members"] (upSp K (sp_Lot___init__ c_KeptMembers c_Lot tb_free_set_in))) :
    FnG P w K mg base 74 f fd ["_law_jug_here"] (upSp K (sp_qright c_KeptMembers c_Lot tb_free_set_in)) := by
  refine fun_okG D.fn sc_qright (fun ds g Q h => len1 h) (fun A outer s H E hr hgd => ⟨_, (pds_cons (pds_set (i := 1) sc_qright.nd (pd_add pd_int (pd_call G_qpour (hr.mono (by decide)) D_qpour.at_ D_qpour.fn.kp D_qpour.bd pass0 (pda_cons (pdv 0) (pda_cons pd_int pda_nil))))) (pds_cons (pds_set (i := 2) sc_qright.nd (pd_call G_qmembers (hr.mono (by decide)) D_qmembers.at_ D_qmembers.fn.kp D_qmembers.bd pass0 (pda_cons (pdv 0) (pda_cons (pdv 1) (pda_cons pd_int (pda_cons (pd_call G_qtaken (hr.mono (by decide)) D_qtaken.at_ D_qtaken.fn.kp D_qtaken.bd pass0 (pda_cons (pdv 0) (pda_cons (pd_lst (pda_cons pd_int (pda_cons pd_int (pda_cons pd_int pda_nil)))) pda_nil))) pda_nil)))))) (pds_cons (pds_set (i := 3) sc_qright.nd (pd_mk (mtd_mk D_Lot___init__ T.F_Lot) (FnOk_r0 G_Lot___init__ D_Lot___init__.bd) (hr.mono (by decide)) T.g_Lot (pda_cons (pdv 1) (pda_cons (pdv 2) pda_nil)))) (pds_cons (pds_setT (tg := .tp [5, 6, 7, 8]) (pgd_tp (is := [5, 6, 7, 8]) rfl (pgd_cons (i := 5) (pgd_nm (i := 5) sc_qright.nd) (pgd_cons (i := 6) (pgd_nm (i := 6) sc_qright.nd) (pgd_cons (i := 7) (pgd_nm (i := 7) sc_qright.nd) (pgd_cons (i := 8) (pgd_nm (i := 8) sc_qright.nd) pgd_nil))))) (pd_tup (pda_cons (pd_call G_numerator (hr.mono (by decide)) D_numerator.at_ D_numerator.fn.kp D_numerator.bd pass0 (pda_cons (pdv 3) pda_nil)) (pda_cons (pd_callG G_dimension (hr.mono (by decide)) hgd D_dimension.at_ D_dimension.fn.kp D_dimension.bd (pda_cons (pdv 3) pda_nil)) (pda_cons (pd_callG G_steady_row (hr.mono (by decide)) hgd D_steady_row.at_ D_steady_row.fn.kp D_steady_row.bd (pda_cons (pdv 3) pda_nil)) (pda_cons (pd_call G_steady_degree (hr.mono (by decide)) D_steady_degree.at_ D_steady_degree.fn.kp D_steady_degree.bd pass0 (pda_cons (pdv 3) pda_nil)) pda_nil)))))) (pds_cons (pds_if (pwd_pt (pwd_or (pt_cmpD (op_neD hr.units) (RefCmp.op ref_ne) (pd_callB call_len_seq ref_len T.b_len (by decide +kernel) (pda_cons (pdv 7) pda_nil)) (pd_callB (call_max2 rfl) ref_II T.b_max (by decide +kernel) (pda_cons pd_int (pda_cons (pdv 6) pda_nil))) (nomark _)) (pwd_or1 (pt_cmpD op_gt (RefCmp.op ref_cmp) (pdv 8) (pd_callB (call_max2 rfl) ref_II T.b_max (by decide +kernel) (pda_cons pd_int (pda_cons (pd_add (pd_sub (pd_callB (cr_maxS rfl) ref_maxS T.b_max (by decide +kernel) (pda_cons (pd_add (pd_callTy (cr_listK rfl) ref_listK T.b_list (by decide +kernel) (pda_cons (pdv 5) pda_nil)) (pd_lst (pda_cons pd_int pda_nil))) pda_nil)) (pdv 1)) pd_int) pda_nil))) (nomark _))))) (pds_one (pds_ret pd_bl)) pds_nil) (pds_cons (pds_set (i := 4) sc_qright.nd (pd_call G_left_counts (hr.mono (by decide)) D_left_counts.at_ D_left_counts.fn.kp D_left_counts.bd pass0 (pda_cons (pdv 3) (pda_cons pd_int pda_nil)))) (pds_cons (pds_if (pt_cmpD (op_neD hr.units) (RefCmp.op ref_ne) (pd_lc (own := [("_law_degree", 9)]) (tg := .nm 9) rfl sc_qright.nd (pid_range2 T.b_range (pda_cons (pdv 8) (pda_cons pd_int pda_nil))) (blkOk_by (own := [("_law_degree", 9)]) (N := N_qright) (sc := defScope s_qright) (by decide +kernel)) (fun _ _ _ _ _ => (pgd_nm (i := 9) sc_qright.nd)) (fun _ _ _ _ _ => (ptsd_one (pt_cmpD (op_neD hr.units) (RefCmp.op ref_ne) (pd_ix (pdv 4) (pdv 9)) (pd_call G_qat (hr.mono (by decide)) D_qat.at_ D_qat.fn.kp D_qat.bd pass0 (pda_cons (pdv 7) (pda_cons (pdv 9) pda_nil))) (nomark _)))) (fun _ _ _ _ _ => (pdv 9))) (pd_lst pda_nil) (nomark _)) (pds_one (pds_ret pd_bl)) pds_nil) (pds_cons (pds_if (pwd_pt (pwd_or (pwd_pt (pwd_and (pt_cmpD op_gt (RefCmp.op ref_cmp) (pdv 8) pd_int (nomark _)) (pwd_and1 (pt_cmpD (op_eqD hr.units) (RefCmp.op ref_eq) (pd_ix (pdv 4) (pd_sub (pdv 8) pd_int)) (pd_call G_qat (hr.mono (by decide)) D_qat.at_ D_qat.fn.kp D_qat.bd pass0 (pda_cons (pdv 7) (pda_cons (pd_sub (pdv 8) pd_int) pda_nil))) (nomark _))))) (pwd_or1 (pt_cmpD (op_neD hr.units) (RefCmp.op ref_ne) (pd_call G_count_at (hr.mono (by decide)) D_count_at.at_ D_count_at.fn.kp D_count_at.bd pass0 (pda_cons (pdv 3) (pda_cons pd_int pda_nil))) (pd_call G_qat (hr.mono (by decide)) D_qat.at_ D_qat.fn.kp D_qat.bd pass0 (pda_cons (pdv 7) (pda_cons pd_int pda_nil))) (nomark _))))) (pds_one (pds_ret pd_bl)) pds_nil) (pds_cons (pds_if (pt_cmpD (op_neD hr.units) (RefCmp.op ref_ne) (pdv 7) (pd_call G_qby_differences (hr.mono (by decide)) D_qby_differences.at_ D_qby_differences.fn.kp D_qby_differences.bd pass0 (pda_cons (pdv 4) (pda_cons (pdv 8) (pda_cons (pd_callB (call_max2 rfl) ref_II T.b_max (by decide +kernel) (pda_cons pd_int (pda_cons (pdv 6) pda_nil))) pda_nil)))) (nomark _)) (pds_one (pds_ret pd_bl)) pds_nil) (pds_cons (pds_if (pt_cmpD (op_eqD hr.units) (RefCmp.op ref_eq) (pdv 6) (pd_neg pd_int) (nomark _)) (pds_one (pds_ret (pd_and (pd_cmp (op_eqD hr.units) (RefCmp.op ref_eq) (pd_callG G_weight (hr.mono (by decide)) hgd D_weight.at_ D_weight.fn.kp D_weight.bd (pda_cons (pdv 3) pda_nil)) pd_int (nomark _)) (pd_and (pd_cmp (op_eqK (units65 hr)) (RefCmp.op ref_eqK) (pdv 5) pd_newF (nomark _)) (pd_one (pd_cmp (op_eqD hr.units) (RefCmp.op ref_eq) (pdv 8) pd_int (nomark _))))))) pds_nil) (pds_cons (pds_if (pwd_pt (pwd_or (pt_cmpD (op_neD hr.units) (RefCmp.op ref_ne) (pd_callG G_weight (hr.mono (by decide)) hgd D_weight.at_ D_weight.fn.kp D_weight.bd (pda_cons (pdv 3) pda_nil)) (pd_ifExp (pt_cmpD op_gt (RefCmp.op ref_cmp) (pdv 6) pd_int (nomark _)) (pd_ix (pdv 7) (pd_neg pd_int)) (pd_callB (cr_sumS rfl) ref_sumS T.b_sum (by decide +kernel) (pda_cons (pdv 4) pda_nil))) (nomark _)) (pwd_or1 (pt_cmpD op_lt (RefCmp.op ref_cmp) (pd_callG G_weight (hr.mono (by decide)) hgd D_weight.at_ D_weight.fn.kp D_weight.bd (pda_cons (pdv 3) pda_nil)) pd_int (nomark _))))) (pds_one (pds_ret pd_bl)) pds_nil) (pds_one (pds_ret (pd_cmp (op_eqD hr.units) (RefCmp.op ref_eq) (pd_call G_qquotient_value (hr.mono (by decide)) D_qquotient_value.at_ D_qquotient_value.fn.kp D_qquotient_value.bd pass0 (pda_cons (pdv 5) (pda_cons (pdv 1) (pda_cons (pdv 6) pda_nil)))) (pd_callG G_weight (hr.mono (by decide)) hgd D_weight.at_ D_weight.fn.kp D_weight.bd (pda_cons (pdv 3) pda_nil)) (nomark _))))))))))))))), ?_⟩)
  intro ds g Q h
  obtain ⟨a0, rfl, h⟩ := sp1_of h
  rw [show startD N_qright [a0] = [some a0, none, none, none, none, none, none, none, none, none] from rfl]
  obtain ⟨p, k0, L, e1, hg, hp, hn, hT0, k⟩ := h
  subst e1
  walk_at "rr48"
  refine ⟨p, 5, k0, L, rfl, rfl, by decide, by decide, hg, hp, by omega, fun r L1 r0 r1 hp1 => ?_⟩
  obtain ⟨n, hd⟩ := Int.eq_ofNat_of_zero_le (a := 1 + r) (by omega)
  have n1 : 1 ≤ n := by omega
  have n8 : n ≤ 8 := by omega
  walk_at "rr48"
  rw [hd]
  refine rd_zK (by show 3 ≤ 16777216; decide) ?_
  walk_at "rr48"
  refine ⟨p, _, _, L1, rfl, rfl, by simp, by show 3 < 100000; decide, gup_same, hp1, by omega, fun x hx L2 hp2 => ?_⟩
  rw [gup_gup]
  obtain ⟨t, e, t1, t4⟩ := pick123 hx
  subst e
  walk_at "rr48"
  refine ⟨p, n, _, 5, t, L2, rfl, rfl, n1, n8, rfl, by decide, rfl, t1, by omega, gup_same, hp2, by omega, fun G L3 hG hGl hp3 => ?_⟩
  rw [gup_gup]
  have hT := hT0.lst hg (es := L3)
  have hG4 : Prods n 4 (leastL G) := (leastL_prods hG).mono (by omega)
  have hGl2 := leastL_le G
  have hMl : (leastL G).length ≤ 24 := by omega
  have hfin := k L3 (hp3.more (by omega))
  generalize gup g p (.lst L3) = g1 at hT hfin ⊢
  walk_at "rr48"
  intro p2 hq2
  walk_at "rr48"
  refine ⟨p2, n, leastL (leastL G), rfl, rfl, n1, n8, .inr ⟨leastL G, rfl, hG4.mono (by decide), by omega, rfl⟩, gup_same, mkK_mk (ds := [.int (n : Int), .tup ((leastL (leastL G)).map tI)]) hq2 (by simp) ?_⟩
  rw [leastL_two]
  generalize leastL G = M at hG4 hMl ⊢
  clear hGl2 hGl hG k
  have hM60 : Prods n 60 M := hG4.mono (by decide)
  walk_at "rr48"
  refine ⟨n, M, rfl, n1, n8, hG4, hMl, fun ks hks => ?_⟩
  walk_at "rr48"
  refine ⟨n, M, rfl, n8, hM60, hMl, hT, ?_⟩
  walk_at "rr48"
  refine ⟨n, M, rfl, n1, n8, hG4, hMl, hT, ?_⟩
  walk_at "rr48"
  refine ⟨n, M, rfl, n1, n8, hG4, hMl, fun st hst => ?_⟩
  walk_at "rr48"
  refine rd_zK (by show 4 ≤ 16777216; decide) ?_
  walk_at "rr48"
  have hz40 : ∀ i, (40 : Int) < i → kp M i = 0 := fun i hi => hks.rep.out i fun z => by have := (hks.bd i z).2; omega
  have hz64 : ∀ i, (64 : Int) ≤ i → kp M i = 0 := fun i hi => hz40 i (by omega)
  have hst40 := hst.le n1 hz40 (by decide)
  have hdn := dimN_le hG4
  rw [max0_dim]
  refine rd_neN (by rw [List.length_map, row_len]) ?_
  walk_at "rr48"
  refine rd_listK rfl ?_
  rw [keysK_int]
  walk_at "rr48"
  refine rd_zK (by show 1 ≤ 16777216; decide) ?_
  refine rd_addL (by rw [List.length_map]; have := hks.rep.len (by decide); show _ + 1 ≤ _; omega) ?_
  walk_at "rr48"
  rw [show ks.map DV.int ++ [DV.int 0] = (ks ++ [0]).map DV.int by rw [List.map_append]; rfl]
  refine rd_maxS (ns := ks ++ [0]) rfl (by rw [List.length_append]; show 0 < _ + 1; omega) fun mx hm1 hm2 => ?_
  walk_at "rr48"
  have hmx0 : 0 ≤ mx := hm2 0 (List.mem_append_right _ (List.mem_singleton.mpr rfl))
  have hmx40 : mx ≤ 40 := (List.mem_append.mp hm1).elim (fun z => (hks.bd mx z).2) (fun z => by rw [List.mem_singleton.mp z]; decide)
  have hstm := hst.le n1 (m := mx) (fun d hd => hks.rep.out d fun z => by have := hm2 d (List.mem_append_left _ z); omega) (by omega)
  rw [decide_eq_false (by split <;> omega)]
  walk_at "rr48"
  refine ⟨n, M, 40, rfl, rfl, by decide, n1, n8, hG4, hMl, ?_⟩
  walk_at "rr48"
  refine rd_rng2K (i := (st : Int)) (j := 41) ⟨by omega, by omega, by omega, by omega⟩ ?_
  refine rd_zK (by rw [rangeD_len]; omega) (comp_fil (p := fun _ => false) (f := fun d => d) (fun d hd => ?_) ?_)
  · obtain ⟨i, hi⟩ := List.mem_iff_getElem?.mp hd
    obtain ⟨hil, e5⟩ := rangeD_from hi
    subst e5
    have ei : (st : Int) + (i : Int) = ((st + i : Nat) : Int) := by omega
    rw [ei]
    refine ⟨_, rfl, fun Q' h' => ?_, fun z => by cases z⟩
    walk_at "rr48"
    (with_reducible apply rd_ix)
    · rfl
    · exact atI_cnt (F := fun d => lc (cn n) (kp M) d) (by omega)
    walk_at "rr48"
    refine ⟨rowI n M, ((st + i : Nat) : Int), rfl, rfl, by rw [row_len]; omega, by omega, row_bd n8 hMl hdn, ?_⟩
    rw [row_val hG4 n1 hz64]
    walk_at "rr48"
    refine rd_ne (okD_int _) (okD_int _) ?_
    rw [eqD_int, decide_eq_true (hst.1 (st + i) (by omega))]
    exact h'
  walk_at "rr48"
  rw [show (((rangeD (st : Int) (41 - (st : Int)).toNat).filter fun _ => false).map fun d : DV => d) = [] by rw [List.map_id']; exact List.filter_eq_nil_iff.mpr fun _ _ z => by cases z]
  refine rd_zK (by show 0 ≤ 16777216; decide) ?_
  refine rd_ne (okD_lI []) (okD_lI []) ?_
  rw [show (!eqD (DV.lst []) (DV.lst [])) = false from rfl]
  walk_at "rr48"
  refine rd_itS ?_ (fun c hB => ?_)
  case refine_2 =>
    have c := of_decide_eq_true c
    walk_at "rr48"
    have e1 : (st : Int) - 1 = ((st - 1 : Nat) : Int) := by omega
    (with_reducible apply rd_ix)
    · rfl
    · rw [e1]; exact atI_cnt (F := fun d => lc (cn n) (kp M) d) (by omega)
    walk_at "rr48"
    refine ⟨rowI n M, (st : Int) - 1, rfl, rfl, by rw [row_len]; omega, by omega, row_bd n8 hMl hdn, ?_⟩
    rw [row_val hG4 n1 hz64]
    walk_at "rr48"
    refine rd_eq (okD_int _) (okD_int _) ?_
    have hne := hst.2 (by omega)
    rw [e1] at hne
    rw [eqD_int, e1, decide_eq_false hne]
    exact hB
  walk_at "rr48"
  refine ⟨n, M, 5000, rfl, rfl, by decide, by decide, n1, n8, hG4, hMl, ?_⟩
  walk_at "rr48"
  refine ⟨rowI n M, 5000, rfl, rfl, by rw [row_len]; omega, by decide, row_bd n8 hMl hdn, ?_⟩
  rw [row_val hG4 n1 hz64]
  walk_at "rr48"
  have h5 : lc (cn n) (kp M) 5000 = sv n (kp M) 5000 := hst.1 5000 (by omega)
  refine rd_neN h5 ?_
  walk_at "rr48"
  refine ⟨(List.range 41).map fun (d : Nat) => lc (cn n) (kp M) d, sv n (kp M), st, dimN n M, cnts_tI n (kp M) 41, rfl, by rw [max0_dim], by omega, by rw [List.length_map, List.length_range]; omega, by rw [List.length_map, List.length_range]; omega, fun i h1 h2 => ?_, dwn_dim hG4 n1 hz64, fun j hj => Nat.le_trans (dws_abs n8 (fun d => kp_abs 24 hMl d) hj (by omega)) (Nat.pow_le_pow_right (by decide) (by decide)), ?_⟩
  · rw [List.length_map, List.length_range] at h2
    rw [cnts_get (F := fun (d : Nat) => lc (cn n) (kp M) d) h2]
    exact hst.1 i h1
  walk_at "rr48"
  refine rd_ne (okD_tI _) (okD_tI _) ?_
  rw [eqD_tI, show ((List.range (dimN n M)).map fun j => dwn j (sv n (kp M)) 0) = rowI n M from rfl, decide_eq_true (rfl : rowI n M = rowI n M)]
  walk_at "rr48"
  refine rd_eq (okD_int _) (okD_int _) ?_
  rw [eqD_int]
  rcases dim_cases hG4 with ⟨hd1, hk0⟩ | ⟨S, v, hS, hdS, hSn, hv1, hv⟩
  · rw [decide_eq_true hd1]
    walk_at "rr48"
    refine ⟨n, M, rfl, n1, n8, hG4, hMl, hT, ?_⟩
    walk_at "rr48"
    refine rd_eq (okD_int _) (okD_int _) ?_
    rw [eqD_int, decide_eq_true (wI_neg n1 hd1 hk0)]
    have hks0 := ks_nil hks hk0
    have hst0 : st = 0 := by have := hst.le n1 (m := -5) (fun d _ => hk0 d) (by decide); omega
    subst hks0 hst0
    walk_at "rr48"
    refine rd_eqK2 (ks := []) (ns := []) (ls := []) (ms := []) ?_
    rw [show kEqB [] [] [] [] = true from rfl]
    walk_at "rr48"
    refine rd_eq (okD_int _) (okD_int _) ?_
    rw [eqD_int, decide_eq_true (by rfl)]
    exact dret hfin
  rw [decide_eq_false (show ¬ dimI n M = -1 by omega)]
  have hwv := wI_Q n1 hz40 hSn hdS hv
  have hQv : GQ (n - (dimI n M).toNat) (kp M) (wI n M) := by rw [hwv, hdS, Int.toNat_natCast]; exact hv
  have hw1 : 1 ≤ wI n M := by rw [hwv]; exact hv1
  walk_at "rr48"
  refine ⟨n, M, rfl, n1, n8, hG4, hMl, hT, ?_⟩
  walk_at "rr48"
  refine rd_itei (c := (0 : Int) < dimI n M) (fun c => ?_) (fun c => ?_)
  · walk_at "rr48"
    (with_reducible apply rd_ix)
    · rfl
    · exact atI_rowI c
    walk_at "rr48"
    refine rd_neN rfl ?_
    walk_at "rr48"
    refine ⟨n, M, rfl, n1, n8, hG4, hMl, hT, ?_⟩
    walk_at "rr48"
    rw [decide_eq_false (by omega)]
    walk_at "rr48"
    refine ⟨n, dimI n M, ks, kp M, wI n M, rfl, rfl, rfl, n8, by omega, by omega, hks, hQv, ?_⟩
    walk_at "rr48"
    refine ⟨n, M, rfl, n1, n8, hG4, hMl, hT, ?_⟩
    walk_at "rr48"
    refine rd_eq (okD_int _) (okD_int _) ?_
    rw [eqD_int, decide_eq_true rfl]
    exact dret hfin
  · rw [cnts_tI]
    walk_at "rr48"
    refine rd_sumS (ns := (List.range 41).map fun (d : Nat) => lc (cn n) (kp M) d) rfl ?_
    rw [sum_range (fun (d : Nat) => lc (cn n) (kp M) d), show sumTo (fun (d : Nat) => lc (cn n) (kp M) d) 41 = wI n M by unfold wI; rw [if_neg c]]
    walk_at "rr48"
    refine rd_neN rfl ?_
    walk_at "rr48"
    refine ⟨n, M, rfl, n1, n8, hG4, hMl, hT, ?_⟩
    walk_at "rr48"
    rw [decide_eq_false (by omega)]
    walk_at "rr48"
    refine ⟨n, dimI n M, ks, kp M, wI n M, rfl, rfl, rfl, n8, by omega, by omega, hks, hQv, ?_⟩
    walk_at "rr48"
    refine ⟨n, M, rfl, n1, n8, hG4, hMl, hT, ?_⟩
    walk_at "rr48"
    refine rd_eq (okD_int _) (okD_int _) ?_
    rw [eqD_int, decide_eq_true rfl]
    exact dret hfin

abbrev s_law : Stmt := topS 87
abbrev N_law : List Str := ["_law_script", "_law_turn", "_law_told", "_law_jug_here", "_law_edges", "_law_squares"]
theorem sc_law : FnScope N_law ["_law_script"] (defScope s_law) := ⟨rfl, rfl, rfl, by decide +kernel, rfl, by decide +kernel, by decide +kernel⟩
abbrev sp_law (c_KeptMembers c_Lot tb_free_set_in : Addr) : SpD :=
  sp1 fun a g P => ∃ ns : List Int, a = .scr ns ∧ TbG (TT tb_free_set_in) g ∧ P (.bl true) g

local macro_rules | `(tactic| walk_at "rr49") => `(tactic| (repeat (first | (with_reducible first | refine rd_seq ?_ | refine rd_seqE ?_ | refine rd_next ?_ | refine rd_rtE ?_ | refine rd_nxE ?_ | refine rd_nx ?_ | refine rd_rt ?_ | refine rd_ct ?_ | refine rd_bk ?_ | refine rd_drop ?_ | refine rd_ret ?_ | refine rd_dif ?_ | refine rd_asg ?_ | refine rd_par ?_ | refine rd_for ?_ | refine rd_c ?_ | refine rd_op ?_ | refine rd_b ?_ | refine rd_bK ?_ | refine rd_tru ?_ | refine rd_tKb ?_ | refine rd_or ?_ | refine rd_not ?_ | refine rd_andV ?_ | refine rd_tvKb ?_ | refine rd_nil ?_ | refine rd_cons ?_ | refine rd_tup ?_ | refine rd_lst ?_ | refine rd_cb ?_ | refine rd_call ?_ | refine rd_sp1 ?_ | refine rd_sp2 ?_ | refine rd_sp3 ?_ | refine rd_ii ?_ | refine rd_rng1 ?_ | refine rd_mk ?_ | refine rd_itet ?_ | refine rd_itef ?_ | refine rd_itnt ?_ | refine rd_itnf ?_) | ((with_reducible apply rd_var); (· exact rfl)) | ((with_reducible apply rd_asgK); (· exact rfl)) | ((with_reducible apply rd_parK); (· exact rfl)) | ((with_reducible apply rd_len); (· (first | assumption | exact seqD_ref (by assumption) | exact seqD_up | exact lstD_ref (by assumption) | exact lstD_up | rfl))))))
theorem ok_law {P : Program} {w : World} {K : Fg} {mg : Str → Option Value} {base : Heap} {t_MAX_EXPONENT t_MAX_LETTERS t_MAX_MEMBERS t_MAX_MEMBER_EXPONENT t_MAX_PASSED t_MOST_COUNTED t_MOST_FAR : Tok} {c_KeptMembers c_Lot tb_free_set_in : Addr} {f cc_law f_steady_degree f_steady_row cc_steady_row f_weight cc_weight f_dimension cc_dimension f_qright cc_qright f_qjug f_Lot___init__ : Addr} {fd d_steady_degree d_steady_row d_weight d_dimension d_qright d_qjug d_Lot___init__ : FuncData} (D : DfnC K mg "law" s_law ["_law_script"] f fd cc_law) (T : Txt P K mg t_MAX_EXPONENT t_MAX_LETTERS t_MAX_MEMBERS t_MAX_MEMBER_EXPONENT t_MAX_PASSED t_MOST_COUNTED t_MOST_FAR c_KeptMembers c_Lot tb_free_set_in) (D_steady_degree : Dfn K mg "steady_degree" s_steady_degree ["lot"] f_steady_degree d_steady_degree) (G_steady_degree : FnOk P w K mg base CX0 72 f_steady_degree d_steady_degree ["lot"] (upSp K (sp_steady_degree c_KeptMembers c_Lot tb_free_set_in))) (D_steady_row : DfnC K mg "steady_row" s_steady_row ["lot"] f_steady_row d_steady_row cc_steady_row) (G_steady_row : FnG P w K mg base 72 f_steady_row d_steady_row ["lot"] (upSp K (sp_steady_row c_KeptMembers c_Lot tb_free_set_in))) (D_weight : DfnC K mg "weight" s_weight ["lot"] f_weight d_weight cc_weight) (G_weight : FnG P w K mg base 73 f_weight d_weight ["lot"] (upSp K (sp_weight c_KeptMembers c_Lot tb_free_set_in))) (D_dimension : DfnC K mg "dimension" s_dimension ["lot"] f_dimension d_dimension cc_dimension) (G_dimension : FnG P w K mg base 6 f_dimension d_dimension ["lot"] (upSp K (sp_dimension c_KeptMembers c_Lot tb_free_set_in))) (D_qright : DfnC K mg "_law_right" s_qright ["_law_jug_here"] f_qright d_qright cc_qright) (G_qright : FnG P w K mg base 74 f_qright d_qright ["_law_jug_here"] (upSp K (sp_qright c_KeptMembers c_Lot tb_free_set_in))) (D_qjug : Dfn K mg "_law_jug" s_qjug ["_law_script", "_law_turn"] f_qjug d_qjug) (G_qjug : FnOk P w K mg base CX0 1 f_qjug d_qjug ["_law_script", "_law_turn"] (upSp K (sp_qjug c_KeptMembers c_Lot tb_free_set_in))) (D_Lot___init__ : Mtd K c_Lot "__init__" "Lot.__init__" s_Lot___init__ ["self", "letters", "members"] f_Lot___init__ d_Lot___init__) (G_Lot___init__ : FnOk P w K mg base CX0 5 f_Lot___init__ d_Lot___init__ ["self", "letters", "members"] (upSp K (sp_Lot___init__ c_KeptMembers c_Lot tb_free_set_in))) :
    FnG P w K mg base 75 f fd ["_law_script"] (upSp K (sp_law c_KeptMembers c_Lot tb_free_set_in)) := by
  refine fun_okG D.fn sc_law (fun ds g Q h => len1 h) (fun A outer s H E hr hgd => ⟨_, (pds_cons (pds_for (tg := .nm 1) PassesOwn.never rfl (pid_range1 T.b_range (pda_cons (pd_callB (call_max2 rfl) ref_II T.b_max (by decide +kernel) (pda_cons pd_int (pda_cons (pd_callB (call_min2 rfl) ref_II T.b_min (by decide +kernel) (pda_cons pd_int (pda_cons (pd_callB call_len_seq ref_len T.b_len (by decide +kernel) (pda_cons (pdv 0) pda_nil)) pda_nil))) pda_nil))) pda_nil)) (pgd_nm (i := 1) sc_law.nd) (pds_cons (pds_set (i := 3) sc_law.nd (pd_call G_qjug (hr.mono (by decide)) D_qjug.at_ D_qjug.fn.kp D_qjug.bd pass0 (pda_cons (pdv 0) (pda_cons (pdv 1) pda_nil)))) (pds_one (pds_if (pwd_pt (pwd_or (pt_notD (pt_truD (pd_callG G_qright (hr.mono (by decide)) hgd D_qright.at_ D_qright.fn.kp D_qright.bd (pda_cons (pdv 3) pda_nil)))) (pwd_or1 (pt_notD (pt_truD (pd_callG G_qright (hr.mono (by decide)) hgd D_qright.at_ D_qright.fn.kp D_qright.bd (pda_cons (pdv 3) pda_nil))))))) (pds_one (pds_ret pd_bl)) pds_nil)))) (pds_cons (pds_par (i := 4) (j := 5) rfl sc_law.nd (pda_cons (pd_mk (mtd_mk D_Lot___init__ T.F_Lot) (FnOk_r0 G_Lot___init__ D_Lot___init__.bd) (hr.mono (by decide)) T.g_Lot (pda_cons pd_int (pda_cons (pd_tup (pda_cons (pd_tup (pda_cons pd_int (pda_cons pd_int (pda_cons pd_int (pda_cons pd_int pda_nil))))) (pda_cons (pd_tup (pda_cons pd_int (pda_cons pd_int (pda_cons pd_int (pda_cons pd_int pda_nil))))) (pda_cons (pd_tup (pda_cons pd_int (pda_cons pd_int (pda_cons pd_int (pda_cons pd_int pda_nil))))) pda_nil)))) pda_nil))) (pda_cons (pd_mk (mtd_mk D_Lot___init__ T.F_Lot) (FnOk_r0 G_Lot___init__ D_Lot___init__.bd) (hr.mono (by decide)) T.g_Lot (pda_cons pd_int (pda_cons (pd_tup (pda_cons (pd_tup (pda_cons pd_int (pda_cons pd_int pda_nil))) (pda_cons (pd_tup (pda_cons pd_int (pda_cons pd_int pda_nil))) (pda_cons (pd_tup (pda_cons pd_int (pda_cons pd_int pda_nil))) pda_nil)))) pda_nil))) pda_nil))) (pds_cons (pds_set (i := 2) sc_law.nd (pd_lst (pda_cons (pd_callG G_dimension (hr.mono (by decide)) hgd D_dimension.at_ D_dimension.fn.kp D_dimension.bd (pda_cons (pdv 4) pda_nil)) (pda_cons (pd_callG G_weight (hr.mono (by decide)) hgd D_weight.at_ D_weight.fn.kp D_weight.bd (pda_cons (pdv 4) pda_nil)) (pda_cons (pd_callG G_steady_row (hr.mono (by decide)) hgd D_steady_row.at_ D_steady_row.fn.kp D_steady_row.bd (pda_cons (pdv 4) pda_nil)) (pda_cons (pd_call G_steady_degree (hr.mono (by decide)) D_steady_degree.at_ D_steady_degree.fn.kp D_steady_degree.bd pass0 (pda_cons (pdv 4) pda_nil)) (pda_cons (pd_callG G_weight (hr.mono (by decide)) hgd D_weight.at_ D_weight.fn.kp D_weight.bd (pda_cons (pdv 5) pda_nil)) (pda_cons (pd_callG G_steady_row (hr.mono (by decide)) hgd D_steady_row.at_ D_steady_row.fn.kp D_steady_row.bd (pda_cons (pdv 5) pda_nil)) (pda_cons (pd_call G_steady_degree (hr.mono (by decide)) D_steady_degree.at_ D_steady_degree.fn.kp D_steady_degree.bd pass0 (pda_cons (pdv 5) pda_nil)) pda_nil))))))))) (pds_one (pds_ret (pd_and (pd_cmp (op_eqD hr.units) (RefCmp.op ref_eq) (pdv 2) (pd_lst (pda_cons pd_int (pda_cons pd_int (pda_cons (pd_tup (pda_cons pd_int (pda_cons pd_int pda_nil))) (pda_cons pd_int (pda_cons pd_int (pda_cons (pd_tup pda_nil) (pda_cons pd_int pda_nil)))))))) (nomark _)) (pd_and (pd_cmp (op_eqD hr.units) (RefCmp.op ref_eq) (pd_callG G_steady_row (hr.mono (by decide)) hgd D_steady_row.at_ D_steady_row.fn.kp D_steady_row.bd (pda_cons (pd_mk (mtd_mk D_Lot___init__ T.F_Lot) (FnOk_r0 G_Lot___init__ D_Lot___init__.bd) (hr.mono (by decide)) T.g_Lot (pda_cons pd_int (pda_cons (pd_tup pda_nil) pda_nil))) pda_nil)) (pd_tup (pda_cons pd_int (pda_cons pd_int pda_nil))) (nomark _)) (pd_one (pd_cmp (op_eqD hr.units) (RefCmp.op ref_eq) (pd_call G_steady_degree (hr.mono (by decide)) D_steady_degree.at_ D_steady_degree.fn.kp D_steady_degree.bd pass0 (pda_cons (pd_mk (mtd_mk D_Lot___init__ T.F_Lot) (FnOk_r0 G_Lot___init__ D_Lot___init__.bd) (hr.mono (by decide)) T.g_Lot (pda_cons pd_int (pda_cons (pd_tup (pda_cons (pd_tup (pda_cons pd_int (pda_cons pd_int pda_nil))) pda_nil)) pda_nil))) pda_nil)) pd_int (nomark _)))))))))), ?_⟩)
  intro ds g Q h
  obtain ⟨a0, rfl, h⟩ := sp1_of h
  rw [show startD N_law [a0] = [some a0, none, none, none, none, none] from rfl]
  obtain ⟨ns, e1, hT, k⟩ := h
  subst e1
  walk_at "rr49"
  refine rd_rng1K ⟨by split <;> split <;> omega, by split <;> split <;> omega⟩ ?_
  refine rd_loopI (I := fun _ δ g' => (∀ a, g a ≠ none → g' a = g a) ∧ TbG (TT tb_free_set_in) g' ∧ ∃ v1 v2 v3 v4 v5 : Option DV, δ = [some (.scr ns), v1, v2, v3, v4, v5]) ⟨fun _ _ => rfl, hT, _, _, _, _, _, rfl⟩ ?_ ?_
  · intro d hd j δ g' f hf hI
    obtain ⟨hs, hT2, v1, v2, v3, v4, v5, e⟩ := hI
    subst e
    obtain ⟨i, hi, e⟩ := List.mem_map.mp hd
    rw [List.mem_range] at hi
    subst e
    refine ⟨_, rfl, ?_⟩
    walk_at "rr49"
    refine ⟨ns, i, rfl, by rw [Int.zero_add], by revert hi; split <;> split <;> omega, fun p L hp hpot => ?_⟩
    have hTn : ∀ L, TbG (TT tb_free_set_in) (gup g' p (.lst L)) := fun L => hT2.new hp fun q z => by cases z
    walk_at "rr49"
    refine ⟨p, 0, L, rfl, gup_same, hpot, by omega, hTn L, fun L2 hp2 => ?_⟩
    rw [gup_gup]
    walk_at "rr49"
    refine ⟨p, 0 + 200, L2, rfl, gup_same, hp2, by omega, hTn L2, fun L3 hp3 => ?_⟩
    rw [gup_gup]
    walk_at "rr49"
    refine hf _ _ ⟨fun a ha => ?_, hTn L3, _, _, _, _, _, rfl⟩
    by_cases hb : a = p
    · subst hb
      rw [hs a ha] at hp
      exact absurd hp ha
    · rw [gup_ne hb]
      exact hs a ha
  · intro δ g' hI
    obtain ⟨hs, hT2, v1, v2, v3, v4, v5, e⟩ := hI
    subst e
    walk_at "rr49"
    refine rd_zK (by show 4 ≤ 16777216; decide) ?_
    walk_at "rr49"
    refine rd_zK (by show 4 ≤ 16777216; decide) ?_
    walk_at "rr49"
    refine rd_zK (by show 4 ≤ 16777216; decide) ?_
    walk_at "rr49"
    refine rd_zK (by show 3 ≤ 16777216; decide) ?_
    walk_at "rr49"
    intro p1 hp1
    walk_at "rr49"
    refine ⟨p1, 4, leastL eF, rfl, rfl, by decide, by decide, .inr ⟨eF, rfl, eF_pr, by decide, rfl⟩, gup_same, mkK_mk (ds := [.int ((4 : Nat) : Int), .tup ((leastL eF).map tI)]) hp1 (by simp) ?_⟩
    rw [eF_is]
    walk_at "rr49"
    refine rd_zK (by show 2 ≤ 16777216; decide) ?_
    walk_at "rr49"
    refine rd_zK (by show 2 ≤ 16777216; decide) ?_
    walk_at "rr49"
    refine rd_zK (by show 2 ≤ 16777216; decide) ?_
    walk_at "rr49"
    refine rd_zK (by show 3 ≤ 16777216; decide) ?_
    walk_at "rr49"
    intro p2 hp2
    walk_at "rr49"
    refine ⟨p2, 2, leastL eS, rfl, rfl, by decide, by decide, .inr ⟨eS, rfl, (eS4.mono (by decide)), by decide, rfl⟩, gup_same, mkK_mk (ds := [.int ((2 : Nat) : Int), .tup ((leastL eS).map tI)]) hp2 (by simp) ?_⟩
    rw [eS_is]
    walk_at "rr49"
    refine ⟨4, eF', rfl, by decide, eF60, by decide, hT2, ?_⟩
    rw [eF_dim]
    walk_at "rr49"
    refine ⟨4, eF', rfl, by decide, by decide, eF4, by decide, hT2, ?_⟩
    rw [eF_w]
    walk_at "rr49"
    refine ⟨4, eF', rfl, by decide, by decide, eF4, by decide, hT2, ?_⟩
    rw [eF_row]
    walk_at "rr49"
    refine ⟨4, eF', rfl, by decide, by decide, eF4, by decide, fun s hs1 => ?_⟩
    rw [eF_st hs1]
    walk_at "rr49"
    refine ⟨2, eS', rfl, by decide, by decide, eS'4, by decide, hT2, ?_⟩
    walk_at "rr49"
    refine ⟨2, eS', rfl, by decide, by decide, eS'4, by decide, hT2, ?_⟩
    rw [eS_row]
    walk_at "rr49"
    refine ⟨2, eS', rfl, by decide, by decide, eS'4, by decide, fun s hs2 => ?_⟩
    have e3 := eS_st hs2
    subst e3
    rw [eS_w hs2]
    walk_at "rr49"
    refine rd_zK (by show 7 ≤ 16777216; decide) ?_
    walk_at "rr49"
    refine rd_zK (by show 2 ≤ 16777216; decide) ?_
    walk_at "rr49"
    refine rd_zK (by show 0 ≤ 16777216; decide) ?_
    walk_at "rr49"
    refine rd_zK (by show 7 ≤ 16777216; decide) ?_
    refine rd_eq (by decide +kernel) (by decide +kernel) ?_
    rw [show eqD (DV.lst [.int 2, .int 3, tI [1, 3], .int ((0 : Nat) : Int), .int 4, tI [], .int ((3 : Nat) : Int)]) (DV.lst [.int 2, .int 3, .tup [.int 1, .int 3], .int 0, .int 4, .tup [], .int 3]) = true by decide +kernel]
    walk_at "rr49"
    refine rd_zK (by show 0 ≤ 16777216; decide) ?_
    walk_at "rr49"
    intro p3 hp3
    walk_at "rr49"
    refine ⟨p3, 2, leastL [], rfl, rfl, by decide, by decide, .inr ⟨[], rfl, nil_pr14 2 8, by decide, rfl⟩, gup_same, mkK_mk (ds := [.int ((2 : Nat) : Int), .tup ((leastL []).map tI)]) hp3 (by simp) ?_⟩
    rw [nil_is14]
    walk_at "rr49"
    refine ⟨2, [], rfl, by decide, by decide, nil_pr14 2 4, by decide, hT2, ?_⟩
    rw [nil_row]
    walk_at "rr49"
    refine rd_zK (by show 2 ≤ 16777216; decide) ?_
    refine rd_eq (okD_tI _) (okD_tI [1, 1]) ?_
    rw [show (DV.tup [.int 1, .int 1]) = tI [1, 1] from rfl, eqD_tI, decide_eq_true rfl]
    walk_at "rr49"
    refine rd_zK (by show 2 ≤ 16777216; decide) ?_
    walk_at "rr49"
    refine rd_zK (by show 1 ≤ 16777216; decide) ?_
    walk_at "rr49"
    intro p4 hp4
    walk_at "rr49"
    refine ⟨p4, 2, leastL eZ, rfl, rfl, by decide, by decide, .inr ⟨eZ, rfl, eZ4.mono (by decide), by decide, rfl⟩, gup_same, mkK_mk (ds := [.int ((2 : Nat) : Int), .tup ((leastL eZ).map tI)]) hp4 (by simp) ?_⟩
    rw [eZ_is]
    walk_at "rr49"
    refine ⟨2, eZ, rfl, by decide, by decide, eZ4, by decide, fun s hs3 => ?_⟩
    rw [eZ_st hs3]
    walk_at "rr49"
    refine rd_eq (okD_int _) (okD_int _) ?_
    rw [eqD_int, decide_eq_true (by rfl)]
    refine ⟨g, fun a => ?_, k⟩
    by_cases ha : g a = none
    · exact .inr ha
    · exact .inl (hs a ha).symm

theorem all_mk {l : PySem.W.OpenLaw} {w : World} {K : Fg} {h : Heap} {mg : Str → Option Value} {fa f_is_whole f_is_within f_require_within f_is_product_in f_divides f_require_letters f_least_of f_are_long f_few_least_of f_KeptMembers___init__ f_is_passed_member f_members_told f_Lot___init__ f_is_all_in f_require_lot f_most_common_letter f_split_exponent f_apart_numerator f_lessened f_numerator_of f_numerator_in f_left_count f_is_free_in f_sets_of f_free_set_in f_dimension_in f_stretched_comb f_steady_value f_steady_row_in f_steady_degree_in f_weight_in f_numerator f_left_counts f_count_at f_dimension f_weight f_steady_row f_steady_degree f_qjug f_qpour f_qtaken f_qdivides f_qleast f_qproduct f_qmembers f_qchoices f_qat f_qby_differences f_qquotient_value f_qright f_law cc_free_set_in cc_dimension_in cc_steady_row_in cc_weight_in cc_dimension cc_weight cc_steady_row cc_qright cc_law tb_free_set_in c_KeptMembers c_Lot p_KeptMembers_own_members p_Lot_own_letters p_Lot_own_members : Addr} {t_MAX_EXPONENT t_MAX_LETTERS t_MAX_MEMBERS t_MAX_MEMBER_EXPONENT t_MAX_PASSED t_MOST_COUNTED t_MOST_FAR : Tok} (X : K.In h) (G : h.Ns mainGlobals mg) (hfa : mg "law" = some (.ref fa))
    {q : Program} (tab : ∀ (y : Str) (c P : Addr), ((PyProof.Rows.recsOf q).find? fun e => e.name == y).isSome = true → PySem.W.tabIn K y = some (c, P) → PySem.W.CodeHd h c P ∧ h.get? P = some { cls := .none, data := .fields #[] })
    {ccl_free_set_in : Value} {cdd_free_set_in : Option Addr} {ccs_free_set_in : Array (Option Value)} {vs_free_set_in : Array Value}
    {od_is_whole an_is_whole od_is_within an_is_within od_require_within an_require_within od_is_product_in an_is_product_in od_divides an_divides od_require_letters an_require_letters od_least_of an_least_of od_are_long an_are_long od_few_least_of an_few_least_of od_KeptMembers___init__ an_KeptMembers___init__ od_is_passed_member an_is_passed_member od_members_told an_members_told od_Lot___init__ an_Lot___init__ od_is_all_in an_is_all_in od_require_lot an_require_lot od_most_common_letter an_most_common_letter od_split_exponent an_split_exponent od_apart_numerator an_apart_numerator od_lessened an_lessened od_numerator_of an_numerator_of od_numerator_in an_numerator_in od_left_count an_left_count od_is_free_in an_is_free_in od_sets_of an_sets_of od_free_set_in an_free_set_in od_dimension_in an_dimension_in od_stretched_comb an_stretched_comb od_steady_value an_steady_value od_steady_row_in an_steady_row_in od_steady_degree_in an_steady_degree_in od_weight_in an_weight_in od_numerator an_numerator od_left_counts an_left_counts od_count_at an_count_at od_dimension an_dimension od_weight an_weight od_steady_row an_steady_row od_steady_degree an_steady_degree od_qjug an_qjug od_qpour an_qpour od_qtaken an_qtaken od_qdivides an_qdivides od_qleast an_qleast od_qproduct an_qproduct od_qmembers an_qmembers od_qchoices an_qchoices od_qat an_qat od_qby_differences an_qby_differences od_qquotient_value an_qquotient_value od_qright an_qright od_law an_law : Option Addr} {sl_is_whole sl_is_within sl_require_within sl_is_product_in sl_divides sl_require_letters sl_least_of sl_are_long sl_few_least_of sl_KeptMembers___init__ sl_is_passed_member sl_members_told sl_Lot___init__ sl_is_all_in sl_require_lot sl_most_common_letter sl_split_exponent sl_apart_numerator sl_lessened sl_numerator_of sl_numerator_in sl_left_count sl_is_free_in sl_sets_of sl_free_set_in sl_dimension_in sl_stretched_comb sl_steady_value sl_steady_row_in sl_steady_degree_in sl_weight_in sl_numerator sl_left_counts sl_count_at sl_dimension sl_weight sl_steady_row sl_steady_degree sl_qjug sl_qpour sl_qtaken sl_qdivides sl_qleast sl_qproduct sl_qmembers sl_qchoices sl_qat sl_qby_differences sl_qquotient_value sl_qright sl_law : Array (Option Value)} {oc_is_whole kV_is_whole dc_is_whole pm_is_whole cd_is_whole ct_is_whole oc_is_within kV_is_within dc_is_within pm_is_within cd_is_within ct_is_within oc_require_within kV_require_within dc_require_within pm_require_within cd_require_within ct_require_within oc_is_product_in kV_is_product_in dc_is_product_in pm_is_product_in cd_is_product_in ct_is_product_in oc_divides kV_divides dc_divides pm_divides cd_divides ct_divides oc_require_letters kV_require_letters dc_require_letters pm_require_letters cd_require_letters ct_require_letters oc_least_of kV_least_of dc_least_of pm_least_of cd_least_of ct_least_of oc_are_long kV_are_long dc_are_long pm_are_long cd_are_long ct_are_long oc_few_least_of kV_few_least_of dc_few_least_of pm_few_least_of cd_few_least_of ct_few_least_of oc_KeptMembers___init__ kV_KeptMembers___init__ dc_KeptMembers___init__ pm_KeptMembers___init__ cd_KeptMembers___init__ ct_KeptMembers___init__ oc_is_passed_member kV_is_passed_member dc_is_passed_member pm_is_passed_member cd_is_passed_member ct_is_passed_member oc_members_told kV_members_told dc_members_told pm_members_told cd_members_told ct_members_told oc_Lot___init__ kV_Lot___init__ dc_Lot___init__ pm_Lot___init__ cd_Lot___init__ ct_Lot___init__ oc_is_all_in kV_is_all_in dc_is_all_in pm_is_all_in cd_is_all_in ct_is_all_in oc_require_lot kV_require_lot dc_require_lot pm_require_lot cd_require_lot ct_require_lot oc_most_common_letter kV_most_common_letter dc_most_common_letter pm_most_common_letter cd_most_common_letter ct_most_common_letter oc_split_exponent kV_split_exponent dc_split_exponent pm_split_exponent cd_split_exponent ct_split_exponent oc_apart_numerator kV_apart_numerator dc_apart_numerator pm_apart_numerator cd_apart_numerator ct_apart_numerator oc_lessened kV_lessened dc_lessened pm_lessened cd_lessened ct_lessened oc_numerator_of kV_numerator_of dc_numerator_of pm_numerator_of cd_numerator_of ct_numerator_of oc_numerator_in kV_numerator_in dc_numerator_in pm_numerator_in cd_numerator_in ct_numerator_in oc_left_count kV_left_count dc_left_count pm_left_count cd_left_count ct_left_count oc_is_free_in kV_is_free_in dc_is_free_in pm_is_free_in cd_is_free_in ct_is_free_in oc_sets_of kV_sets_of dc_sets_of pm_sets_of cd_sets_of ct_sets_of oc_free_set_in kV_free_set_in dc_free_set_in pm_free_set_in ct_free_set_in oc_dimension_in kV_dimension_in dc_dimension_in pm_dimension_in ct_dimension_in oc_stretched_comb kV_stretched_comb dc_stretched_comb pm_stretched_comb cd_stretched_comb ct_stretched_comb oc_steady_value kV_steady_value dc_steady_value pm_steady_value cd_steady_value ct_steady_value oc_steady_row_in kV_steady_row_in dc_steady_row_in pm_steady_row_in ct_steady_row_in oc_steady_degree_in kV_steady_degree_in dc_steady_degree_in pm_steady_degree_in cd_steady_degree_in ct_steady_degree_in oc_weight_in kV_weight_in dc_weight_in pm_weight_in ct_weight_in oc_numerator kV_numerator dc_numerator pm_numerator cd_numerator ct_numerator oc_left_counts kV_left_counts dc_left_counts pm_left_counts cd_left_counts ct_left_counts oc_count_at kV_count_at dc_count_at pm_count_at cd_count_at ct_count_at oc_dimension kV_dimension dc_dimension pm_dimension ct_dimension oc_weight kV_weight dc_weight pm_weight ct_weight oc_steady_row kV_steady_row dc_steady_row pm_steady_row ct_steady_row oc_steady_degree kV_steady_degree dc_steady_degree pm_steady_degree cd_steady_degree ct_steady_degree oc_qjug kV_qjug dc_qjug pm_qjug cd_qjug ct_qjug oc_qpour kV_qpour dc_qpour pm_qpour cd_qpour ct_qpour oc_qtaken kV_qtaken dc_qtaken pm_qtaken cd_qtaken ct_qtaken oc_qdivides kV_qdivides dc_qdivides pm_qdivides cd_qdivides ct_qdivides oc_qleast kV_qleast dc_qleast pm_qleast cd_qleast ct_qleast oc_qproduct kV_qproduct dc_qproduct pm_qproduct cd_qproduct ct_qproduct oc_qmembers kV_qmembers dc_qmembers pm_qmembers cd_qmembers ct_qmembers oc_qchoices kV_qchoices dc_qchoices pm_qchoices cd_qchoices ct_qchoices oc_qat kV_qat dc_qat pm_qat cd_qat ct_qat oc_qby_differences kV_qby_differences dc_qby_differences pm_qby_differences cd_qby_differences ct_qby_differences oc_qquotient_value kV_qquotient_value dc_qquotient_value pm_qquotient_value cd_qquotient_value ct_qquotient_value oc_qright kV_qright dc_qright pm_qright ct_qright oc_law kV_law dc_law pm_law ct_law : Value}
    (cl_KeptMembers : PySem.W.nsIn K mainGlobals "KeptMembers" = some (some (.ref c_KeptMembers)))
    (pg_KeptMembers : PySem.W.plainGet K c_KeptMembers Str.empty = true)
    (ic_KeptMembers : PySem.W.isClsIn K c_KeptMembers = true)
    (po_KeptMembers : PySem.W.plainOver K c_KeptMembers = true)
    (sa_KeptMembers : PySem.W.findIn K (.ref c_KeptMembers) "__setattr__" = some (some (.builtin "object.__setattr__")))
    (ca_KeptMembers : PySem.W.findIn K (.ref c_KeptMembers) "__class__" = some (some (.builtin "object.__class__")))
    (cn_KeptMembers : PySem.W.specialIn K (.builtin "object.__class__") "__get__" = some (some (.builtin "getset_descriptor.__get__")))
    (ct_KeptMembers : PySem.W.takesIn K (.builtin "object.__class__") = some true)
    (cm_KeptMembers : PySem.W.mroIn K c_KeptMembers (.type "object") = some true)
    (ty_KeptMembers : PySem.W.typeIn K (.ref c_KeptMembers) = some (.type "type"))
    (ms_KeptMembers : PySem.W.makesIn K c_KeptMembers = true)
    (kp_KeptMembers : PySem.W.keepIn K (.ref c_KeptMembers) = true)
    (cl_Lot : PySem.W.nsIn K mainGlobals "Lot" = some (some (.ref c_Lot)))
    (pg_Lot : PySem.W.plainGet K c_Lot Str.empty = true)
    (ic_Lot : PySem.W.isClsIn K c_Lot = true)
    (po_Lot : PySem.W.plainOver K c_Lot = true)
    (sa_Lot : PySem.W.findIn K (.ref c_Lot) "__setattr__" = some (some (.builtin "object.__setattr__")))
    (ca_Lot : PySem.W.findIn K (.ref c_Lot) "__class__" = some (some (.builtin "object.__class__")))
    (cn_Lot : PySem.W.specialIn K (.builtin "object.__class__") "__get__" = some (some (.builtin "getset_descriptor.__get__")))
    (ct_Lot : PySem.W.takesIn K (.builtin "object.__class__") = some true)
    (cm_Lot : PySem.W.mroIn K c_Lot (.type "object") = some true)
    (ty_Lot : PySem.W.typeIn K (.ref c_Lot) = some (.type "type"))
    (ms_Lot : PySem.W.makesIn K c_Lot = true)
    (kp_Lot : PySem.W.keepIn K (.ref c_Lot) = true)
    (s1_KeptMembers_own_members : PySem.W.findIn K (.ref c_KeptMembers) "own_members" = some (some (.ref p_KeptMembers_own_members)))
    (s2_KeptMembers_own_members : PySem.W.specialIn K (.ref p_KeptMembers_own_members) "__get__" = some (some (.builtin "member_descriptor.__get__")))
    (s3_KeptMembers_own_members : PySem.W.takesIn K (.ref p_KeptMembers_own_members) = some true)
    (s4_KeptMembers_own_members : PySem.W.typeIn K (.ref p_KeptMembers_own_members) = some (.type "member_descriptor"))
    (s5_KeptMembers_own_members : PySem.W.slotIn K p_KeptMembers_own_members c_KeptMembers = some 0)
    (s1_Lot_own_letters : PySem.W.findIn K (.ref c_Lot) "own_letters" = some (some (.ref p_Lot_own_letters)))
    (s2_Lot_own_letters : PySem.W.specialIn K (.ref p_Lot_own_letters) "__get__" = some (some (.builtin "member_descriptor.__get__")))
    (s3_Lot_own_letters : PySem.W.takesIn K (.ref p_Lot_own_letters) = some true)
    (s4_Lot_own_letters : PySem.W.typeIn K (.ref p_Lot_own_letters) = some (.type "member_descriptor"))
    (s5_Lot_own_letters : PySem.W.slotIn K p_Lot_own_letters c_Lot = some 0)
    (s1_Lot_own_members : PySem.W.findIn K (.ref c_Lot) "own_members" = some (some (.ref p_Lot_own_members)))
    (s2_Lot_own_members : PySem.W.specialIn K (.ref p_Lot_own_members) "__get__" = some (some (.builtin "member_descriptor.__get__")))
    (s3_Lot_own_members : PySem.W.takesIn K (.ref p_Lot_own_members) = some true)
    (s4_Lot_own_members : PySem.W.typeIn K (.ref p_Lot_own_members) = some (.type "member_descriptor"))
    (s5_Lot_own_members : PySem.W.slotIn K p_Lot_own_members c_Lot = some 1)
    (a_is_whole : PySem.W.nsIn K mainGlobals "is_whole" = some (some (.ref f_is_whole)))
    (l_is_whole : K.lookup f_is_whole = some ⟨oc_is_whole, od_is_whole, .func (PySem.W.fnOf "is_whole" "is_whole" (defArgs s_is_whole) (defBody s_is_whole) (defScope s_is_whole) .none kV_is_whole dc_is_whole pm_is_whole an_is_whole cd_is_whole ct_is_whole), sl_is_whole⟩)
    (c_is_whole : PySem.W.codeIn K cd_is_whole "is_whole" = true)
    (k_is_whole : PySem.W.keepIn K (.ref f_is_whole) = true)
    (a_is_within : PySem.W.nsIn K mainGlobals "is_within" = some (some (.ref f_is_within)))
    (l_is_within : K.lookup f_is_within = some ⟨oc_is_within, od_is_within, .func (PySem.W.fnOf "is_within" "is_within" (defArgs s_is_within) (defBody s_is_within) (defScope s_is_within) .none kV_is_within dc_is_within pm_is_within an_is_within cd_is_within ct_is_within), sl_is_within⟩)
    (c_is_within : PySem.W.codeIn K cd_is_within "is_within" = true)
    (k_is_within : PySem.W.keepIn K (.ref f_is_within) = true)
    (a_require_within : PySem.W.nsIn K mainGlobals "require_within" = some (some (.ref f_require_within)))
    (l_require_within : K.lookup f_require_within = some ⟨oc_require_within, od_require_within, .func (PySem.W.fnOf "require_within" "require_within" (defArgs s_require_within) (defBody s_require_within) (defScope s_require_within) .none kV_require_within dc_require_within pm_require_within an_require_within cd_require_within ct_require_within), sl_require_within⟩)
    (c_require_within : PySem.W.codeIn K cd_require_within "require_within" = true)
    (k_require_within : PySem.W.keepIn K (.ref f_require_within) = true)
    (a_is_product_in : PySem.W.nsIn K mainGlobals "is_product_in" = some (some (.ref f_is_product_in)))
    (l_is_product_in : K.lookup f_is_product_in = some ⟨oc_is_product_in, od_is_product_in, .func (PySem.W.fnOf "is_product_in" "is_product_in" (defArgs s_is_product_in) (defBody s_is_product_in) (defScope s_is_product_in) .none kV_is_product_in dc_is_product_in pm_is_product_in an_is_product_in cd_is_product_in ct_is_product_in), sl_is_product_in⟩)
    (c_is_product_in : PySem.W.codeIn K cd_is_product_in "is_product_in" = true)
    (k_is_product_in : PySem.W.keepIn K (.ref f_is_product_in) = true)
    (a_divides : PySem.W.nsIn K mainGlobals "divides" = some (some (.ref f_divides)))
    (l_divides : K.lookup f_divides = some ⟨oc_divides, od_divides, .func (PySem.W.fnOf "divides" "divides" (defArgs s_divides) (defBody s_divides) (defScope s_divides) .none kV_divides dc_divides pm_divides an_divides cd_divides ct_divides), sl_divides⟩)
    (c_divides : PySem.W.codeIn K cd_divides "divides" = true)
    (k_divides : PySem.W.keepIn K (.ref f_divides) = true)
    (a_require_letters : PySem.W.nsIn K mainGlobals "require_letters" = some (some (.ref f_require_letters)))
    (l_require_letters : K.lookup f_require_letters = some ⟨oc_require_letters, od_require_letters, .func (PySem.W.fnOf "require_letters" "require_letters" (defArgs s_require_letters) (defBody s_require_letters) (defScope s_require_letters) .none kV_require_letters dc_require_letters pm_require_letters an_require_letters cd_require_letters ct_require_letters), sl_require_letters⟩)
    (c_require_letters : PySem.W.codeIn K cd_require_letters "require_letters" = true)
    (k_require_letters : PySem.W.keepIn K (.ref f_require_letters) = true)
    (a_least_of : PySem.W.nsIn K mainGlobals "least_of" = some (some (.ref f_least_of)))
    (l_least_of : K.lookup f_least_of = some ⟨oc_least_of, od_least_of, .func (PySem.W.fnOf "least_of" "least_of" (defArgs s_least_of) (defBody s_least_of) (defScope s_least_of) .none kV_least_of dc_least_of pm_least_of an_least_of cd_least_of ct_least_of), sl_least_of⟩)
    (c_least_of : PySem.W.codeIn K cd_least_of "least_of" = true)
    (k_least_of : PySem.W.keepIn K (.ref f_least_of) = true)
    (a_are_long : PySem.W.nsIn K mainGlobals "are_long" = some (some (.ref f_are_long)))
    (l_are_long : K.lookup f_are_long = some ⟨oc_are_long, od_are_long, .func (PySem.W.fnOf "are_long" "are_long" (defArgs s_are_long) (defBody s_are_long) (defScope s_are_long) .none kV_are_long dc_are_long pm_are_long an_are_long cd_are_long ct_are_long), sl_are_long⟩)
    (c_are_long : PySem.W.codeIn K cd_are_long "are_long" = true)
    (k_are_long : PySem.W.keepIn K (.ref f_are_long) = true)
    (a_few_least_of : PySem.W.nsIn K mainGlobals "few_least_of" = some (some (.ref f_few_least_of)))
    (l_few_least_of : K.lookup f_few_least_of = some ⟨oc_few_least_of, od_few_least_of, .func (PySem.W.fnOf "few_least_of" "few_least_of" (defArgs s_few_least_of) (defBody s_few_least_of) (defScope s_few_least_of) .none kV_few_least_of dc_few_least_of pm_few_least_of an_few_least_of cd_few_least_of ct_few_least_of), sl_few_least_of⟩)
    (c_few_least_of : PySem.W.codeIn K cd_few_least_of "few_least_of" = true)
    (k_few_least_of : PySem.W.keepIn K (.ref f_few_least_of) = true)
    (a_KeptMembers___init__ : PySem.W.findIn K (.ref c_KeptMembers) "__init__" = some (some (.ref f_KeptMembers___init__)))
    (i_KeptMembers___init__ : PySem.W.isFn K (.ref f_KeptMembers___init__) = true)
    (l_KeptMembers___init__ : K.lookup f_KeptMembers___init__ = some ⟨oc_KeptMembers___init__, od_KeptMembers___init__, .func (PySem.W.fnOf "__init__" "KeptMembers.__init__" (defArgs s_KeptMembers___init__) (defBody s_KeptMembers___init__) (defScope s_KeptMembers___init__) .none kV_KeptMembers___init__ dc_KeptMembers___init__ pm_KeptMembers___init__ an_KeptMembers___init__ cd_KeptMembers___init__ ct_KeptMembers___init__), sl_KeptMembers___init__⟩)
    (c_KeptMembers___init__ : PySem.W.codeIn K cd_KeptMembers___init__ "KeptMembers.__init__" = true)
    (k_KeptMembers___init__ : PySem.W.keepIn K (.ref f_KeptMembers___init__) = true)
    (a_is_passed_member : PySem.W.nsIn K mainGlobals "is_passed_member" = some (some (.ref f_is_passed_member)))
    (l_is_passed_member : K.lookup f_is_passed_member = some ⟨oc_is_passed_member, od_is_passed_member, .func (PySem.W.fnOf "is_passed_member" "is_passed_member" (defArgs s_is_passed_member) (defBody s_is_passed_member) (defScope s_is_passed_member) .none kV_is_passed_member dc_is_passed_member pm_is_passed_member an_is_passed_member cd_is_passed_member ct_is_passed_member), sl_is_passed_member⟩)
    (c_is_passed_member : PySem.W.codeIn K cd_is_passed_member "is_passed_member" = true)
    (k_is_passed_member : PySem.W.keepIn K (.ref f_is_passed_member) = true)
    (a_members_told : PySem.W.nsIn K mainGlobals "members_told" = some (some (.ref f_members_told)))
    (l_members_told : K.lookup f_members_told = some ⟨oc_members_told, od_members_told, .func (PySem.W.fnOf "members_told" "members_told" (defArgs s_members_told) (defBody s_members_told) (defScope s_members_told) .none kV_members_told dc_members_told pm_members_told an_members_told cd_members_told ct_members_told), sl_members_told⟩)
    (c_members_told : PySem.W.codeIn K cd_members_told "members_told" = true)
    (k_members_told : PySem.W.keepIn K (.ref f_members_told) = true)
    (a_Lot___init__ : PySem.W.findIn K (.ref c_Lot) "__init__" = some (some (.ref f_Lot___init__)))
    (i_Lot___init__ : PySem.W.isFn K (.ref f_Lot___init__) = true)
    (l_Lot___init__ : K.lookup f_Lot___init__ = some ⟨oc_Lot___init__, od_Lot___init__, .func (PySem.W.fnOf "__init__" "Lot.__init__" (defArgs s_Lot___init__) (defBody s_Lot___init__) (defScope s_Lot___init__) .none kV_Lot___init__ dc_Lot___init__ pm_Lot___init__ an_Lot___init__ cd_Lot___init__ ct_Lot___init__), sl_Lot___init__⟩)
    (c_Lot___init__ : PySem.W.codeIn K cd_Lot___init__ "Lot.__init__" = true)
    (k_Lot___init__ : PySem.W.keepIn K (.ref f_Lot___init__) = true)
    (a_is_all_in : PySem.W.nsIn K mainGlobals "is_all_in" = some (some (.ref f_is_all_in)))
    (l_is_all_in : K.lookup f_is_all_in = some ⟨oc_is_all_in, od_is_all_in, .func (PySem.W.fnOf "is_all_in" "is_all_in" (defArgs s_is_all_in) (defBody s_is_all_in) (defScope s_is_all_in) .none kV_is_all_in dc_is_all_in pm_is_all_in an_is_all_in cd_is_all_in ct_is_all_in), sl_is_all_in⟩)
    (c_is_all_in : PySem.W.codeIn K cd_is_all_in "is_all_in" = true)
    (k_is_all_in : PySem.W.keepIn K (.ref f_is_all_in) = true)
    (a_require_lot : PySem.W.nsIn K mainGlobals "require_lot" = some (some (.ref f_require_lot)))
    (l_require_lot : K.lookup f_require_lot = some ⟨oc_require_lot, od_require_lot, .func (PySem.W.fnOf "require_lot" "require_lot" (defArgs s_require_lot) (defBody s_require_lot) (defScope s_require_lot) .none kV_require_lot dc_require_lot pm_require_lot an_require_lot cd_require_lot ct_require_lot), sl_require_lot⟩)
    (c_require_lot : PySem.W.codeIn K cd_require_lot "require_lot" = true)
    (k_require_lot : PySem.W.keepIn K (.ref f_require_lot) = true)
    (a_most_common_letter : PySem.W.nsIn K mainGlobals "most_common_letter" = some (some (.ref f_most_common_letter)))
    (l_most_common_letter : K.lookup f_most_common_letter = some ⟨oc_most_common_letter, od_most_common_letter, .func (PySem.W.fnOf "most_common_letter" "most_common_letter" (defArgs s_most_common_letter) (defBody s_most_common_letter) (defScope s_most_common_letter) .none kV_most_common_letter dc_most_common_letter pm_most_common_letter an_most_common_letter cd_most_common_letter ct_most_common_letter), sl_most_common_letter⟩)
    (c_most_common_letter : PySem.W.codeIn K cd_most_common_letter "most_common_letter" = true)
    (k_most_common_letter : PySem.W.keepIn K (.ref f_most_common_letter) = true)
    (a_split_exponent : PySem.W.nsIn K mainGlobals "split_exponent" = some (some (.ref f_split_exponent)))
    (l_split_exponent : K.lookup f_split_exponent = some ⟨oc_split_exponent, od_split_exponent, .func (PySem.W.fnOf "split_exponent" "split_exponent" (defArgs s_split_exponent) (defBody s_split_exponent) (defScope s_split_exponent) .none kV_split_exponent dc_split_exponent pm_split_exponent an_split_exponent cd_split_exponent ct_split_exponent), sl_split_exponent⟩)
    (c_split_exponent : PySem.W.codeIn K cd_split_exponent "split_exponent" = true)
    (k_split_exponent : PySem.W.keepIn K (.ref f_split_exponent) = true)
    (a_apart_numerator : PySem.W.nsIn K mainGlobals "apart_numerator" = some (some (.ref f_apart_numerator)))
    (l_apart_numerator : K.lookup f_apart_numerator = some ⟨oc_apart_numerator, od_apart_numerator, .func (PySem.W.fnOf "apart_numerator" "apart_numerator" (defArgs s_apart_numerator) (defBody s_apart_numerator) (defScope s_apart_numerator) .none kV_apart_numerator dc_apart_numerator pm_apart_numerator an_apart_numerator cd_apart_numerator ct_apart_numerator), sl_apart_numerator⟩)
    (c_apart_numerator : PySem.W.codeIn K cd_apart_numerator "apart_numerator" = true)
    (k_apart_numerator : PySem.W.keepIn K (.ref f_apart_numerator) = true)
    (a_lessened : PySem.W.nsIn K mainGlobals "lessened" = some (some (.ref f_lessened)))
    (l_lessened : K.lookup f_lessened = some ⟨oc_lessened, od_lessened, .func (PySem.W.fnOf "lessened" "lessened" (defArgs s_lessened) (defBody s_lessened) (defScope s_lessened) .none kV_lessened dc_lessened pm_lessened an_lessened cd_lessened ct_lessened), sl_lessened⟩)
    (c_lessened : PySem.W.codeIn K cd_lessened "lessened" = true)
    (k_lessened : PySem.W.keepIn K (.ref f_lessened) = true)
    (a_numerator_of : PySem.W.nsIn K mainGlobals "numerator_of" = some (some (.ref f_numerator_of)))
    (l_numerator_of : K.lookup f_numerator_of = some ⟨oc_numerator_of, od_numerator_of, .func (PySem.W.fnOf "numerator_of" "numerator_of" (defArgs s_numerator_of) (defBody s_numerator_of) (defScope s_numerator_of) .none kV_numerator_of dc_numerator_of pm_numerator_of an_numerator_of cd_numerator_of ct_numerator_of), sl_numerator_of⟩)
    (c_numerator_of : PySem.W.codeIn K cd_numerator_of "numerator_of" = true)
    (k_numerator_of : PySem.W.keepIn K (.ref f_numerator_of) = true)
    (a_numerator_in : PySem.W.nsIn K mainGlobals "numerator_in" = some (some (.ref f_numerator_in)))
    (l_numerator_in : K.lookup f_numerator_in = some ⟨oc_numerator_in, od_numerator_in, .func (PySem.W.fnOf "numerator_in" "numerator_in" (defArgs s_numerator_in) (defBody s_numerator_in) (defScope s_numerator_in) .none kV_numerator_in dc_numerator_in pm_numerator_in an_numerator_in cd_numerator_in ct_numerator_in), sl_numerator_in⟩)
    (c_numerator_in : PySem.W.codeIn K cd_numerator_in "numerator_in" = true)
    (k_numerator_in : PySem.W.keepIn K (.ref f_numerator_in) = true)
    (a_left_count : PySem.W.nsIn K mainGlobals "left_count" = some (some (.ref f_left_count)))
    (l_left_count : K.lookup f_left_count = some ⟨oc_left_count, od_left_count, .func (PySem.W.fnOf "left_count" "left_count" (defArgs s_left_count) (defBody s_left_count) (defScope s_left_count) .none kV_left_count dc_left_count pm_left_count an_left_count cd_left_count ct_left_count), sl_left_count⟩)
    (c_left_count : PySem.W.codeIn K cd_left_count "left_count" = true)
    (k_left_count : PySem.W.keepIn K (.ref f_left_count) = true)
    (a_is_free_in : PySem.W.nsIn K mainGlobals "is_free_in" = some (some (.ref f_is_free_in)))
    (l_is_free_in : K.lookup f_is_free_in = some ⟨oc_is_free_in, od_is_free_in, .func (PySem.W.fnOf "is_free_in" "is_free_in" (defArgs s_is_free_in) (defBody s_is_free_in) (defScope s_is_free_in) .none kV_is_free_in dc_is_free_in pm_is_free_in an_is_free_in cd_is_free_in ct_is_free_in), sl_is_free_in⟩)
    (c_is_free_in : PySem.W.codeIn K cd_is_free_in "is_free_in" = true)
    (k_is_free_in : PySem.W.keepIn K (.ref f_is_free_in) = true)
    (a_sets_of : PySem.W.nsIn K mainGlobals "sets_of" = some (some (.ref f_sets_of)))
    (l_sets_of : K.lookup f_sets_of = some ⟨oc_sets_of, od_sets_of, .func (PySem.W.fnOf "sets_of" "sets_of" (defArgs s_sets_of) (defBody s_sets_of) (defScope s_sets_of) .none kV_sets_of dc_sets_of pm_sets_of an_sets_of cd_sets_of ct_sets_of), sl_sets_of⟩)
    (c_sets_of : PySem.W.codeIn K cd_sets_of "sets_of" = true)
    (k_sets_of : PySem.W.keepIn K (.ref f_sets_of) = true)
    (a_free_set_in : PySem.W.nsIn K mainGlobals "free_set_in" = some (some (.ref f_free_set_in)))
    (l_free_set_in : K.lookup f_free_set_in = some ⟨oc_free_set_in, od_free_set_in, .func (PySem.W.fnOf "free_set_in" "free_set_in" (defArgs s_free_set_in) (defBody s_free_set_in) (defScope s_free_set_in) .none kV_free_set_in dc_free_set_in pm_free_set_in an_free_set_in (.ref cc_free_set_in) ct_free_set_in), sl_free_set_in⟩)
    (c_free_set_in : PySem.W.codeIn K (.ref cc_free_set_in) "free_set_in" = true)
    (k_free_set_in : PySem.W.keepIn K (.ref f_free_set_in) = true)
    (a_dimension_in : PySem.W.nsIn K mainGlobals "dimension_in" = some (some (.ref f_dimension_in)))
    (l_dimension_in : K.lookup f_dimension_in = some ⟨oc_dimension_in, od_dimension_in, .func (PySem.W.fnOf "dimension_in" "dimension_in" (defArgs s_dimension_in) (defBody s_dimension_in) (defScope s_dimension_in) .none kV_dimension_in dc_dimension_in pm_dimension_in an_dimension_in (.ref cc_dimension_in) ct_dimension_in), sl_dimension_in⟩)
    (c_dimension_in : PySem.W.codeIn K (.ref cc_dimension_in) "dimension_in" = true)
    (k_dimension_in : PySem.W.keepIn K (.ref f_dimension_in) = true)
    (a_stretched_comb : PySem.W.nsIn K mainGlobals "stretched_comb" = some (some (.ref f_stretched_comb)))
    (l_stretched_comb : K.lookup f_stretched_comb = some ⟨oc_stretched_comb, od_stretched_comb, .func (PySem.W.fnOf "stretched_comb" "stretched_comb" (defArgs s_stretched_comb) (defBody s_stretched_comb) (defScope s_stretched_comb) .none kV_stretched_comb dc_stretched_comb pm_stretched_comb an_stretched_comb cd_stretched_comb ct_stretched_comb), sl_stretched_comb⟩)
    (c_stretched_comb : PySem.W.codeIn K cd_stretched_comb "stretched_comb" = true)
    (k_stretched_comb : PySem.W.keepIn K (.ref f_stretched_comb) = true)
    (a_steady_value : PySem.W.nsIn K mainGlobals "steady_value" = some (some (.ref f_steady_value)))
    (l_steady_value : K.lookup f_steady_value = some ⟨oc_steady_value, od_steady_value, .func (PySem.W.fnOf "steady_value" "steady_value" (defArgs s_steady_value) (defBody s_steady_value) (defScope s_steady_value) .none kV_steady_value dc_steady_value pm_steady_value an_steady_value cd_steady_value ct_steady_value), sl_steady_value⟩)
    (c_steady_value : PySem.W.codeIn K cd_steady_value "steady_value" = true)
    (k_steady_value : PySem.W.keepIn K (.ref f_steady_value) = true)
    (a_steady_row_in : PySem.W.nsIn K mainGlobals "steady_row_in" = some (some (.ref f_steady_row_in)))
    (l_steady_row_in : K.lookup f_steady_row_in = some ⟨oc_steady_row_in, od_steady_row_in, .func (PySem.W.fnOf "steady_row_in" "steady_row_in" (defArgs s_steady_row_in) (defBody s_steady_row_in) (defScope s_steady_row_in) .none kV_steady_row_in dc_steady_row_in pm_steady_row_in an_steady_row_in (.ref cc_steady_row_in) ct_steady_row_in), sl_steady_row_in⟩)
    (c_steady_row_in : PySem.W.codeIn K (.ref cc_steady_row_in) "steady_row_in" = true)
    (k_steady_row_in : PySem.W.keepIn K (.ref f_steady_row_in) = true)
    (a_steady_degree_in : PySem.W.nsIn K mainGlobals "steady_degree_in" = some (some (.ref f_steady_degree_in)))
    (l_steady_degree_in : K.lookup f_steady_degree_in = some ⟨oc_steady_degree_in, od_steady_degree_in, .func (PySem.W.fnOf "steady_degree_in" "steady_degree_in" (defArgs s_steady_degree_in) (defBody s_steady_degree_in) (defScope s_steady_degree_in) .none kV_steady_degree_in dc_steady_degree_in pm_steady_degree_in an_steady_degree_in cd_steady_degree_in ct_steady_degree_in), sl_steady_degree_in⟩)
    (c_steady_degree_in : PySem.W.codeIn K cd_steady_degree_in "steady_degree_in" = true)
    (k_steady_degree_in : PySem.W.keepIn K (.ref f_steady_degree_in) = true)
    (a_weight_in : PySem.W.nsIn K mainGlobals "weight_in" = some (some (.ref f_weight_in)))
    (l_weight_in : K.lookup f_weight_in = some ⟨oc_weight_in, od_weight_in, .func (PySem.W.fnOf "weight_in" "weight_in" (defArgs s_weight_in) (defBody s_weight_in) (defScope s_weight_in) .none kV_weight_in dc_weight_in pm_weight_in an_weight_in (.ref cc_weight_in) ct_weight_in), sl_weight_in⟩)
    (c_weight_in : PySem.W.codeIn K (.ref cc_weight_in) "weight_in" = true)
    (k_weight_in : PySem.W.keepIn K (.ref f_weight_in) = true)
    (a_numerator : PySem.W.nsIn K mainGlobals "numerator" = some (some (.ref f_numerator)))
    (l_numerator : K.lookup f_numerator = some ⟨oc_numerator, od_numerator, .func (PySem.W.fnOf "numerator" "numerator" (defArgs s_numerator) (defBody s_numerator) (defScope s_numerator) .none kV_numerator dc_numerator pm_numerator an_numerator cd_numerator ct_numerator), sl_numerator⟩)
    (c_numerator : PySem.W.codeIn K cd_numerator "numerator" = true)
    (k_numerator : PySem.W.keepIn K (.ref f_numerator) = true)
    (a_left_counts : PySem.W.nsIn K mainGlobals "left_counts" = some (some (.ref f_left_counts)))
    (l_left_counts : K.lookup f_left_counts = some ⟨oc_left_counts, od_left_counts, .func (PySem.W.fnOf "left_counts" "left_counts" (defArgs s_left_counts) (defBody s_left_counts) (defScope s_left_counts) .none kV_left_counts dc_left_counts pm_left_counts an_left_counts cd_left_counts ct_left_counts), sl_left_counts⟩)
    (c_left_counts : PySem.W.codeIn K cd_left_counts "left_counts" = true)
    (k_left_counts : PySem.W.keepIn K (.ref f_left_counts) = true)
    (a_count_at : PySem.W.nsIn K mainGlobals "count_at" = some (some (.ref f_count_at)))
    (l_count_at : K.lookup f_count_at = some ⟨oc_count_at, od_count_at, .func (PySem.W.fnOf "count_at" "count_at" (defArgs s_count_at) (defBody s_count_at) (defScope s_count_at) .none kV_count_at dc_count_at pm_count_at an_count_at cd_count_at ct_count_at), sl_count_at⟩)
    (c_count_at : PySem.W.codeIn K cd_count_at "count_at" = true)
    (k_count_at : PySem.W.keepIn K (.ref f_count_at) = true)
    (a_dimension : PySem.W.nsIn K mainGlobals "dimension" = some (some (.ref f_dimension)))
    (l_dimension : K.lookup f_dimension = some ⟨oc_dimension, od_dimension, .func (PySem.W.fnOf "dimension" "dimension" (defArgs s_dimension) (defBody s_dimension) (defScope s_dimension) .none kV_dimension dc_dimension pm_dimension an_dimension (.ref cc_dimension) ct_dimension), sl_dimension⟩)
    (c_dimension : PySem.W.codeIn K (.ref cc_dimension) "dimension" = true)
    (k_dimension : PySem.W.keepIn K (.ref f_dimension) = true)
    (a_weight : PySem.W.nsIn K mainGlobals "weight" = some (some (.ref f_weight)))
    (l_weight : K.lookup f_weight = some ⟨oc_weight, od_weight, .func (PySem.W.fnOf "weight" "weight" (defArgs s_weight) (defBody s_weight) (defScope s_weight) .none kV_weight dc_weight pm_weight an_weight (.ref cc_weight) ct_weight), sl_weight⟩)
    (c_weight : PySem.W.codeIn K (.ref cc_weight) "weight" = true)
    (k_weight : PySem.W.keepIn K (.ref f_weight) = true)
    (a_steady_row : PySem.W.nsIn K mainGlobals "steady_row" = some (some (.ref f_steady_row)))
    (l_steady_row : K.lookup f_steady_row = some ⟨oc_steady_row, od_steady_row, .func (PySem.W.fnOf "steady_row" "steady_row" (defArgs s_steady_row) (defBody s_steady_row) (defScope s_steady_row) .none kV_steady_row dc_steady_row pm_steady_row an_steady_row (.ref cc_steady_row) ct_steady_row), sl_steady_row⟩)
    (c_steady_row : PySem.W.codeIn K (.ref cc_steady_row) "steady_row" = true)
    (k_steady_row : PySem.W.keepIn K (.ref f_steady_row) = true)
    (a_steady_degree : PySem.W.nsIn K mainGlobals "steady_degree" = some (some (.ref f_steady_degree)))
    (l_steady_degree : K.lookup f_steady_degree = some ⟨oc_steady_degree, od_steady_degree, .func (PySem.W.fnOf "steady_degree" "steady_degree" (defArgs s_steady_degree) (defBody s_steady_degree) (defScope s_steady_degree) .none kV_steady_degree dc_steady_degree pm_steady_degree an_steady_degree cd_steady_degree ct_steady_degree), sl_steady_degree⟩)
    (c_steady_degree : PySem.W.codeIn K cd_steady_degree "steady_degree" = true)
    (k_steady_degree : PySem.W.keepIn K (.ref f_steady_degree) = true)
    (a_qjug : PySem.W.nsIn K mainGlobals "_law_jug" = some (some (.ref f_qjug)))
    (l_qjug : K.lookup f_qjug = some ⟨oc_qjug, od_qjug, .func (PySem.W.fnOf "_law_jug" "_law_jug" (defArgs s_qjug) (defBody s_qjug) (defScope s_qjug) .none kV_qjug dc_qjug pm_qjug an_qjug cd_qjug ct_qjug), sl_qjug⟩)
    (c_qjug : PySem.W.codeIn K cd_qjug "_law_jug" = true)
    (k_qjug : PySem.W.keepIn K (.ref f_qjug) = true)
    (a_qpour : PySem.W.nsIn K mainGlobals "_law_pour" = some (some (.ref f_qpour)))
    (l_qpour : K.lookup f_qpour = some ⟨oc_qpour, od_qpour, .func (PySem.W.fnOf "_law_pour" "_law_pour" (defArgs s_qpour) (defBody s_qpour) (defScope s_qpour) .none kV_qpour dc_qpour pm_qpour an_qpour cd_qpour ct_qpour), sl_qpour⟩)
    (c_qpour : PySem.W.codeIn K cd_qpour "_law_pour" = true)
    (k_qpour : PySem.W.keepIn K (.ref f_qpour) = true)
    (a_qtaken : PySem.W.nsIn K mainGlobals "_law_taken" = some (some (.ref f_qtaken)))
    (l_qtaken : K.lookup f_qtaken = some ⟨oc_qtaken, od_qtaken, .func (PySem.W.fnOf "_law_taken" "_law_taken" (defArgs s_qtaken) (defBody s_qtaken) (defScope s_qtaken) .none kV_qtaken dc_qtaken pm_qtaken an_qtaken cd_qtaken ct_qtaken), sl_qtaken⟩)
    (c_qtaken : PySem.W.codeIn K cd_qtaken "_law_taken" = true)
    (k_qtaken : PySem.W.keepIn K (.ref f_qtaken) = true)
    (a_qdivides : PySem.W.nsIn K mainGlobals "_law_divides" = some (some (.ref f_qdivides)))
    (l_qdivides : K.lookup f_qdivides = some ⟨oc_qdivides, od_qdivides, .func (PySem.W.fnOf "_law_divides" "_law_divides" (defArgs s_qdivides) (defBody s_qdivides) (defScope s_qdivides) .none kV_qdivides dc_qdivides pm_qdivides an_qdivides cd_qdivides ct_qdivides), sl_qdivides⟩)
    (c_qdivides : PySem.W.codeIn K cd_qdivides "_law_divides" = true)
    (k_qdivides : PySem.W.keepIn K (.ref f_qdivides) = true)
    (a_qleast : PySem.W.nsIn K mainGlobals "_law_least" = some (some (.ref f_qleast)))
    (l_qleast : K.lookup f_qleast = some ⟨oc_qleast, od_qleast, .func (PySem.W.fnOf "_law_least" "_law_least" (defArgs s_qleast) (defBody s_qleast) (defScope s_qleast) .none kV_qleast dc_qleast pm_qleast an_qleast cd_qleast ct_qleast), sl_qleast⟩)
    (c_qleast : PySem.W.codeIn K cd_qleast "_law_least" = true)
    (k_qleast : PySem.W.keepIn K (.ref f_qleast) = true)
    (a_qproduct : PySem.W.nsIn K mainGlobals "_law_product" = some (some (.ref f_qproduct)))
    (l_qproduct : K.lookup f_qproduct = some ⟨oc_qproduct, od_qproduct, .func (PySem.W.fnOf "_law_product" "_law_product" (defArgs s_qproduct) (defBody s_qproduct) (defScope s_qproduct) .none kV_qproduct dc_qproduct pm_qproduct an_qproduct cd_qproduct ct_qproduct), sl_qproduct⟩)
    (c_qproduct : PySem.W.codeIn K cd_qproduct "_law_product" = true)
    (k_qproduct : PySem.W.keepIn K (.ref f_qproduct) = true)
    (a_qmembers : PySem.W.nsIn K mainGlobals "_law_members" = some (some (.ref f_qmembers)))
    (l_qmembers : K.lookup f_qmembers = some ⟨oc_qmembers, od_qmembers, .func (PySem.W.fnOf "_law_members" "_law_members" (defArgs s_qmembers) (defBody s_qmembers) (defScope s_qmembers) .none kV_qmembers dc_qmembers pm_qmembers an_qmembers cd_qmembers ct_qmembers), sl_qmembers⟩)
    (c_qmembers : PySem.W.codeIn K cd_qmembers "_law_members" = true)
    (k_qmembers : PySem.W.keepIn K (.ref f_qmembers) = true)
    (a_qchoices : PySem.W.nsIn K mainGlobals "_law_choices" = some (some (.ref f_qchoices)))
    (l_qchoices : K.lookup f_qchoices = some ⟨oc_qchoices, od_qchoices, .func (PySem.W.fnOf "_law_choices" "_law_choices" (defArgs s_qchoices) (defBody s_qchoices) (defScope s_qchoices) .none kV_qchoices dc_qchoices pm_qchoices an_qchoices cd_qchoices ct_qchoices), sl_qchoices⟩)
    (c_qchoices : PySem.W.codeIn K cd_qchoices "_law_choices" = true)
    (k_qchoices : PySem.W.keepIn K (.ref f_qchoices) = true)
    (a_qat : PySem.W.nsIn K mainGlobals "_law_at" = some (some (.ref f_qat)))
    (l_qat : K.lookup f_qat = some ⟨oc_qat, od_qat, .func (PySem.W.fnOf "_law_at" "_law_at" (defArgs s_qat) (defBody s_qat) (defScope s_qat) .none kV_qat dc_qat pm_qat an_qat cd_qat ct_qat), sl_qat⟩)
    (c_qat : PySem.W.codeIn K cd_qat "_law_at" = true)
    (k_qat : PySem.W.keepIn K (.ref f_qat) = true)
    (a_qby_differences : PySem.W.nsIn K mainGlobals "_law_by_differences" = some (some (.ref f_qby_differences)))
    (l_qby_differences : K.lookup f_qby_differences = some ⟨oc_qby_differences, od_qby_differences, .func (PySem.W.fnOf "_law_by_differences" "_law_by_differences" (defArgs s_qby_differences) (defBody s_qby_differences) (defScope s_qby_differences) .none kV_qby_differences dc_qby_differences pm_qby_differences an_qby_differences cd_qby_differences ct_qby_differences), sl_qby_differences⟩)
    (c_qby_differences : PySem.W.codeIn K cd_qby_differences "_law_by_differences" = true)
    (k_qby_differences : PySem.W.keepIn K (.ref f_qby_differences) = true)
    (a_qquotient_value : PySem.W.nsIn K mainGlobals "_law_quotient_value" = some (some (.ref f_qquotient_value)))
    (l_qquotient_value : K.lookup f_qquotient_value = some ⟨oc_qquotient_value, od_qquotient_value, .func (PySem.W.fnOf "_law_quotient_value" "_law_quotient_value" (defArgs s_qquotient_value) (defBody s_qquotient_value) (defScope s_qquotient_value) .none kV_qquotient_value dc_qquotient_value pm_qquotient_value an_qquotient_value cd_qquotient_value ct_qquotient_value), sl_qquotient_value⟩)
    (c_qquotient_value : PySem.W.codeIn K cd_qquotient_value "_law_quotient_value" = true)
    (k_qquotient_value : PySem.W.keepIn K (.ref f_qquotient_value) = true)
    (a_qright : PySem.W.nsIn K mainGlobals "_law_right" = some (some (.ref f_qright)))
    (l_qright : K.lookup f_qright = some ⟨oc_qright, od_qright, .func (PySem.W.fnOf "_law_right" "_law_right" (defArgs s_qright) (defBody s_qright) (defScope s_qright) .none kV_qright dc_qright pm_qright an_qright (.ref cc_qright) ct_qright), sl_qright⟩)
    (c_qright : PySem.W.codeIn K (.ref cc_qright) "_law_right" = true)
    (k_qright : PySem.W.keepIn K (.ref f_qright) = true)
    (a_law : PySem.W.nsIn K mainGlobals "law" = some (some (.ref f_law)))
    (l_law : K.lookup f_law = some ⟨oc_law, od_law, .func (PySem.W.fnOf "law" "law" (defArgs s_law) (defBody s_law) (defScope s_law) .none kV_law dc_law pm_law an_law (.ref cc_law) ct_law), sl_law⟩)
    (c_law : PySem.W.codeIn K (.ref cc_law) "law" = true)
    (k_law : PySem.W.keepIn K (.ref f_law) = true)
    (hc_free_set_in : K.lookup cc_free_set_in = some ⟨ccl_free_set_in, cdd_free_set_in, .fields vs_free_set_in, ccs_free_set_in⟩)
    (h5_free_set_in : vs_free_set_in[11]? = some (.ref tb_free_set_in))
    (nt_free_set_in : K.lookup tb_free_set_in = none)
    (ht_free_set_in : ((PyProof.Rows.recsOf q).find? fun e => e.name == ("free_set_in" : Str)).isSome = true)
    (nd : ((TT tb_free_set_in).map (·.1)).Nodup)
    (z_abs : PySem.W.nsIn K mainGlobals "abs" = some none)
    (z_all : PySem.W.nsIn K mainGlobals "all" = some none)
    (z_any : PySem.W.nsIn K mainGlobals "any" = some none)
    (z_bool : PySem.W.nsIn K mainGlobals "bool" = some none)
    (z_dict : PySem.W.nsIn K mainGlobals "dict" = some none)
    (z_enumerate : PySem.W.nsIn K mainGlobals "enumerate" = some none)
    (z_int : PySem.W.nsIn K mainGlobals "int" = some none)
    (z_isinstance : PySem.W.nsIn K mainGlobals "isinstance" = some none)
    (z_len : PySem.W.nsIn K mainGlobals "len" = some none)
    (z_list : PySem.W.nsIn K mainGlobals "list" = some none)
    (z_max : PySem.W.nsIn K mainGlobals "max" = some none)
    (z_min : PySem.W.nsIn K mainGlobals "min" = some none)
    (z_next : PySem.W.nsIn K mainGlobals "next" = some none)
    (z_range : PySem.W.nsIn K mainGlobals "range" = some none)
    (z_set : PySem.W.nsIn K mainGlobals "set" = some none)
    (z_sorted : PySem.W.nsIn K mainGlobals "sorted" = some none)
    (z_sum : PySem.W.nsIn K mainGlobals "sum" = some none)
    (z_tuple : PySem.W.nsIn K mainGlobals "tuple" = some none)
    (z_zip : PySem.W.nsIn K mainGlobals "zip" = some none)
    (w_comb : PySem.W.nsIn K mainGlobals "comb" = some (some (.builtin "math.comb")))
    (w_factorial : PySem.W.nsIn K mainGlobals "factorial" = some (some (.builtin "math.factorial")))
    (y_MAX_EXPONENT : PySem.W.nsIn K mainGlobals "MAX_EXPONENT" = some (some (.int 60 t_MAX_EXPONENT)))
    (y_MAX_LETTERS : PySem.W.nsIn K mainGlobals "MAX_LETTERS" = some (some (.int 8 t_MAX_LETTERS)))
    (y_MAX_MEMBERS : PySem.W.nsIn K mainGlobals "MAX_MEMBERS" = some (some (.int 24 t_MAX_MEMBERS)))
    (y_MAX_MEMBER_EXPONENT : PySem.W.nsIn K mainGlobals "MAX_MEMBER_EXPONENT" = some (some (.int 8 t_MAX_MEMBER_EXPONENT)))
    (y_MAX_PASSED : PySem.W.nsIn K mainGlobals "MAX_PASSED" = some (some (.int 200 t_MAX_PASSED)))
    (y_MOST_COUNTED : PySem.W.nsIn K mainGlobals "MOST_COUNTED" = some (some (.int 40 t_MOST_COUNTED)))
    (y_MOST_FAR : PySem.W.nsIn K mainGlobals "MOST_FAR" = some (some (.int 1000000 t_MOST_FAR)))
    : LawAtG l w K 75 63 "_law_script" mg fa h := by
  have e := hfa.symm.trans (PySem.W.mg_of X G a_law)
  have e2 : fa = f_law := by cases e; rfl
  rw [e2]
  have T : Txt l.prog K mg t_MAX_EXPONENT t_MAX_LETTERS t_MAX_MEMBERS t_MAX_MEMBER_EXPONENT t_MAX_PASSED t_MOST_COUNTED t_MOST_FAR c_KeptMembers c_Lot tb_free_set_in := ⟨PySem.W.mg_none_of X G z_abs, PySem.W.mg_none_of X G z_all, PySem.W.mg_none_of X G z_any, PySem.W.mg_none_of X G z_bool, PySem.W.mg_none_of X G z_dict, PySem.W.mg_none_of X G z_enumerate, PySem.W.mg_none_of X G z_int, PySem.W.mg_none_of X G z_isinstance, PySem.W.mg_none_of X G z_len, PySem.W.mg_none_of X G z_list, PySem.W.mg_none_of X G z_max, PySem.W.mg_none_of X G z_min, PySem.W.mg_none_of X G z_next, PySem.W.mg_none_of X G z_range, PySem.W.mg_none_of X G z_set, PySem.W.mg_none_of X G z_sorted, PySem.W.mg_none_of X G z_sum, PySem.W.mg_none_of X G z_tuple, PySem.W.mg_none_of X G z_zip, PySem.W.mg_of X G w_comb, PySem.W.mg_of X G w_factorial, PySem.W.mg_of X G y_MAX_EXPONENT, PySem.W.mg_of X G y_MAX_LETTERS, PySem.W.mg_of X G y_MAX_MEMBERS, PySem.W.mg_of X G y_MAX_MEMBER_EXPONENT, PySem.W.mg_of X G y_MAX_PASSED, PySem.W.mg_of X G y_MOST_COUNTED, PySem.W.mg_of X G y_MOST_FAR, PySem.W.mg_of X G cl_KeptMembers, ⟨⟨pg_KeptMembers, ic_KeptMembers, po_KeptMembers, sa_KeptMembers⟩, ⟨ca_KeptMembers, cn_KeptMembers, ct_KeptMembers, cm_KeptMembers⟩, noSub_all, noIsi_of ic_KeptMembers ty_KeptMembers, ms_KeptMembers, kp_KeptMembers⟩, PySem.W.mg_of X G cl_Lot, ⟨⟨pg_Lot, ic_Lot, po_Lot, sa_Lot⟩, ⟨ca_Lot, cn_Lot, ct_Lot, cm_Lot⟩, noSub_all, noIsi_of ic_Lot ty_Lot, ms_Lot, kp_Lot⟩, ⟨_, s1_KeptMembers_own_members, s2_KeptMembers_own_members, s3_KeptMembers_own_members, s4_KeptMembers_own_members, s5_KeptMembers_own_members, by decide⟩, ⟨_, s1_Lot_own_letters, s2_Lot_own_letters, s3_Lot_own_letters, s4_Lot_own_letters, s5_Lot_own_letters, by decide⟩, ⟨_, s1_Lot_own_members, s2_Lot_own_members, s3_Lot_own_members, s4_Lot_own_members, s5_Lot_own_members, by decide⟩⟩
  have F_is_whole := fun_mk (st := s_is_whole) l_is_whole c_is_whole k_is_whole
  have D_is_whole : Dfn K mg "is_whole" s_is_whole ["value"] f_is_whole _ := ⟨F_is_whole, PySem.W.mg_of X G a_is_whole, F_is_whole.binds fun _ _ _ _ _ _ us hl => match us, hl with | [_], _ => rfl⟩
  have F_is_within := fun_mk (st := s_is_within) l_is_within c_is_within k_is_within
  have D_is_within : Dfn K mg "is_within" s_is_within ["value", "least", "greatest"] f_is_within _ := ⟨F_is_within, PySem.W.mg_of X G a_is_within, F_is_within.binds fun _ _ _ _ _ _ us hl => match us, hl with | [_, _, _], _ => rfl⟩
  have F_require_within := fun_mk (st := s_require_within) l_require_within c_require_within k_require_within
  have D_require_within : Dfn K mg "require_within" s_require_within ["value", "least", "greatest"] f_require_within _ := ⟨F_require_within, PySem.W.mg_of X G a_require_within, F_require_within.binds fun _ _ _ _ _ _ us hl => match us, hl with | [_, _, _], _ => rfl⟩
  have F_is_product_in := fun_mk (st := s_is_product_in) l_is_product_in c_is_product_in k_is_product_in
  have D_is_product_in : Dfn K mg "is_product_in" s_is_product_in ["letters", "value"] f_is_product_in _ := ⟨F_is_product_in, PySem.W.mg_of X G a_is_product_in, F_is_product_in.binds fun _ _ _ _ _ _ us hl => match us, hl with | [_, _], _ => rfl⟩
  have F_divides := fun_mk (st := s_divides) l_divides c_divides k_divides
  have D_divides : Dfn K mg "divides" s_divides ["one", "other"] f_divides _ := ⟨F_divides, PySem.W.mg_of X G a_divides, F_divides.binds fun _ _ _ _ _ _ us hl => match us, hl with | [_, _], _ => rfl⟩
  have F_require_letters := fun_mk (st := s_require_letters) l_require_letters c_require_letters k_require_letters
  have D_require_letters : Dfn K mg "require_letters" s_require_letters ["letters"] f_require_letters _ := ⟨F_require_letters, PySem.W.mg_of X G a_require_letters, F_require_letters.binds fun _ _ _ _ _ _ us hl => match us, hl with | [_], _ => rfl⟩
  have F_least_of := fun_mk (st := s_least_of) l_least_of c_least_of k_least_of
  have D_least_of : Dfn K mg "least_of" s_least_of ["products"] f_least_of _ := ⟨F_least_of, PySem.W.mg_of X G a_least_of, F_least_of.binds fun _ _ _ _ _ _ us hl => match us, hl with | [_], _ => rfl⟩
  have F_are_long := fun_mk (st := s_are_long) l_are_long c_are_long k_are_long
  have D_are_long : Dfn K mg "are_long" s_are_long ["products"] f_are_long _ := ⟨F_are_long, PySem.W.mg_of X G a_are_long, F_are_long.binds fun _ _ _ _ _ _ us hl => match us, hl with | [_], _ => rfl⟩
  have F_few_least_of := fun_mk (st := s_few_least_of) l_few_least_of c_few_least_of k_few_least_of
  have D_few_least_of : Dfn K mg "few_least_of" s_few_least_of ["products"] f_few_least_of _ := ⟨F_few_least_of, PySem.W.mg_of X G a_few_least_of, F_few_least_of.binds fun _ _ _ _ _ _ us hl => match us, hl with | [_], _ => rfl⟩
  have F_KeptMembers___init__ := fun_mk (st := s_KeptMembers___init__) l_KeptMembers___init__ c_KeptMembers___init__ k_KeptMembers___init__
  have D_KeptMembers___init__ : Mtd K c_KeptMembers "__init__" "KeptMembers.__init__" s_KeptMembers___init__ ["self", "members"] f_KeptMembers___init__ _ := ⟨F_KeptMembers___init__, F_KeptMembers___init__.binds fun _ _ _ _ _ _ us hl => match us, hl with | [_, _], _ => rfl, a_KeptMembers___init__, i_KeptMembers___init__⟩
  have F_is_passed_member := fun_mk (st := s_is_passed_member) l_is_passed_member c_is_passed_member k_is_passed_member
  have D_is_passed_member : Dfn K mg "is_passed_member" s_is_passed_member ["letters", "value"] f_is_passed_member _ := ⟨F_is_passed_member, PySem.W.mg_of X G a_is_passed_member, F_is_passed_member.binds fun _ _ _ _ _ _ us hl => match us, hl with | [_, _], _ => rfl⟩
  have F_members_told := fun_mk (st := s_members_told) l_members_told c_members_told k_members_told
  have D_members_told : Dfn K mg "members_told" s_members_told ["letters", "members"] f_members_told _ := ⟨F_members_told, PySem.W.mg_of X G a_members_told, F_members_told.binds fun _ _ _ _ _ _ us hl => match us, hl with | [_, _], _ => rfl⟩
  have F_Lot___init__ := fun_mk (st := s_Lot___init__) l_Lot___init__ c_Lot___init__ k_Lot___init__
  have D_Lot___init__ : Mtd K c_Lot "__init__" "Lot.__init__" s_Lot___init__ ["self", "letters", "members"] f_Lot___init__ _ := ⟨F_Lot___init__, F_Lot___init__.binds fun _ _ _ _ _ _ us hl => match us, hl with | [_, _, _], _ => rfl, a_Lot___init__, i_Lot___init__⟩
  have F_is_all_in := fun_mk (st := s_is_all_in) l_is_all_in c_is_all_in k_is_all_in
  have D_is_all_in : Dfn K mg "is_all_in" s_is_all_in ["members"] f_is_all_in _ := ⟨F_is_all_in, PySem.W.mg_of X G a_is_all_in, F_is_all_in.binds fun _ _ _ _ _ _ us hl => match us, hl with | [_], _ => rfl⟩
  have F_require_lot := fun_mk (st := s_require_lot) l_require_lot c_require_lot k_require_lot
  have D_require_lot : Dfn K mg "require_lot" s_require_lot ["value"] f_require_lot _ := ⟨F_require_lot, PySem.W.mg_of X G a_require_lot, F_require_lot.binds fun _ _ _ _ _ _ us hl => match us, hl with | [_], _ => rfl⟩
  have F_most_common_letter := fun_mk (st := s_most_common_letter) l_most_common_letter c_most_common_letter k_most_common_letter
  have D_most_common_letter : Dfn K mg "most_common_letter" s_most_common_letter ["members"] f_most_common_letter _ := ⟨F_most_common_letter, PySem.W.mg_of X G a_most_common_letter, F_most_common_letter.binds fun _ _ _ _ _ _ us hl => match us, hl with | [_], _ => rfl⟩
  have F_split_exponent := fun_mk (st := s_split_exponent) l_split_exponent c_split_exponent k_split_exponent
  have D_split_exponent : Dfn K mg "split_exponent" s_split_exponent ["members", "place"] f_split_exponent _ := ⟨F_split_exponent, PySem.W.mg_of X G a_split_exponent, F_split_exponent.binds fun _ _ _ _ _ _ us hl => match us, hl with | [_, _], _ => rfl⟩
  have F_apart_numerator := fun_mk (st := s_apart_numerator) l_apart_numerator c_apart_numerator k_apart_numerator
  have D_apart_numerator : Dfn K mg "apart_numerator" s_apart_numerator ["members"] f_apart_numerator _ := ⟨F_apart_numerator, PySem.W.mg_of X G a_apart_numerator, F_apart_numerator.binds fun _ _ _ _ _ _ us hl => match us, hl with | [_], _ => rfl⟩
  have F_lessened := fun_mk (st := s_lessened) l_lessened c_lessened k_lessened
  have D_lessened : Dfn K mg "lessened" s_lessened ["member", "place", "exponent"] f_lessened _ := ⟨F_lessened, PySem.W.mg_of X G a_lessened, F_lessened.binds fun _ _ _ _ _ _ us hl => match us, hl with | [_, _, _], _ => rfl⟩
  have F_numerator_of := fun_mk (st := s_numerator_of) l_numerator_of c_numerator_of k_numerator_of
  have D_numerator_of : Dfn K mg "numerator_of" s_numerator_of ["members"] f_numerator_of _ := ⟨F_numerator_of, PySem.W.mg_of X G a_numerator_of, F_numerator_of.binds fun _ _ _ _ _ _ us hl => match us, hl with | [_], _ => rfl⟩
  have F_numerator_in := fun_mk (st := s_numerator_in) l_numerator_in c_numerator_in k_numerator_in
  have D_numerator_in : Dfn K mg "numerator_in" s_numerator_in ["lot"] f_numerator_in _ := ⟨F_numerator_in, PySem.W.mg_of X G a_numerator_in, F_numerator_in.binds fun _ _ _ _ _ _ us hl => match us, hl with | [_], _ => rfl⟩
  have F_left_count := fun_mk (st := s_left_count) l_left_count c_left_count k_left_count
  have D_left_count : Dfn K mg "left_count" s_left_count ["letters", "numerator_told", "degree"] f_left_count _ := ⟨F_left_count, PySem.W.mg_of X G a_left_count, F_left_count.binds fun _ _ _ _ _ _ us hl => match us, hl with | [_, _, _], _ => rfl⟩
  have F_is_free_in := fun_mk (st := s_is_free_in) l_is_free_in c_is_free_in k_is_free_in
  have D_is_free_in : Dfn K mg "is_free_in" s_is_free_in ["members", "letters_told"] f_is_free_in _ := ⟨F_is_free_in, PySem.W.mg_of X G a_is_free_in, F_is_free_in.binds fun _ _ _ _ _ _ us hl => match us, hl with | [_, _], _ => rfl⟩
  have F_sets_of := fun_mk (st := s_sets_of) l_sets_of c_sets_of k_sets_of
  have D_sets_of : Dfn K mg "sets_of" s_sets_of ["letters", "size"] f_sets_of _ := ⟨F_sets_of, PySem.W.mg_of X G a_sets_of, F_sets_of.binds fun _ _ _ _ _ _ us hl => match us, hl with | [_, _], _ => rfl⟩
  have F_free_set_in := fun_mk (st := s_free_set_in) l_free_set_in c_free_set_in k_free_set_in
  have D_free_set_in : DfnC K mg "free_set_in" s_free_set_in ["lot"] f_free_set_in _ cc_free_set_in := ⟨⟨⟨_, _, _, _, _, _, _, _, rfl, l_free_set_in, c_free_set_in⟩, k_free_set_in⟩, PySem.W.mg_of X G a_free_set_in, F_free_set_in.binds fun _ _ _ _ _ _ us hl => match us, hl with | [_], _ => rfl⟩
  have F_dimension_in := fun_mk (st := s_dimension_in) l_dimension_in c_dimension_in k_dimension_in
  have D_dimension_in : DfnC K mg "dimension_in" s_dimension_in ["lot"] f_dimension_in _ cc_dimension_in := ⟨⟨⟨_, _, _, _, _, _, _, _, rfl, l_dimension_in, c_dimension_in⟩, k_dimension_in⟩, PySem.W.mg_of X G a_dimension_in, F_dimension_in.binds fun _ _ _ _ _ _ us hl => match us, hl with | [_], _ => rfl⟩
  have F_stretched_comb := fun_mk (st := s_stretched_comb) l_stretched_comb c_stretched_comb k_stretched_comb
  have D_stretched_comb : Dfn K mg "stretched_comb" s_stretched_comb ["top", "bottom"] f_stretched_comb _ := ⟨F_stretched_comb, PySem.W.mg_of X G a_stretched_comb, F_stretched_comb.binds fun _ _ _ _ _ _ us hl => match us, hl with | [_, _], _ => rfl⟩
  have F_steady_value := fun_mk (st := s_steady_value) l_steady_value c_steady_value k_steady_value
  have D_steady_value : Dfn K mg "steady_value" s_steady_value ["letters", "numerator_told", "degree"] f_steady_value _ := ⟨F_steady_value, PySem.W.mg_of X G a_steady_value, F_steady_value.binds fun _ _ _ _ _ _ us hl => match us, hl with | [_, _, _], _ => rfl⟩
  have F_steady_row_in := fun_mk (st := s_steady_row_in) l_steady_row_in c_steady_row_in k_steady_row_in
  have D_steady_row_in : DfnC K mg "steady_row_in" s_steady_row_in ["lot"] f_steady_row_in _ cc_steady_row_in := ⟨⟨⟨_, _, _, _, _, _, _, _, rfl, l_steady_row_in, c_steady_row_in⟩, k_steady_row_in⟩, PySem.W.mg_of X G a_steady_row_in, F_steady_row_in.binds fun _ _ _ _ _ _ us hl => match us, hl with | [_], _ => rfl⟩
  have F_steady_degree_in := fun_mk (st := s_steady_degree_in) l_steady_degree_in c_steady_degree_in k_steady_degree_in
  have D_steady_degree_in : Dfn K mg "steady_degree_in" s_steady_degree_in ["lot"] f_steady_degree_in _ := ⟨F_steady_degree_in, PySem.W.mg_of X G a_steady_degree_in, F_steady_degree_in.binds fun _ _ _ _ _ _ us hl => match us, hl with | [_], _ => rfl⟩
  have F_weight_in := fun_mk (st := s_weight_in) l_weight_in c_weight_in k_weight_in
  have D_weight_in : DfnC K mg "weight_in" s_weight_in ["lot"] f_weight_in _ cc_weight_in := ⟨⟨⟨_, _, _, _, _, _, _, _, rfl, l_weight_in, c_weight_in⟩, k_weight_in⟩, PySem.W.mg_of X G a_weight_in, F_weight_in.binds fun _ _ _ _ _ _ us hl => match us, hl with | [_], _ => rfl⟩
  have F_numerator := fun_mk (st := s_numerator) l_numerator c_numerator k_numerator
  have D_numerator : Dfn K mg "numerator" s_numerator ["lot"] f_numerator _ := ⟨F_numerator, PySem.W.mg_of X G a_numerator, F_numerator.binds fun _ _ _ _ _ _ us hl => match us, hl with | [_], _ => rfl⟩
  have F_left_counts := fun_mk (st := s_left_counts) l_left_counts c_left_counts k_left_counts
  have D_left_counts : Dfn K mg "left_counts" s_left_counts ["lot", "last"] f_left_counts _ := ⟨F_left_counts, PySem.W.mg_of X G a_left_counts, F_left_counts.binds fun _ _ _ _ _ _ us hl => match us, hl with | [_, _], _ => rfl⟩
  have F_count_at := fun_mk (st := s_count_at) l_count_at c_count_at k_count_at
  have D_count_at : Dfn K mg "count_at" s_count_at ["lot", "degree"] f_count_at _ := ⟨F_count_at, PySem.W.mg_of X G a_count_at, F_count_at.binds fun _ _ _ _ _ _ us hl => match us, hl with | [_, _], _ => rfl⟩
  have F_dimension := fun_mk (st := s_dimension) l_dimension c_dimension k_dimension
  have D_dimension : DfnC K mg "dimension" s_dimension ["lot"] f_dimension _ cc_dimension := ⟨⟨⟨_, _, _, _, _, _, _, _, rfl, l_dimension, c_dimension⟩, k_dimension⟩, PySem.W.mg_of X G a_dimension, F_dimension.binds fun _ _ _ _ _ _ us hl => match us, hl with | [_], _ => rfl⟩
  have F_weight := fun_mk (st := s_weight) l_weight c_weight k_weight
  have D_weight : DfnC K mg "weight" s_weight ["lot"] f_weight _ cc_weight := ⟨⟨⟨_, _, _, _, _, _, _, _, rfl, l_weight, c_weight⟩, k_weight⟩, PySem.W.mg_of X G a_weight, F_weight.binds fun _ _ _ _ _ _ us hl => match us, hl with | [_], _ => rfl⟩
  have F_steady_row := fun_mk (st := s_steady_row) l_steady_row c_steady_row k_steady_row
  have D_steady_row : DfnC K mg "steady_row" s_steady_row ["lot"] f_steady_row _ cc_steady_row := ⟨⟨⟨_, _, _, _, _, _, _, _, rfl, l_steady_row, c_steady_row⟩, k_steady_row⟩, PySem.W.mg_of X G a_steady_row, F_steady_row.binds fun _ _ _ _ _ _ us hl => match us, hl with | [_], _ => rfl⟩
  have F_steady_degree := fun_mk (st := s_steady_degree) l_steady_degree c_steady_degree k_steady_degree
  have D_steady_degree : Dfn K mg "steady_degree" s_steady_degree ["lot"] f_steady_degree _ := ⟨F_steady_degree, PySem.W.mg_of X G a_steady_degree, F_steady_degree.binds fun _ _ _ _ _ _ us hl => match us, hl with | [_], _ => rfl⟩
  have F_qjug := fun_mk (st := s_qjug) l_qjug c_qjug k_qjug
  have D_qjug : Dfn K mg "_law_jug" s_qjug ["_law_script", "_law_turn"] f_qjug _ := ⟨F_qjug, PySem.W.mg_of X G a_qjug, F_qjug.binds fun _ _ _ _ _ _ us hl => match us, hl with | [_, _], _ => rfl⟩
  have F_qpour := fun_mk (st := s_qpour) l_qpour c_qpour k_qpour
  have D_qpour : Dfn K mg "_law_pour" s_qpour ["_law_jug_here", "_law_total"] f_qpour _ := ⟨F_qpour, PySem.W.mg_of X G a_qpour, F_qpour.binds fun _ _ _ _ _ _ us hl => match us, hl with | [_, _], _ => rfl⟩
  have F_qtaken := fun_mk (st := s_qtaken) l_qtaken c_qtaken k_qtaken
  have D_qtaken : Dfn K mg "_law_taken" s_qtaken ["_law_jug_here", "_law_items"] f_qtaken _ := ⟨F_qtaken, PySem.W.mg_of X G a_qtaken, F_qtaken.binds fun _ _ _ _ _ _ us hl => match us, hl with | [_, _], _ => rfl⟩
  have F_qdivides := fun_mk (st := s_qdivides) l_qdivides c_qdivides k_qdivides
  have D_qdivides : Dfn K mg "_law_divides" s_qdivides ["_law_one", "_law_other"] f_qdivides _ := ⟨F_qdivides, PySem.W.mg_of X G a_qdivides, F_qdivides.binds fun _ _ _ _ _ _ us hl => match us, hl with | [_, _], _ => rfl⟩
  have F_qleast := fun_mk (st := s_qleast) l_qleast c_qleast k_qleast
  have D_qleast : Dfn K mg "_law_least" s_qleast ["_law_products"] f_qleast _ := ⟨F_qleast, PySem.W.mg_of X G a_qleast, F_qleast.binds fun _ _ _ _ _ _ us hl => match us, hl with | [_], _ => rfl⟩
  have F_qproduct := fun_mk (st := s_qproduct) l_qproduct c_qproduct k_qproduct
  have D_qproduct : Dfn K mg "_law_product" s_qproduct ["_law_jug_here", "_law_letters", "_law_most"] f_qproduct _ := ⟨F_qproduct, PySem.W.mg_of X G a_qproduct, F_qproduct.binds fun _ _ _ _ _ _ us hl => match us, hl with | [_, _, _], _ => rfl⟩
  have F_qmembers := fun_mk (st := s_qmembers) l_qmembers c_qmembers k_qmembers
  have D_qmembers : Dfn K mg "_law_members" s_qmembers ["_law_jug_here", "_law_letters", "_law_total", "_law_most"] f_qmembers _ := ⟨F_qmembers, PySem.W.mg_of X G a_qmembers, F_qmembers.binds fun _ _ _ _ _ _ us hl => match us, hl with | [_, _, _, _], _ => rfl⟩
  have F_qchoices := fun_mk (st := s_qchoices) l_qchoices c_qchoices k_qchoices
  have D_qchoices : Dfn K mg "_law_choices" s_qchoices ["_law_top", "_law_bottom"] f_qchoices _ := ⟨F_qchoices, PySem.W.mg_of X G a_qchoices, F_qchoices.binds fun _ _ _ _ _ _ us hl => match us, hl with | [_, _], _ => rfl⟩
  have F_qat := fun_mk (st := s_qat) l_qat c_qat k_qat
  have D_qat : Dfn K mg "_law_at" s_qat ["_law_row", "_law_degree"] f_qat _ := ⟨F_qat, PySem.W.mg_of X G a_qat, F_qat.binds fun _ _ _ _ _ _ us hl => match us, hl with | [_, _], _ => rfl⟩
  have F_qby_differences := fun_mk (st := s_qby_differences) l_qby_differences c_qby_differences k_qby_differences
  have D_qby_differences : Dfn K mg "_law_by_differences" s_qby_differences ["_law_counts", "_law_start", "_law_size"] f_qby_differences _ := ⟨F_qby_differences, PySem.W.mg_of X G a_qby_differences, F_qby_differences.binds fun _ _ _ _ _ _ us hl => match us, hl with | [_, _, _], _ => rfl⟩
  have F_qquotient_value := fun_mk (st := s_qquotient_value) l_qquotient_value c_qquotient_value k_qquotient_value
  have D_qquotient_value : Dfn K mg "_law_quotient_value" s_qquotient_value ["_law_due", "_law_letters", "_law_size"] f_qquotient_value _ := ⟨F_qquotient_value, PySem.W.mg_of X G a_qquotient_value, F_qquotient_value.binds fun _ _ _ _ _ _ us hl => match us, hl with | [_, _, _], _ => rfl⟩
  have F_qright := fun_mk (st := s_qright) l_qright c_qright k_qright
  have D_qright : DfnC K mg "_law_right" s_qright ["_law_jug_here"] f_qright _ cc_qright := ⟨⟨⟨_, _, _, _, _, _, _, _, rfl, l_qright, c_qright⟩, k_qright⟩, PySem.W.mg_of X G a_qright, F_qright.binds fun _ _ _ _ _ _ us hl => match us, hl with | [_], _ => rfl⟩
  have F_law := fun_mk (st := s_law) l_law c_law k_law
  have D_law : DfnC K mg "law" s_law ["_law_script"] f_law _ cc_law := ⟨⟨⟨_, _, _, _, _, _, _, _, rfl, l_law, c_law⟩, k_law⟩, PySem.W.mg_of X G a_law, F_law.binds fun _ _ _ _ _ _ us hl => match us, hl with | [_], _ => rfl⟩
  have Z_free_set_in := tab "free_set_in" cc_free_set_in tb_free_set_in ht_free_set_in (tabIn_mk a_free_set_in l_free_set_in rfl hc_free_set_in h5_free_set_in)
  refine law_endG (l := l) (sp := (sp_law c_KeptMembers c_Lot tb_free_set_in)) [(cc_free_set_in, tb_free_set_in)] (TT tb_free_set_in) D_law (fun s v => .of_eq rfl) (List.forall_mem_cons.2 ⟨⟨Z_free_set_in.1, Z_free_set_in.2, nt_free_set_in⟩, List.forall_mem_nil _⟩) rfl nd (fun ns hT => ⟨_, rfl, hT, rfl⟩) fun base _ _ TBs => ?_
  have B_free_set_in := TBs (cc_free_set_in, tb_free_set_in) (by simp)
  have G_is_whole := ok_is_whole (P := l.prog) (w := w) (base := base) D_is_whole T
  have G_is_within := ok_is_within (P := l.prog) (w := w) (base := base) D_is_within T D_is_whole G_is_whole
  have G_require_within := ok_require_within (P := l.prog) (w := w) (base := base) D_require_within T D_is_within G_is_within
  have G_is_product_in := ok_is_product_in (P := l.prog) (w := w) (base := base) D_is_product_in T D_is_within G_is_within
  have G_divides := ok_divides (P := l.prog) (w := w) (base := base) D_divides T
  have G_require_letters := ok_require_letters (P := l.prog) (w := w) (base := base) D_require_letters T D_require_within G_require_within
  have G_least_of := ok_least_of (P := l.prog) (w := w) (base := base) D_least_of T D_divides G_divides
  have G_are_long := ok_are_long (P := l.prog) (w := w) (base := base) D_are_long T
  have G_few_least_of := ok_few_least_of (P := l.prog) (w := w) (base := base) D_few_least_of T D_divides G_divides D_are_long G_are_long D_least_of G_least_of
  have G_KeptMembers___init__ := ok_KeptMembers___init__ (P := l.prog) (w := w) (base := base) D_KeptMembers___init__ T
  have G_is_passed_member := ok_is_passed_member (P := l.prog) (w := w) (base := base) D_is_passed_member T D_is_within G_is_within
  have G_members_told := ok_members_told (P := l.prog) (w := w) (base := base) D_members_told T D_few_least_of G_few_least_of D_is_passed_member G_is_passed_member
  have G_Lot___init__ := ok_Lot___init__ (P := l.prog) (w := w) (base := base) D_Lot___init__ T D_members_told G_members_told D_require_letters G_require_letters
  have G_is_all_in := ok_is_all_in (P := l.prog) (w := w) (base := base) D_is_all_in T
  have G_require_lot := ok_require_lot (P := l.prog) (w := w) (base := base) D_require_lot T
  have G_most_common_letter := ok_most_common_letter (P := l.prog) (w := w) (base := base) D_most_common_letter T
  have G_split_exponent := ok_split_exponent (P := l.prog) (w := w) (base := base) D_split_exponent T
  have G_apart_numerator := ok_apart_numerator (P := l.prog) (w := w) (base := base) D_apart_numerator T
  have G_lessened := ok_lessened (P := l.prog) (w := w) (base := base) D_lessened T
  have G_numerator_of := ok_numerator_of (P := l.prog) (w := w) (base := base) D_numerator_of T D_least_of G_least_of D_lessened G_lessened D_split_exponent G_split_exponent D_apart_numerator G_apart_numerator D_most_common_letter G_most_common_letter D_is_all_in G_is_all_in
  have G_numerator_in := ok_numerator_in (P := l.prog) (w := w) (base := base) D_numerator_in T D_numerator_of G_numerator_of
  have G_left_count := ok_left_count (P := l.prog) (w := w) (base := base) D_left_count T
  have G_is_free_in := ok_is_free_in (P := l.prog) (w := w) (base := base) D_is_free_in T
  have G_sets_of := ok_sets_of (P := l.prog) (w := w) (base := base) D_sets_of T
  have G_free_set_in := ok_free_set_in (P := l.prog) (w := w) (base := base) D_free_set_in T B_free_set_in D_sets_of G_sets_of D_is_free_in G_is_free_in
  have G_dimension_in := ok_dimension_in (P := l.prog) (w := w) (base := base) D_dimension_in T D_free_set_in G_free_set_in
  have G_stretched_comb := ok_stretched_comb (P := l.prog) (w := w) (base := base) D_stretched_comb T
  have G_steady_value := ok_steady_value (P := l.prog) (w := w) (base := base) D_steady_value T D_stretched_comb G_stretched_comb
  have G_steady_row_in := ok_steady_row_in (P := l.prog) (w := w) (base := base) D_steady_row_in T D_dimension_in G_dimension_in D_steady_value G_steady_value D_numerator_in G_numerator_in
  have G_steady_degree_in := ok_steady_degree_in (P := l.prog) (w := w) (base := base) D_steady_degree_in T D_left_count G_left_count D_steady_value G_steady_value D_numerator_in G_numerator_in
  have G_weight_in := ok_weight_in (P := l.prog) (w := w) (base := base) D_weight_in T D_steady_degree_in G_steady_degree_in D_left_count G_left_count D_numerator_in G_numerator_in D_steady_row_in G_steady_row_in D_dimension_in G_dimension_in
  have G_numerator := ok_numerator (P := l.prog) (w := w) (base := base) D_numerator T D_numerator_in G_numerator_in D_require_lot G_require_lot
  have G_left_counts := ok_left_counts (P := l.prog) (w := w) (base := base) D_left_counts T D_left_count G_left_count D_numerator_in G_numerator_in D_require_within G_require_within D_require_lot G_require_lot
  have G_count_at := ok_count_at (P := l.prog) (w := w) (base := base) D_count_at T D_left_count G_left_count D_numerator_in G_numerator_in D_require_within G_require_within D_require_lot G_require_lot
  have G_dimension := ok_dimension (P := l.prog) (w := w) (base := base) D_dimension T D_dimension_in G_dimension_in D_require_lot G_require_lot
  have G_weight := ok_weight (P := l.prog) (w := w) (base := base) D_weight T D_weight_in G_weight_in D_require_lot G_require_lot
  have G_steady_row := ok_steady_row (P := l.prog) (w := w) (base := base) D_steady_row T D_steady_row_in G_steady_row_in D_require_lot G_require_lot
  have G_steady_degree := ok_steady_degree (P := l.prog) (w := w) (base := base) D_steady_degree T D_steady_degree_in G_steady_degree_in D_require_lot G_require_lot
  have G_qjug := ok_qjug (P := l.prog) (w := w) (base := base) D_qjug T
  have G_qpour := ok_qpour (P := l.prog) (w := w) (base := base) D_qpour T
  have G_qtaken := ok_qtaken (P := l.prog) (w := w) (base := base) D_qtaken T D_qpour G_qpour
  have G_qdivides := ok_qdivides (P := l.prog) (w := w) (base := base) D_qdivides T
  have G_qleast := ok_qleast (P := l.prog) (w := w) (base := base) D_qleast T D_qdivides G_qdivides
  have G_qproduct := ok_qproduct (P := l.prog) (w := w) (base := base) D_qproduct T D_qpour G_qpour
  have G_qmembers := ok_qmembers (P := l.prog) (w := w) (base := base) D_qmembers T D_qleast G_qleast D_qpour G_qpour D_qproduct G_qproduct
  have G_qchoices := ok_qchoices (P := l.prog) (w := w) (base := base) D_qchoices T
  have G_qat := ok_qat (P := l.prog) (w := w) (base := base) D_qat T D_qchoices G_qchoices
  have G_qby_differences := ok_qby_differences (P := l.prog) (w := w) (base := base) D_qby_differences T D_qchoices G_qchoices
  have G_qquotient_value := ok_qquotient_value (P := l.prog) (w := w) (base := base) D_qquotient_value T
  have G_qright := ok_qright (P := l.prog) (w := w) (base := base) D_qright T D_qquotient_value G_qquotient_value D_weight G_weight D_qby_differences G_qby_differences D_count_at G_count_at D_qat G_qat D_left_counts G_left_counts D_steady_degree G_steady_degree D_steady_row G_steady_row D_dimension G_dimension D_numerator G_numerator D_qmembers G_qmembers D_qtaken G_qtaken D_qpour G_qpour D_Lot___init__ G_Lot___init__
  have G_law := ok_law (P := l.prog) (w := w) (base := base) D_law T D_steady_degree G_steady_degree D_steady_row G_steady_row D_weight G_weight D_dimension G_dimension D_qright G_qright D_qjug G_qjug D_Lot___init__ G_Lot___init__
  exact G_law

end DL
open PySem PySem.W PyProof.Rows in
set_option maxRecDepth 100000 in
set_option maxHeartbeats 0 in
theorem PySem.Challenge.cw_pureladders_k13_whole_steady_rows_holds : PySem.Challenge.rw_pureladders_k13_whole_steady_rows.Holds := by
  w_on; o_law; k_head; (case hw => w_witness2)
  k_fill
  refine DL.walk_ofG (l := PySem.Challenge.rw_pureladders_k13_whole_steady_rows) (n := 63) (k := 75) (x := "_law_script") rfl (by decide) rfl ⟨rfl, by decide, by decide⟩ (fun w h Y => by first | exact PySem.W.kIn_of Y | exact PySem.W.km_in_of Y) ?F
  case F =>
    intro w mg fa h KX G hmg tab
    refine' DL.all_mk KX G hmg tab ?cl_KeptMembers ?pg_KeptMembers ?ic_KeptMembers ?po_KeptMembers ?sa_KeptMembers ?ca_KeptMembers ?cn_KeptMembers ?ct_KeptMembers ?cm_KeptMembers ?ty_KeptMembers ?ms_KeptMembers ?kp_KeptMembers ?cl_Lot ?pg_Lot ?ic_Lot ?po_Lot ?sa_Lot ?ca_Lot ?cn_Lot ?ct_Lot ?cm_Lot ?ty_Lot ?ms_Lot ?kp_Lot ?s1_KeptMembers_own_members ?s2_KeptMembers_own_members ?s3_KeptMembers_own_members ?s4_KeptMembers_own_members ?s5_KeptMembers_own_members ?s1_Lot_own_letters ?s2_Lot_own_letters ?s3_Lot_own_letters ?s4_Lot_own_letters ?s5_Lot_own_letters ?s1_Lot_own_members ?s2_Lot_own_members ?s3_Lot_own_members ?s4_Lot_own_members ?s5_Lot_own_members ?a_is_whole ?l_is_whole ?c_is_whole ?k_is_whole ?a_is_within ?l_is_within ?c_is_within ?k_is_within ?a_require_within ?l_require_within ?c_require_within ?k_require_within ?a_is_product_in ?l_is_product_in ?c_is_product_in ?k_is_product_in ?a_divides ?l_divides ?c_divides ?k_divides ?a_require_letters ?l_require_letters ?c_require_letters ?k_require_letters ?a_least_of ?l_least_of ?c_least_of ?k_least_of ?a_are_long ?l_are_long ?c_are_long ?k_are_long ?a_few_least_of ?l_few_least_of ?c_few_least_of ?k_few_least_of ?a_KeptMembers___init__ ?i_KeptMembers___init__ ?l_KeptMembers___init__ ?c_KeptMembers___init__ ?k_KeptMembers___init__ ?a_is_passed_member ?l_is_passed_member ?c_is_passed_member ?k_is_passed_member ?a_members_told ?l_members_told ?c_members_told ?k_members_told ?a_Lot___init__ ?i_Lot___init__ ?l_Lot___init__ ?c_Lot___init__ ?k_Lot___init__ ?a_is_all_in ?l_is_all_in ?c_is_all_in ?k_is_all_in ?a_require_lot ?l_require_lot ?c_require_lot ?k_require_lot ?a_most_common_letter ?l_most_common_letter ?c_most_common_letter ?k_most_common_letter ?a_split_exponent ?l_split_exponent ?c_split_exponent ?k_split_exponent ?a_apart_numerator ?l_apart_numerator ?c_apart_numerator ?k_apart_numerator ?a_lessened ?l_lessened ?c_lessened ?k_lessened ?a_numerator_of ?l_numerator_of ?c_numerator_of ?k_numerator_of ?a_numerator_in ?l_numerator_in ?c_numerator_in ?k_numerator_in ?a_left_count ?l_left_count ?c_left_count ?k_left_count ?a_is_free_in ?l_is_free_in ?c_is_free_in ?k_is_free_in ?a_sets_of ?l_sets_of ?c_sets_of ?k_sets_of ?a_free_set_in ?l_free_set_in ?c_free_set_in ?k_free_set_in ?a_dimension_in ?l_dimension_in ?c_dimension_in ?k_dimension_in ?a_stretched_comb ?l_stretched_comb ?c_stretched_comb ?k_stretched_comb ?a_steady_value ?l_steady_value ?c_steady_value ?k_steady_value ?a_steady_row_in ?l_steady_row_in ?c_steady_row_in ?k_steady_row_in ?a_steady_degree_in ?l_steady_degree_in ?c_steady_degree_in ?k_steady_degree_in ?a_weight_in ?l_weight_in ?c_weight_in ?k_weight_in ?a_numerator ?l_numerator ?c_numerator ?k_numerator ?a_left_counts ?l_left_counts ?c_left_counts ?k_left_counts ?a_count_at ?l_count_at ?c_count_at ?k_count_at ?a_dimension ?l_dimension ?c_dimension ?k_dimension ?a_weight ?l_weight ?c_weight ?k_weight ?a_steady_row ?l_steady_row ?c_steady_row ?k_steady_row ?a_steady_degree ?l_steady_degree ?c_steady_degree ?k_steady_degree ?a_qjug ?l_qjug ?c_qjug ?k_qjug ?a_qpour ?l_qpour ?c_qpour ?k_qpour ?a_qtaken ?l_qtaken ?c_qtaken ?k_qtaken ?a_qdivides ?l_qdivides ?c_qdivides ?k_qdivides ?a_qleast ?l_qleast ?c_qleast ?k_qleast ?a_qproduct ?l_qproduct ?c_qproduct ?k_qproduct ?a_qmembers ?l_qmembers ?c_qmembers ?k_qmembers ?a_qchoices ?l_qchoices ?c_qchoices ?k_qchoices ?a_qat ?l_qat ?c_qat ?k_qat ?a_qby_differences ?l_qby_differences ?c_qby_differences ?k_qby_differences ?a_qquotient_value ?l_qquotient_value ?c_qquotient_value ?k_qquotient_value ?a_qright ?l_qright ?c_qright ?k_qright ?a_law ?l_law ?c_law ?k_law ?hc_free_set_in ?h5_free_set_in ?nt_free_set_in ?ht_free_set_in ?nd ?z_abs ?z_all ?z_any ?z_bool ?z_dict ?z_enumerate ?z_int ?z_isinstance ?z_len ?z_list ?z_max ?z_min ?z_next ?z_range ?z_set ?z_sorted ?z_sum ?z_tuple ?z_zip ?w_comb ?w_factorial ?y_MAX_EXPONENT ?y_MAX_LETTERS ?y_MAX_MEMBERS ?y_MAX_MEMBER_EXPONENT ?y_MAX_PASSED ?y_MOST_COUNTED ?y_MOST_FAR
    (case cl_KeptMembers => k_is)
    (case pg_KeptMembers => k_is)
    (case ic_KeptMembers => k_is)
    (case po_KeptMembers => k_is)
    (case sa_KeptMembers => k_is)
    (case ca_KeptMembers => k_is)
    (case cn_KeptMembers => k_is)
    (case ct_KeptMembers => k_is)
    (case cm_KeptMembers => k_is)
    (case ty_KeptMembers => k_is)
    (case ms_KeptMembers => k_is)
    (case kp_KeptMembers => k_is)
    (case cl_Lot => k_is)
    (case pg_Lot => k_is)
    (case ic_Lot => k_is)
    (case po_Lot => k_is)
    (case sa_Lot => k_is)
    (case ca_Lot => k_is)
    (case cn_Lot => k_is)
    (case ct_Lot => k_is)
    (case cm_Lot => k_is)
    (case ty_Lot => k_is)
    (case ms_Lot => k_is)
    (case kp_Lot => k_is)
    (case s1_KeptMembers_own_members => k_is)
    (case s2_KeptMembers_own_members => k_is)
    (case s3_KeptMembers_own_members => k_is)
    (case s4_KeptMembers_own_members => k_is)
    (case s5_KeptMembers_own_members => k_is)
    (case s1_Lot_own_letters => k_is)
    (case s2_Lot_own_letters => k_is)
    (case s3_Lot_own_letters => k_is)
    (case s4_Lot_own_letters => k_is)
    (case s5_Lot_own_letters => k_is)
    (case s1_Lot_own_members => k_is)
    (case s2_Lot_own_members => k_is)
    (case s3_Lot_own_members => k_is)
    (case s4_Lot_own_members => k_is)
    (case s5_Lot_own_members => k_is)
    (case a_is_whole => k_is)
    (case l_is_whole => k_is)
    (case c_is_whole => k_is)
    (case k_is_whole => k_is)
    (case a_is_within => k_is)
    (case l_is_within => k_is)
    (case c_is_within => k_is)
    (case k_is_within => k_is)
    (case a_require_within => k_is)
    (case l_require_within => k_is)
    (case c_require_within => k_is)
    (case k_require_within => k_is)
    (case a_is_product_in => k_is)
    (case l_is_product_in => k_is)
    (case c_is_product_in => k_is)
    (case k_is_product_in => k_is)
    (case a_divides => k_is)
    (case l_divides => k_is)
    (case c_divides => k_is)
    (case k_divides => k_is)
    (case a_require_letters => k_is)
    (case l_require_letters => k_is)
    (case c_require_letters => k_is)
    (case k_require_letters => k_is)
    (case a_least_of => k_is)
    (case l_least_of => k_is)
    (case c_least_of => k_is)
    (case k_least_of => k_is)
    (case a_are_long => k_is)
    (case l_are_long => k_is)
    (case c_are_long => k_is)
    (case k_are_long => k_is)
    (case a_few_least_of => k_is)
    (case l_few_least_of => k_is)
    (case c_few_least_of => k_is)
    (case k_few_least_of => k_is)
    (case a_KeptMembers___init__ => k_is)
    (case i_KeptMembers___init__ => k_is)
    (case l_KeptMembers___init__ => k_is)
    (case c_KeptMembers___init__ => k_is)
    (case k_KeptMembers___init__ => k_is)
    (case a_is_passed_member => k_is)
    (case l_is_passed_member => k_is)
    (case c_is_passed_member => k_is)
    (case k_is_passed_member => k_is)
    (case a_members_told => k_is)
    (case l_members_told => k_is)
    (case c_members_told => k_is)
    (case k_members_told => k_is)
    (case a_Lot___init__ => k_is)
    (case i_Lot___init__ => k_is)
    (case l_Lot___init__ => k_is)
    (case c_Lot___init__ => k_is)
    (case k_Lot___init__ => k_is)
    (case a_is_all_in => k_is)
    (case l_is_all_in => k_is)
    (case c_is_all_in => k_is)
    (case k_is_all_in => k_is)
    (case a_require_lot => k_is)
    (case l_require_lot => k_is)
    (case c_require_lot => k_is)
    (case k_require_lot => k_is)
    (case a_most_common_letter => k_is)
    (case l_most_common_letter => k_is)
    (case c_most_common_letter => k_is)
    (case k_most_common_letter => k_is)
    (case a_split_exponent => k_is)
    (case l_split_exponent => k_is)
    (case c_split_exponent => k_is)
    (case k_split_exponent => k_is)
    (case a_apart_numerator => k_is)
    (case l_apart_numerator => k_is)
    (case c_apart_numerator => k_is)
    (case k_apart_numerator => k_is)
    (case a_lessened => k_is)
    (case l_lessened => k_is)
    (case c_lessened => k_is)
    (case k_lessened => k_is)
    (case a_numerator_of => k_is)
    (case l_numerator_of => k_is)
    (case c_numerator_of => k_is)
    (case k_numerator_of => k_is)
    (case a_numerator_in => k_is)
    (case l_numerator_in => k_is)
    (case c_numerator_in => k_is)
    (case k_numerator_in => k_is)
    (case a_left_count => k_is)
    (case l_left_count => k_is)
    (case c_left_count => k_is)
    (case k_left_count => k_is)
    (case a_is_free_in => k_is)
    (case l_is_free_in => k_is)
    (case c_is_free_in => k_is)
    (case k_is_free_in => k_is)
    (case a_sets_of => k_is)
    (case l_sets_of => k_is)
    (case c_sets_of => k_is)
    (case k_sets_of => k_is)
    (case a_free_set_in => k_is)
    (case l_free_set_in => k_is)
    (case c_free_set_in => k_is)
    (case k_free_set_in => k_is)
    (case a_dimension_in => k_is)
    (case l_dimension_in => k_is)
    (case c_dimension_in => k_is)
    (case k_dimension_in => k_is)
    (case a_stretched_comb => k_is)
    (case l_stretched_comb => k_is)
    (case c_stretched_comb => k_is)
    (case k_stretched_comb => k_is)
    (case a_steady_value => k_is)
    (case l_steady_value => k_is)
    (case c_steady_value => k_is)
    (case k_steady_value => k_is)
    (case a_steady_row_in => k_is)
    (case l_steady_row_in => k_is)
    (case c_steady_row_in => k_is)
    (case k_steady_row_in => k_is)
    (case a_steady_degree_in => k_is)
    (case l_steady_degree_in => k_is)
    (case c_steady_degree_in => k_is)
    (case k_steady_degree_in => k_is)
    (case a_weight_in => k_is)
    (case l_weight_in => k_is)
    (case c_weight_in => k_is)
    (case k_weight_in => k_is)
    (case a_numerator => k_is)
    (case l_numerator => k_is)
    (case c_numerator => k_is)
    (case k_numerator => k_is)
    (case a_left_counts => k_is)
    (case l_left_counts => k_is)
    (case c_left_counts => k_is)
    (case k_left_counts => k_is)
    (case a_count_at => k_is)
    (case l_count_at => k_is)
    (case c_count_at => k_is)
    (case k_count_at => k_is)
    (case a_dimension => k_is)
    (case l_dimension => k_is)
    (case c_dimension => k_is)
    (case k_dimension => k_is)
    (case a_weight => k_is)
    (case l_weight => k_is)
    (case c_weight => k_is)
    (case k_weight => k_is)
    (case a_steady_row => k_is)
    (case l_steady_row => k_is)
    (case c_steady_row => k_is)
    (case k_steady_row => k_is)
    (case a_steady_degree => k_is)
    (case l_steady_degree => k_is)
    (case c_steady_degree => k_is)
    (case k_steady_degree => k_is)
    (case a_qjug => k_is)
    (case l_qjug => k_is)
    (case c_qjug => k_is)
    (case k_qjug => k_is)
    (case a_qpour => k_is)
    (case l_qpour => k_is)
    (case c_qpour => k_is)
    (case k_qpour => k_is)
    (case a_qtaken => k_is)
    (case l_qtaken => k_is)
    (case c_qtaken => k_is)
    (case k_qtaken => k_is)
    (case a_qdivides => k_is)
    (case l_qdivides => k_is)
    (case c_qdivides => k_is)
    (case k_qdivides => k_is)
    (case a_qleast => k_is)
    (case l_qleast => k_is)
    (case c_qleast => k_is)
    (case k_qleast => k_is)
    (case a_qproduct => k_is)
    (case l_qproduct => k_is)
    (case c_qproduct => k_is)
    (case k_qproduct => k_is)
    (case a_qmembers => k_is)
    (case l_qmembers => k_is)
    (case c_qmembers => k_is)
    (case k_qmembers => k_is)
    (case a_qchoices => k_is)
    (case l_qchoices => k_is)
    (case c_qchoices => k_is)
    (case k_qchoices => k_is)
    (case a_qat => k_is)
    (case l_qat => k_is)
    (case c_qat => k_is)
    (case k_qat => k_is)
    (case a_qby_differences => k_is)
    (case l_qby_differences => k_is)
    (case c_qby_differences => k_is)
    (case k_qby_differences => k_is)
    (case a_qquotient_value => k_is)
    (case l_qquotient_value => k_is)
    (case c_qquotient_value => k_is)
    (case k_qquotient_value => k_is)
    (case a_qright => k_is)
    (case l_qright => k_is)
    (case c_qright => k_is)
    (case k_qright => k_is)
    (case a_law => k_is)
    (case l_law => k_is)
    (case c_law => k_is)
    (case k_law => k_is)
    (case hc_free_set_in => k_is)
    (case h5_free_set_in => first | rfl | decide +kernel)
    (case nt_free_set_in => first | kernel_rfl | rfl | decide +kernel)
    (case ht_free_set_in => first | rfl | decide +kernel)
    (case nd => decide)
    (case z_abs => k_is)
    (case z_all => k_is)
    (case z_any => k_is)
    (case z_bool => k_is)
    (case z_dict => k_is)
    (case z_enumerate => k_is)
    (case z_int => k_is)
    (case z_isinstance => k_is)
    (case z_len => k_is)
    (case z_list => k_is)
    (case z_max => k_is)
    (case z_min => k_is)
    (case z_next => k_is)
    (case z_range => k_is)
    (case z_set => k_is)
    (case z_sorted => k_is)
    (case z_sum => k_is)
    (case z_tuple => k_is)
    (case z_zip => k_is)
    (case w_comb => k_is)
    (case w_factorial => k_is)
    (case y_MAX_EXPONENT => k_is)
    (case y_MAX_LETTERS => k_is)
    (case y_MAX_MEMBERS => k_is)
    (case y_MAX_MEMBER_EXPONENT => k_is)
    (case y_MAX_PASSED => k_is)
    (case y_MOST_COUNTED => k_is)
    (case y_MOST_FAR => k_is)
#print axioms PySem.Challenge.cw_pureladders_k13_whole_steady_rows_holds
