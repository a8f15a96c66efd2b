import PyProof.Rows.All
import Wide.All
import OpenK.AllK
import Wide.FinOn
import HandS.ForMost
import HandS.Exc
import HandS.TryMany
import HandS.ExcField
import HandS.Lambda
import HandS.IsInst
import HandS.WordsExc
import HandS.Sort
import HandS.CallLocal
import KE.KIsAll
import HandS.SortInts
import PyProof.IsiBase
import PyProof.IsiNone
import HandS.WordsDict
import KE.GoesEnum
import HandS.Zip
import KE.KExcSuper
import HandS.ExcInit
import HandS.Nested
import KE.SortKeyHeap
import KE.KSortKey
import HandS.Conv
import HandS.ExcValue
import KE.DataMinMax
import HandS.SortKw
import HandS.More
import PyProof.ReprRoads
import PyProof.FitsInt
import HandS.EndTab
import HandS.HeadWalk
import HandS.DictComp
import HandS.Deep
import HandS.Small
import HandS.Strs
import HandS.TupAny
import HandS.Style
import PyProof.DictUpdate
import PyProof.DictDisplay
import PyProof.DictTable
import HandS.ListItems
import KE.GoesMore
import KE.GoesZip
import HandS.Star
import HandS.Defaults
import HandS.HeadHook3
import PySem.Challenge.RW_oldaddress_k70_stays_of_histories
set_option Elab.async false
set_option linter.all false
set_option maxRecDepth 100000
set_option maxHeartbeats 4000000
section
/-! The data layer over HandS: data, what represents it, judgements in forward style. -/
namespace DL
open PySem PySem.Spec L2

inductive D where
  | non | bl (b : Bool) | int (i : Int) | str (x : Str)
  | lst (ds : List D) | kl (ds : List D) | tup (ds : List D)
  | dK (kvs : List (Key × D))
  | dT (kvs : List (List Key × D))
  | obj (C : Addr) (fs : List (Str × D))
  | fn (a : Addr)
  | strm
  | exc (a dx : Addr) (fs : List (Str × D))
  | ref (a : Addr)

def FnAt (K : PySem.W.Frag) (a : Addr) : Prop := PySem.W.isFn K (.ref a) = true ∧ PySem.W.keepIn K (.ref a) = true

/-- the built-in types that the text asks for -/
def blts : List String := ["int", "bool", "str", "list", "tuple", "dict"]
/-- what is known of an own class -/
structure OwnC (K : PySem.W.Frag) (C : Addr) : Prop where
  cl : Cls K C
  ha : PySem.W.findIn K (.ref C) "__class__" = some (some (.builtin "object.__class__"))
  hn : PySem.W.specialIn K (.builtin "object.__class__") "__get__" = some (some (.builtin "getset_descriptor.__get__"))
  htk : PySem.W.takesIn K (.builtin "object.__class__") = some true
  hm : PySem.W.mroIn K C (.type "object") = some true
  no : ∀ n ∈ blts, PySem.W.kitOne K (.ref C) (.type n) = some false
mutual
inductive R (K : PySem.W.Frag) (F : Hp) (ws : List Addr) : V → D → Prop
  | non : R K F ws .non .non
  | bl (b : Bool) : R K F ws (.bl b) (.bl b)
  | int (i : Int) : R K F ws (.int i) (.int i)
  | str (x : Str) : R K F ws (.str x) (.str x)
  | lst {a : Addr} {xs : List V} {ds : List D} (h : F a = some (.lst xs)) (t : Rs K F ws xs ds) : R K F ws (.ref a) (.lst ds)
  | kl {a : Addr} {xs : List V} {ds : List D} (h : SqL K F a xs) (t : Rs K F ws xs ds) : R K F ws (.ref a) (.kl ds)
  | tup {a : Addr} {xs : List V} {ds : List D} (h : SqT K F a xs) (t : Rs K F ws xs ds) : R K F ws (.ref a) (.tup ds)
  | dK {a : Addr} {o : Obj} {xs : List (Key × V)} {ds : List (Key × D)} (h : F a = some (.frz o (.dK xs))) (t : Rk K F ws xs ds) : R K F ws (.ref a) (.dK ds)
  | dT {a : Addr} {o : Obj} {xs : List (List Key × V)} {ds : List (List Key × D)} (h : F a = some (.frz o (.dT xs))) (t : Rt K F ws xs ds) : R K F ws (.ref a) (.dT ds)
  | obj {a C dx : Addr} {xs : List (Str × V)} {ds : List (Str × D)} (hc : OwnC K C) (h : F a = some (.ins C dx xs)) (t : Rf K F ws xs ds) : R K F ws (.ref a) (.obj C ds)
  | fn {a : Addr} (h : FnAt K a) : R K F ws (.ref a) (.fn a)
  | strm {a : Addr} (h : a ∈ ws) : R K F ws (.ref a) .strm
  | exc {a dx : Addr} {xs : List (Str × V)} {ds : List (Str × D)} (h : F dx = some (.xd xs)) (t : Rf K F ws xs ds) : R K F ws (.ref a) (.exc a dx ds)
  | ref {a : Addr} : R K F ws (.ref a) (.ref a)
inductive Rs (K : PySem.W.Frag) (F : Hp) (ws : List Addr) : List V → List D → Prop
  | nil : Rs K F ws [] []
  | cons {v : V} {vs : List V} {d : D} {ds : List D} (h : R K F ws v d) (t : Rs K F ws vs ds) : Rs K F ws (v :: vs) (d :: ds)
inductive Rk (K : PySem.W.Frag) (F : Hp) (ws : List Addr) : List (Key × V) → List (Key × D) → Prop
  | nil : Rk K F ws [] []
  | cons {k : Key} {v : V} {vs : List (Key × V)} {d : D} {ds : List (Key × D)} (h : R K F ws v d) (t : Rk K F ws vs ds) : Rk K F ws ((k, v) :: vs) ((k, d) :: ds)
inductive Rt (K : PySem.W.Frag) (F : Hp) (ws : List Addr) : List (List Key × V) → List (List Key × D) → Prop
  | nil : Rt K F ws [] []
  | cons {k : List Key} {v : V} {vs : List (List Key × V)} {d : D} {ds : List (List Key × D)} (h : R K F ws v d) (t : Rt K F ws vs ds) : Rt K F ws ((k, v) :: vs) ((k, d) :: ds)
inductive Rf (K : PySem.W.Frag) (F : Hp) (ws : List Addr) : List (Str × V) → List (Str × D) → Prop
  | nil : Rf K F ws [] []
  | cons {k : Str} {v : V} {vs : List (Str × V)} {d : D} {ds : List (Str × D)} (h : R K F ws v d) (t : Rf K F ws vs ds) : Rf K F ws ((k, v) :: vs) ((k, d) :: ds)
end

section mono
variable {K : PySem.W.Frag} {F F' : Hp} {ws ws' : List Addr}
theorem Rd.mono {a : Addr} {u : HO} (s : Same F F') (h : Rd F a u) : Rd F' a u := by
  rcases h with h | ⟨o, h⟩
  · exact .inl (s _ _ h)
  · exact .inr ⟨o, s _ _ h⟩
theorem sqL_mono {a : Addr} {xs : List V} (s : Same F F') (h : SqL K F a xs) : SqL K F' a xs := by
  rcases h with h | h
  · exact .inl (Rd.mono s h)
  · exact .inr h
theorem sqT_mono {a : Addr} {xs : List V} (s : Same F F') (h : SqT K F a xs) : SqT K F' a xs := by
  rcases h with h | h
  · exact .inl (Rd.mono s h)
  · exact .inr h
mutual
theorem R.mono (s : Same F F') (w : ∀ a ∈ ws, a ∈ ws') : ∀ (d : D) (v : V), R K F ws v d → R K F' ws' v d
  | .non, _, h => by cases h; exact .non
  | .bl _, _, h => by cases h; exact .bl _
  | .int _, _, h => by cases h; exact .int _
  | .str _, _, h => by cases h; exact .str _
  | .lst ds, _, h => by
    cases h with
    | lst h t => exact .lst (s _ _ h) (Rs.mono s w ds _ t)
  | .kl ds, _, h => by
    cases h with
    | kl h t => exact .kl (sqL_mono s h) (Rs.mono s w ds _ t)
  | .tup ds, _, h => by
    cases h with
    | tup h t => exact .tup (sqT_mono s h) (Rs.mono s w ds _ t)
  | .dK ds, _, h => by
    cases h with
    | dK h t => exact .dK (s _ _ h) (Rk.mono s w ds _ t)
  | .dT ds, _, h => by
    cases h with
    | dT h t => exact .dT (s _ _ h) (Rt.mono s w ds _ t)
  | .obj C ds, _, h => by
    cases h with
    | obj hc h t => exact .obj hc (s _ _ h) (Rf.mono s w ds _ t)
  | .fn _, _, h => by
    cases h with
    | fn h => exact .fn h
  | .strm, _, h => by
    cases h with
    | strm h => exact .strm (w _ h)
  | .exc a dx ds, _, h => by
    cases h with
    | exc h t => exact .exc (s _ _ h) (Rf.mono s w ds _ t)
  | .ref a, _, h => by
    cases h with
    | ref => exact .ref
theorem Rs.mono (s : Same F F') (w : ∀ a ∈ ws, a ∈ ws') : ∀ (ds : List D) (vs : List V), Rs K F ws vs ds → Rs K F' ws' vs ds
  | [], _, h => by cases h; exact .nil
  | d :: ds, _, h => by
    cases h with
    | cons h t => exact .cons (R.mono s w d _ h) (Rs.mono s w ds _ t)
theorem Rk.mono (s : Same F F') (w : ∀ a ∈ ws, a ∈ ws') : ∀ (ds : List (Key × D)) (vs : List (Key × V)), Rk K F ws vs ds → Rk K F' ws' vs ds
  | [], _, h => by cases h; exact .nil
  | (k, d) :: ds, _, h => by
    cases h with
    | cons h t => exact .cons (R.mono s w d _ h) (Rk.mono s w ds _ t)
theorem Rt.mono (s : Same F F') (w : ∀ a ∈ ws, a ∈ ws') : ∀ (ds : List (List Key × D)) (vs : List (List Key × V)), Rt K F ws vs ds → Rt K F' ws' vs ds
  | [], _, h => by cases h; exact .nil
  | (k, d) :: ds, _, h => by
    cases h with
    | cons h t => exact .cons (R.mono s w d _ h) (Rt.mono s w ds _ t)
theorem Rf.mono (s : Same F F') (w : ∀ a ∈ ws, a ∈ ws') : ∀ (ds : List (Str × D)) (vs : List (Str × V)), Rf K F ws vs ds → Rf K F' ws' vs ds
  | [], _, h => by cases h; exact .nil
  | (k, d) :: ds, _, h => by
    cases h with
    | cons h t => exact .cons (R.mono s w d _ h) (Rf.mono s w ds _ t)
end
theorem R.mo {d : D} {v : V} (h : R K F ws v d) (s : Same F F') : R K F' ws v d := R.mono s (fun _ z => z) d v h
theorem Rs.mo {d : List D} {v : List V} (h : Rs K F ws v d) (s : Same F F') : Rs K F' ws v d := Rs.mono s (fun _ z => z) d v h
theorem Rs.len : ∀ {ds : List D} {vs : List V}, Rs K F ws vs ds → vs.length = ds.length
  | [], _, h => by cases h; rfl
  | d :: ds, _, h => by
    cases h with
    | cons h t => rw [List.length_cons, List.length_cons, Rs.len t]
theorem Rs.get : ∀ {ds : List D} {vs : List V} {i : Nat} {d : D}, Rs K F ws vs ds → ds[i]? = some d → ∃ v, vs[i]? = some v ∧ R K F ws v d
  | [], _, _, _, h, e => by simp at e
  | d :: ds, _, i, d', h, e => by
    cases h with
    | cons h t =>
      cases i with
      | zero => simp at e; subst e; exact ⟨_, rfl, h⟩
      | succ i =>
        obtain ⟨v, e1, r⟩ := Rs.get (i := i) t (by simpa using e)
        exact ⟨v, by simpa using e1, r⟩
theorem Rs.getV : ∀ {ds : List D} {vs : List V} {i : Nat} {v : V}, Rs K F ws vs ds → vs[i]? = some v → ∃ d, ds[i]? = some d ∧ R K F ws v d
  | [], _, _, _, h, e => by cases h; simp at e
  | d :: ds, _, i, v', h, e => by
    cases h with
    | cons h t =>
      cases i with
      | zero => simp at e; subst e; exact ⟨_, rfl, h⟩
      | succ i =>
        obtain ⟨d, e1, r⟩ := Rs.getV (i := i) t (by simpa using e)
        exact ⟨d, by simpa using e1, r⟩
theorem Rs.app : ∀ {ds es : List D} {vs us : List V}, Rs K F ws vs ds → Rs K F ws us es → Rs K F ws (vs ++ us) (ds ++ es)
  | [], _, _, _, h, g => by cases h; exact g
  | d :: ds, es, _, us, h, g => by
    cases h with
    | cons h t => exact .cons h (Rs.app t g)
theorem Rs.take (n : Nat) : ∀ {ds : List D} {vs : List V}, Rs K F ws vs ds → Rs K F ws (vs.take n) (ds.take n) := by
  induction n with
  | zero => intro ds vs _; exact .nil
  | succ n ih =>
    intro ds vs h
    cases h with
    | nil => exact .nil
    | cons h t => exact .cons h (ih t)
theorem Rs.drop (n : Nat) : ∀ {ds : List D} {vs : List V}, Rs K F ws vs ds → Rs K F ws (vs.drop n) (ds.drop n) := by
  induction n with
  | zero => intro ds vs h; exact h
  | succ n ih =>
    intro ds vs h
    cases h with
    | nil => exact .nil
    | cons h t => exact ih t
theorem Rs.set {d : D} {v : V} (r : R K F ws v d) (n : Nat) : ∀ {ds : List D} {vs : List V}, Rs K F ws vs ds → Rs K F ws (vs.set n v) (ds.set n d) := by
  induction n with
  | zero =>
    intro ds vs h
    cases h with
    | nil => exact .nil
    | cons h t => exact .cons r t
  | succ n ih =>
    intro ds vs h
    cases h with
    | nil => exact .nil
    | cons h t => exact .cons h (ih t)
theorem Rs.rep {d : D} {v : V} (r : R K F ws v d) : ∀ n : Nat, Rs K F ws (List.replicate n v) (List.replicate n d)
  | 0 => .nil
  | n + 1 => .cons r (Rs.rep r n)
end mono

/-! ### environments -/
/-- what an own thing holds -/
inductive Con where
  | lst (ds : List D) | dK (kvs : List (Key × D)) | dT (kvs : List (List Key × D)) | ins (C dx : Addr) (fs : List (Str × D))
instance : Coe (List D) Con := ⟨.lst⟩
def Con.toD : Con → D
  | .lst ds => .lst ds
  | .dK kvs => .dK kvs
  | .dT kvs => .dT kvs
  | .ins C _ fs => .obj C fs
inductive RC (K : PySem.W.Frag) (F : Hp) (ws : List Addr) : HO → Con → Prop
  | lst {xs : List V} {ds : List D} (t : Rs K F ws xs ds) : RC K F ws (.lst xs) (.lst ds)
  | dK {xs : List (Key × V)} {ds : List (Key × D)} (t : Rk K F ws xs ds) : RC K F ws (.dK xs) (.dK ds)
  | dT {xs : List (List Key × V)} {ds : List (List Key × D)} (t : Rt K F ws xs ds) : RC K F ws (.dT xs) (.dT ds)
  | ins {C dx : Addr} {xs : List (Str × V)} {ds : List (Str × D)} (hc : OwnC K C) (t : Rf K F ws xs ds) : RC K F ws (.ins C dx xs) (.ins C dx ds)
theorem RC.mo {K : PySem.W.Frag} {F F' : Hp} {ws : List Addr} {o : HO} {c : Con} (h : RC K F ws o c) (s : Same F F') : RC K F' ws o c := by
  cases h with
  | lst t => exact .lst (t.mo s)
  | dK t => exact .dK (Rk.mono s (fun _ z => z) _ _ t)
  | dT t => exact .dT (Rt.mono s (fun _ z => z) _ _ t)
  | ins hc t => exact .ins hc (Rf.mono s (fun _ z => z) _ _ t)
theorem RC.mono {K : PySem.W.Frag} {F F' : Hp} {ws ws' : List Addr} {o : HO} {c : Con} (s : Same F F') (w : ∀ a ∈ ws, a ∈ ws') (h : RC K F ws o c) : RC K F' ws' o c := by
  cases h with
  | lst t => exact .lst (Rs.mono s w _ _ t)
  | dK t => exact .dK (Rk.mono s w _ _ t)
  | dT t => exact .dT (Rt.mono s w _ _ t)
  | ins hc t => exact .ins hc (Rf.mono s w _ _ t)
theorem RC.list {K : PySem.W.Frag} {F : Hp} {ws : List Addr} {o : HO} {ds : List D} (h : RC K F ws o (.lst ds)) : ∃ vs, o = .lst vs ∧ Rs K F ws vs ds := by
  cases h with
  | lst t => exact ⟨_, rfl, t⟩
theorem RC.dict {K : PySem.W.Frag} {F : Hp} {ws : List Addr} {o : HO} {ds : List (Key × D)} (h : RC K F ws o (.dK ds)) : ∃ vs, o = .dK vs ∧ Rk K F ws vs ds := by
  cases h with
  | dK t => exact ⟨_, rfl, t⟩
theorem RC.dictT {K : PySem.W.Frag} {F : Hp} {ws : List Addr} {o : HO} {ds : List (List Key × D)} (h : RC K F ws o (.dT ds)) : ∃ vs, o = .dT vs ∧ Rt K F ws vs ds := by
  cases h with
  | dT t => exact ⟨_, rfl, t⟩
theorem RC.inst {K : PySem.W.Frag} {F : Hp} {ws : List Addr} {o : HO} {C dx : Addr} {ds : List (Str × D)} (h : RC K F ws o (.ins C dx ds)) : OwnC K C ∧ ∃ vs, o = .ins C dx vs ∧ Rf K F ws vs ds := by
  cases h with
  | ins hc t => exact ⟨hc, _, rfl, t⟩
/-- what a thing becomes when it is data: a dict is locked -/
inductive Fz : HO → HO → Prop
  | lst (xs : List V) : Fz (.lst xs) (.lst xs)
  | dK (o : Obj) (xs : List (Key × V)) : Fz (.dK xs) (.frz o (.dK xs))
  | dT (o : Obj) (xs : List (List Key × V)) : Fz (.dT xs) (.frz o (.dT xs))
  | ins (C dx : Addr) (xs : List (Str × V)) : Fz (.ins C dx xs) (.ins C dx xs)
inductive Sl where
  | non | dat (d : D) | own (a : Addr) (ds : List D) | box (a : Addr) (c : Con)
structure Ev where
  sl : List Sl
  hid : List (Addr × Con)
  ws : List Addr
  g : Nat
structure Anc where
  F : Hp
  H : Hp
  ws : List Addr
inductive RV where
  | v (d : D) | l (a : Addr) (ds : List D) | b (a : Addr) (c : Con)
def RV.toD : RV → D
  | .v d => d
  | .l _ ds => .lst ds
  | .b _ c => c.toD
def Sl.of : RV → Sl
  | .v d => .dat d
  | .l a ds => .own a ds
  | .b a c => .box a c
abbrev Ev.put (ρ : Ev) (i : Nat) (s : Sl) : Ev := { ρ with sl := ρ.sl.set i s }
abbrev Ev.gas (ρ : Ev) (g : Nat) : Ev := { ρ with g := g }
/-- the i-th slot, the j-th hidden one -/
def Sl.bx : Sl → Option (Addr × Con)
  | .own a ds => some (a, .lst ds)
  | .box a c => some (a, c)
  | _ => none
def ownOf (o : Option Sl) : Option (Addr × Con) := o.bind Sl.bx
def Ev.at (ρ : Ev) (p : Sum Nat Nat) : Option (Addr × Con) := match p with
  | .inl i => ownOf ρ.sl[i]?
  | .inr j => ρ.hid[j]?
def big : Nat := 1099511627776
def Strm (H : Hp) (b : Nat) (a : Addr) : Prop := ∃ c m n : Int, H a = some (.lst [.int c, .int m, .int n]) ∧ 0 ≤ c ∧ 0 ≤ m ∧ m < (big : Int) ∧ 0 ≤ n ∧ n + (b : Int) ≤ (big : Int)
theorem Strm.less {H : Hp} {b b' : Nat} {a : Addr} (h : Strm H b a) (l : b' ≤ b) : Strm H b' a := by
  obtain ⟨c, m, n, e, h1, h2, h3, h4, h5⟩ := h
  exact ⟨c, m, n, e, h1, h2, h3, h4, by omega⟩
def NoTbl (o : HO) : Prop := ∀ ps, o ≠ .tbl ps
structure Ok (K : PySem.W.Frag) (T : List (Addr × Str)) (A : Anc) (F H : Hp) (σ : L2.St) (ρ : Ev) : Prop where
  sub0 : Same A.F F
  sub : Same F H
  keep : ∀ a o, A.H a = some o → NoTbl o → a ∉ A.ws → H a = some o
  apart : ∀ a, A.H a ≠ none → A.F a = none → F a = none
  there : ∀ a, A.H a ≠ none → H a ≠ none
  tabs : LamX.Tabs T H ∧ ∀ a o, F a = some o → NoTbl o
  wsub : ∀ a ∈ A.ws, a ∈ ρ.ws
  wnew : ∀ a ∈ ρ.ws, a ∈ A.ws ∨ A.H a = none
  strm : ∀ a ∈ ρ.ws, Strm H ρ.g a ∧ F a = none
  slots : ∀ (i : Nat) d, ρ.sl[i]? = some (.dat d) → ∃ v, σ[i]? = some (some v) ∧ R K F ρ.ws v d
  ownS : ∀ (i : Nat) a c, ownOf ρ.sl[i]? = some (a, c) → σ[i]? = some (some (.ref a))
  owns : ∀ p a c, ρ.at p = some (a, c) → F a = none ∧ a ∉ ρ.ws ∧ A.H a = none ∧ ∃ o, H a = some o ∧ RC K F ρ.ws o c
  dist : ∀ p q a c c', ρ.at p = some (a, c) → ρ.at q = some (a, c') → p = q
  len : ρ.sl.length ≤ σ.length
def GvB (K : PySem.W.Frag) (A : Anc) (F H : Hp) (ρ : Ev) (v : V) (a : Addr) (c : Con) : Prop := v = .ref a ∧ F a = none ∧ a ∉ ρ.ws ∧ A.H a = none ∧ (∃ o, H a = some o ∧ RC K F ρ.ws o c) ∧ ∀ p c', ρ.at p ≠ some (a, c')
def Gv (K : PySem.W.Frag) (A : Anc) (F H : Hp) (ρ : Ev) (v : V) : RV → Prop
  | .v d => R K F ρ.ws v d
  | .l a ds => GvB K A F H ρ v a (.lst ds)
  | .b a c => GvB K A F H ρ v a c

/-! ### judgements -/
section judge
variable (X : Cx) (T : List (Addr × Str)) (A : Anc)
abbrev CD := D → Ev → Prop
abbrev CV := RV → Ev → Prop
abbrev CB := Bool → Ev → Prop
abbrev CL := List D → Ev → Prop
def tD (ρ : Ev) (C : CD) : TE := fun σ H Q => ∃ F, Ok X.K T A F H σ ρ ∧ ∀ d ρ', C d ρ' → ∀ v F' H', Same F F' → ρ'.ws = ρ.ws → Ok X.K T A F' H' σ ρ' → R X.K F' ρ'.ws v d → Q v H'
def tV (ρ : Ev) (C : CV) : TE := fun σ H Q => ∃ F, Ok X.K T A F H σ ρ ∧ ∀ r ρ', C r ρ' → ∀ v F' H', Same F F' → ρ'.ws = ρ.ws → Ok X.K T A F' H' σ ρ' → Gv X.K A F' H' ρ' v r → Q v H'
def tT (ρ : Ev) (C : CB) : TT := fun σ H Q => ∃ F, Ok X.K T A F H σ ρ ∧ ∀ b ρ', C b ρ' → ∀ F' H', Same F F' → ρ'.ws = ρ.ws → Ok X.K T A F' H' σ ρ' → Q b H'
def tA (ρ : Ev) (C : CL) : TA := fun σ H Q => ∃ F, Ok X.K T A F H σ ρ ∧ ∀ ds ρ', C ds ρ' → ∀ vs F' H', Same F F' → ρ'.ws = ρ.ws → Ok X.K T A F' H' σ ρ' → Rs X.K F' ρ'.ws vs ds → Q vs H'
structure DO where
  nx : Ev → Prop
  rt : CV
  bk : Ev → Prop := fun _ => False
  ct : Ev → Prop := fun _ => False
def Goes (F : Hp) (ws : List Addr) (C : Ev → Prop) (Q : St → Hp → Prop) : Prop := ∀ ρ', C ρ' → ∀ σ' F' H', Same F F' → (∀ a ∈ ws, a ∈ ρ'.ws) → Ok X.K T A F' H' σ' ρ' → Q σ' H'
def tS (ρ : Ev) (O : DO) : TS := fun E σ H => ∃ F, Ok X.K T A F H σ ρ ∧ Goes X T A F ρ.ws O.nx E.nx ∧
  (∀ r ρ', O.rt r ρ' → ∀ v σ' F' H', Ok X.K T A F' H' σ' ρ' → Gv X.K A F' H' ρ' v r → E.rt v H') ∧ Goes X T A F ρ.ws O.bk E.bk ∧ Goes X T A F ρ.ws O.ct E.ct
structure DE (ρ : Ev) (e : Expr) (C : CD) : Prop where pe : PE X e (tD X T A ρ C)
structure DV (ρ : Ev) (e : Expr) (C : CV) : Prop where pe : PE X e (tV X T A ρ C)
structure DT (ρ : Ev) (e : Expr) (C : CB) : Prop where pe : PT X e (tT X T A ρ C)
structure DW (ρ : Ev) (e : Expr) (C : CB) : Prop where pe : PW X e (tT X T A ρ C)
structure DA (ρ : Ev) (es : List Expr) (C : CL) : Prop where pe : PA X es (tA X T A ρ C)
structure DS (ρ : Ev) (st : Stmt) (O : DO) : Prop where pe : PS X st (tS X T A ρ O)
structure DSs (ρ : Ev) (st : List Stmt) (O : DO) : Prop where pe : PSs X st (tS X T A ρ O)
/-! the readings that any syntax has -/
def goE (e : Expr) : TE := fun σ H Q => ∃ ρ C, DE X T A ρ e C ∧ tD X T A ρ C σ H Q
def goV (e : Expr) : TE := fun σ H Q => ∃ ρ C, DV X T A ρ e C ∧ tV X T A ρ C σ H Q
def goT (e : Expr) : TT := fun σ H Q => ∃ ρ C, DT X T A ρ e C ∧ tT X T A ρ C σ H Q
def goW (e : Expr) : TT := fun σ H Q => ∃ ρ C, DW X T A ρ e C ∧ tT X T A ρ C σ H Q
def goA (es : List Expr) : TA := fun σ H Q => ∃ ρ C, DA X T A ρ es C ∧ tA X T A ρ C σ H Q
def goS (st : Stmt) : TS := fun E σ H => ∃ ρ O, DS X T A ρ st O ∧ tS X T A ρ O E σ H
def goSs (st : List Stmt) : TS := fun E σ H => ∃ ρ O, DSs X T A ρ st O ∧ tS X T A ρ O E σ H
end judge
section gos
variable {X : Cx} {T : List (Addr × Str)} {A : Anc} {e : Expr} {es : List Expr} {st : Stmt} {sts : List Stmt}
theorem pe_go : PE X e (goE X T A e) := ⟨fun pins s σ H Q I ⟨_, _, h, q⟩ => h.pe.run pins s σ H Q I q⟩
theorem pv_go : PE X e (goV X T A e) := ⟨fun pins s σ H Q I ⟨_, _, h, q⟩ => h.pe.run pins s σ H Q I q⟩
theorem pt_go : PT X e (goT X T A e) := ⟨fun pins s σ H Q I ⟨_, _, h, q⟩ => h.pe.run pins s σ H Q I q⟩
theorem pw_go : PW X e (goW X T A e) := ⟨fun wh pins s σ H Q I ⟨_, _, h, q⟩ => h.pe.run wh pins s σ H Q I q⟩
theorem pa_go : PA X es (goA X T A es) := ⟨fun pos pins s σ H Q I ⟨_, _, h, q⟩ => h.pe.run pos pins s σ H Q I q⟩
theorem ps_go : PS X st (goS X T A st) := ⟨fun pins s σ H E I ⟨_, _, h, q⟩ => h.pe.run pins s σ H E I q⟩
theorem pss_go : PSs X sts (goSs X T A sts) := ⟨fun pins s σ H E I ⟨_, _, h, q⟩ => h.pe.run pins s σ H E I q⟩
/-- from a reading of the layer -/
theorem DE.of {ρ : Ev} {C : CD} {t : TE} (h : PE X e t) (k : ∀ σ H Q F, Ok X.K T A F H σ ρ → (∀ d ρ', C d ρ' → ∀ v F' H', Same F F' → ρ'.ws = ρ.ws → Ok X.K T A F' H' σ ρ' → R X.K F' ρ'.ws v d → Q v H') → t σ H Q) : DE X T A ρ e C :=
  ⟨⟨fun pins s σ H Q I ⟨F, ok, q⟩ => h.run pins s σ H Q I (k σ H Q F ok q)⟩⟩
theorem DV.of {ρ : Ev} {C : CV} {t : TE} (h : PE X e t) (k : ∀ σ H Q F, Ok X.K T A F H σ ρ → (∀ r ρ', C r ρ' → ∀ v F' H', Same F F' → ρ'.ws = ρ.ws → Ok X.K T A F' H' σ ρ' → Gv X.K A F' H' ρ' v r → Q v H') → t σ H Q) : DV X T A ρ e C :=
  ⟨⟨fun pins s σ H Q I ⟨F, ok, q⟩ => h.run pins s σ H Q I (k σ H Q F ok q)⟩⟩
theorem DT.of {ρ : Ev} {C : CB} {t : TT} (h : PT X e t) (k : ∀ σ H Q F, Ok X.K T A F H σ ρ → (∀ b ρ', C b ρ' → ∀ F' H', Same F F' → ρ'.ws = ρ.ws → Ok X.K T A F' H' σ ρ' → Q b H') → t σ H Q) : DT X T A ρ e C :=
  ⟨⟨fun pins s σ H Q I ⟨F, ok, q⟩ => h.run pins s σ H Q I (k σ H Q F ok q)⟩⟩
theorem DW.of {ρ : Ev} {C : CB} {t : TT} (h : PW X e t) (k : ∀ σ H Q F, Ok X.K T A F H σ ρ → (∀ b ρ', C b ρ' → ∀ F' H', Same F F' → ρ'.ws = ρ.ws → Ok X.K T A F' H' σ ρ' → Q b H') → t σ H Q) : DW X T A ρ e C :=
  ⟨⟨fun wh pins s σ H Q I ⟨F, ok, q⟩ => h.run wh pins s σ H Q I (k σ H Q F ok q)⟩⟩
theorem DA.of {ρ : Ev} {C : CL} {t : TA} (h : PA X es t) (k : ∀ σ H Q F, Ok X.K T A F H σ ρ → (∀ ds ρ', C ds ρ' → ∀ vs F' H', Same F F' → ρ'.ws = ρ.ws → Ok X.K T A F' H' σ ρ' → Rs X.K F' ρ'.ws vs ds → Q vs H') → t σ H Q) : DA X T A ρ es C :=
  ⟨⟨fun pos pins s σ H Q I ⟨F, ok, q⟩ => h.run pos pins s σ H Q I (k σ H Q F ok q)⟩⟩
theorem DS.of {ρ : Ev} {O : DO} {t : TS} (h : PS X st t) (k : ∀ E σ H, tS X T A ρ O E σ H → t E σ H) : DS X T A ρ st O :=
  ⟨⟨fun pins s σ H E I q => h.run pins s σ H E I (k E σ H q)⟩⟩
theorem DSs.of {ρ : Ev} {O : DO} {t : TS} (h : PSs X sts t) (k : ∀ E σ H, tS X T A ρ O E σ H → t E σ H) : DSs X T A ρ sts O :=
  ⟨⟨fun pins s σ H E I q => h.run pins s σ H E I (k E σ H q)⟩⟩
end gos
end DL
end

section
namespace DL
open PySem PySem.Spec L2
/-! ### what an environment bears -/
section ok
variable {K : PySem.W.Frag} {T : List (Addr × Str)} {A : Anc} {F F' H H' : Hp} {σ : L2.St} {ρ : Ev}
theorem ownOf_bx {o : Option Sl} {a : Addr} {c : Con} (h : ownOf o = some (a, c)) : ∃ s, o = some s ∧ s.bx = some (a, c) := by
  cases o with
  | none => cases h
  | some s => exact ⟨s, rfl, h⟩
theorem ownOf_of {o : Option Sl} {s : Sl} {x : Addr × Con} (h : o = some s) (e : s.bx = some x) : ownOf o = some x := by
  rw [h]
  exact e
theorem at_inl {ρ : Ev} {i : Nat} {a : Addr} {c : Con} (h : ρ.at (.inl i) = some (a, c)) : ∃ s, ρ.sl[i]? = some s ∧ s.bx = some (a, c) := ownOf_bx h
theorem at_of {ρ : Ev} {i : Nat} {a : Addr} {ds : List D} (h : ρ.sl[i]? = some (.own a ds)) : ρ.at (.inl i) = some (a, .lst ds) := ownOf_of h rfl
theorem at_ofB {ρ : Ev} {i : Nat} {a : Addr} {c : Con} {s : Sl} (h : ρ.sl[i]? = some s) (e : s.bx = some (a, c)) : ρ.at (.inl i) = some (a, c) := ownOf_of h e
theorem put_get {l : List Sl} {i j : Nat} {s u : Sl} (h : (l.set i s)[j]? = some u) : (j = i ∧ u = s ∧ i < l.length) ∨ (j ≠ i ∧ l[j]? = some u) := by
  by_cases e : j = i
  · subst e
    by_cases hl : j < l.length
    · rw [List.getElem?_set_self hl] at h
      exact .inl ⟨rfl, (Option.some.inj h).symm, hl⟩
    · rw [List.getElem?_eq_none (by simpa using hl)] at h
      cases h
  · rw [List.getElem?_set_ne (Ne.symm e)] at h
    exact .inr ⟨e, h⟩
theorem at_put {ρ : Ev} {i : Nat} {s : Sl} {p : Sum Nat Nat} {x : Addr × Con} (h : (ρ.put i s).at p = some x) : (p = .inl i ∧ s.bx = some x ∧ i < ρ.sl.length) ∨ (p ≠ .inl i ∧ ρ.at p = some x) := by
  obtain ⟨a, c⟩ := x
  cases p with
  | inr j => exact .inr ⟨by simp, h⟩
  | inl j =>
    obtain ⟨s', h1, h2⟩ := at_inl h
    rcases put_get h1 with ⟨rfl, e, l⟩ | ⟨e, h'⟩
    · rw [e] at h2
      exact .inl ⟨rfl, h2, l⟩
    · exact .inr ⟨by simp [e], at_ofB h' h2⟩
theorem Ok.up (ok : Ok K T A F H σ ρ) (s1 : Same F F') (s2 : Same F' H') (s3 : Same H H') (nw : ∀ a, F' a ≠ none → F a = none → H a = none) (nt : ∀ a o, F' a = some o → F a = none → NoTbl o) : Ok K T A F' H' σ ρ := by
  have fr : ∀ a o, H a = some o → F a = none → F' a = none := fun a o e n => by
    cases q : F' a with
    | none => rfl
    | some u =>
      have z := nw a (by rw [q]; simp) n
      rw [e] at z
      cases z
  refine ⟨ok.sub0.trans s1, s2, fun a o e n w => s3 _ _ (ok.keep a o e n w), fun a h n => ?_, fun a h => ?_, ⟨ok.tabs.1.ext s3, fun a o e => by
    cases q : F a with
    | none => exact nt a o e q
    | some u =>
      rw [s1 _ _ q] at e
      cases e
      exact ok.tabs.2 a _ q⟩, ok.wsub, ok.wnew, fun a h => ?_, fun i d e => ?_, ok.ownS, fun p a ds e => ?_, ok.dist, ok.len⟩
  · cases q : H a with
    | none => exact absurd q (ok.there a h)
    | some o => exact fr a o q (ok.apart a h n)
  · cases q : H a with
    | none => exact absurd q (ok.there a h)
    | some o =>
      rw [s3 _ _ q]
      simp
  · obtain ⟨⟨c, m, n, e, r⟩, n2⟩ := ok.strm a h
    exact ⟨⟨c, m, n, s3 _ _ e, r⟩, fr a _ e n2⟩
  · obtain ⟨v, h1, h2⟩ := ok.slots i d e
    exact ⟨v, h1, h2.mo s1⟩
  · obtain ⟨h1, h2, h3, o, h4, h5⟩ := ok.owns p a ds e
    exact ⟨fr a _ h4 h1, h2, h3, o, s3 _ _ h4, h5.mo s1⟩
theorem Ok.grow (ok : Ok K T A F H σ ρ) (s : Same H H') : Ok K T A F H' σ ρ := ok.up (fun _ _ z => z) (fun b o z => s _ _ (ok.sub _ _ z)) s (fun a h n => absurd n h) (fun a o e n => by rw [e] at n; cases n)
theorem same_upd {p : Addr} {o : HO} (h : H p = none) : Same H (upd H p o) := fun b x e => by
  rw [upd_ne (ne_of_none e h)]
  exact e
theorem Ok.fnone (ok : Ok K T A F H σ ρ) {p : Addr} (h : H p = none) : F p = none := ok.sub.free h
theorem Ok.anone (ok : Ok K T A F H σ ρ) {p : Addr} (h : H p = none) : A.H p = none := by
  cases q : A.H p with
  | none => rfl
  | some o => exact absurd h (ok.there p (by rw [q]; simp))
/-- a new thing that is data from the start -/
theorem Ok.alloc (ok : Ok K T A F H σ ρ) {p : Addr} {o : HO} (h : H p = none) (ho : NoTbl o := by intro ps z; cases z) : Ok K T A (upd F p o) (upd H p o) σ ρ ∧ Same F (upd F p o) := by
  have sF : Same F (upd F p o) := same_upd (ok.fnone h)
  refine ⟨ok.up sF (fun b x e => ?_) (same_upd h) (fun a n1 n2 => ?_) (fun a u e n => ?_), sF⟩
  · by_cases hb : b = p
    · subst hb
      rw [upd_same] at e ⊢
      exact e
    · rw [upd_ne hb] at e ⊢
      exact ok.sub _ _ e
  · by_cases hb : a = p
    · rw [hb]; exact h
    · rw [upd_ne hb] at n1
      exact absurd n2 n1
  · by_cases hb : a = p
    · rw [hb, upd_same] at e
      cases e
      exact ho
    · rw [upd_ne hb, n] at e
      cases e
/-- a new thing of one's own -/
theorem Ok.mineB (ok : Ok K T A F H σ ρ) {p : Addr} {o : HO} {c : Con} (h : H p = none) (r : RC K F ρ.ws o c) : Ok K T A F (upd H p o) σ ρ ∧ GvB K A F (upd H p o) ρ (.ref p) p c := by
  refine ⟨ok.grow (same_upd h), rfl, ok.fnone h, fun w => ?_, ok.anone h, ⟨o, upd_same, r⟩, fun q ds' e => ?_⟩
  · obtain ⟨⟨_, _, _, e, _⟩, _⟩ := ok.strm p w
    rw [h] at e; cases e
  · obtain ⟨_, _, _, _, e, _⟩ := ok.owns q p ds' e
    rw [h] at e; cases e
/-- a new list of one's own -/
theorem Ok.mine (ok : Ok K T A F H σ ρ) {p : Addr} {vs : List V} {ds : List D} (h : H p = none) (r : Rs K F ρ.ws vs ds) : Ok K T A F (upd H p (.lst vs)) σ ρ ∧ Gv K A F (upd H p (.lst vs)) ρ (.ref p) (.l p ds) := ok.mineB h (.lst r)
theorem Fz.data {o o' : HO} {c : Con} {ws : List Addr} (h : RC K F ws o c) (z : Fz o o') {a : Addr} (e : F' a = some o') (s : Same F F') : R K F' ws (.ref a) c.toD := by
  cases h with
  | lst t => cases z; exact .lst e (t.mo s)
  | dK t => cases z; exact .dK e (Rk.mono s (fun _ z => z) _ _ t)
  | dT t => cases z; exact .dT e (Rt.mono s (fun _ z => z) _ _ t)
  | ins hc t => cases z; exact .obj hc e (Rf.mono s (fun _ z => z) _ _ t)
theorem Fz.noTbl {o o' : HO} (z : Fz o o') : NoTbl o' := by
  cases z <;> (intro ps z; cases z)
theorem RC.noTbl {o : HO} {c : Con} {ws : List Addr} (h : RC K F ws o c) : NoTbl o := by
  cases h <;> (intro ps z; cases z)
theorem upd_id {a : Addr} {o : HO} (e : H a = some o) : upd H a o = H := by
  funext b
  by_cases hb : b = a
  · rw [hb, upd_same, e]
  · rw [upd_ne hb]
theorem tabs_upd {T : List (Addr × Str)} {a : Addr} {o0 o : HO} {c : Con} {ws : List Addr} (t : LamX.Tabs T H) (h4 : H a = some o0) (h5 : RC K F ws o0 c) : LamX.Tabs T (upd H a o) := fun p hp => by
  obtain ⟨ps, e1, e2, e3⟩ := t p hp
  have nt : ∀ qs, o0 ≠ .tbl qs := h5.noTbl
  have nc : ∀ b x, H b = some x → x ≠ o0 → b ≠ a := fun b x hb hx z => by
    rw [z, h4] at hb
    exact hx (Option.some.inj hb).symm
  refine ⟨ps, ?_, e2, fun pos cv q => ?_⟩
  · rw [upd_ne (nc _ _ e1 (fun z => nt _ z.symm))]
    exact e1
  · obtain ⟨cc, e4, e5⟩ := e3 pos cv q
    refine ⟨cc, e4, ?_⟩
    rw [upd_ne (nc _ _ e5 (fun z => by
      rw [← z] at h5
      cases h5))]
    exact e5
/-- one's own thing is let go: data -/
theorem Ok.thawB (ok : Ok K T A F H σ ρ) {v : V} {a : Addr} {c : Con} (g : GvB K A F H ρ v a c) {o o' : HO} (eo : H a = some o) (z : Fz o o') : Same F (upd F a o') ∧ Ok K T A (upd F a o') (upd H a o') σ ρ ∧ R K (upd F a o') ρ.ws v c.toD := by
  obtain ⟨rfl, h1, h2, h3, ⟨vs, h4, h5⟩, h6⟩ := g
  rw [eo] at h4
  cases h4
  have sF : Same F (upd F a o') := same_upd h1
  refine ⟨sF, ⟨ok.sub0.trans sF, fun b x e => ?_, fun b u e n w => ?_, fun b hb n => ?_, fun b hb => ?_, ⟨tabs_upd ok.tabs.1 eo h5, fun b u e => ?_⟩, ok.wsub, ok.wnew, fun b hb => ?_, fun i d e => ?_, ok.ownS, fun p b es e => ?_, ok.dist, ok.len⟩, z.data h5 upd_same sF⟩
  · by_cases hb : b = a
    · subst hb
      rw [upd_same] at e ⊢
      exact e
    · rw [upd_ne hb] at e ⊢
      exact ok.sub _ _ e
  · rw [upd_ne (fun z : b = a => by rw [z, h3] at e; cases e)]
    exact ok.keep b u e n w
  · rw [upd_ne (fun z : b = a => hb (by rw [z]; exact h3))]
    exact ok.apart b hb n
  · by_cases hb2 : b = a
    · rw [hb2, upd_same]; simp
    · rw [upd_ne hb2]; exact ok.there b hb
  · by_cases hb : b = a
    · rw [hb, upd_same] at e
      cases e
      exact z.noTbl
    · rw [upd_ne hb] at e
      exact ok.tabs.2 b u e
  · have ne : b ≠ a := fun z => h2 (by rw [← z]; exact hb)
    obtain ⟨⟨cc, m, n, q, zz⟩, n2⟩ := ok.strm b hb
    rw [upd_ne ne]
    exact ⟨⟨cc, m, n, by rw [upd_ne ne]; exact q, zz⟩, n2⟩
  · obtain ⟨v, e1, e2⟩ := ok.slots i d e
    exact ⟨v, e1, e2.mo sF⟩
  · obtain ⟨e1, e2, e3, us, e4, e5⟩ := ok.owns p b es e
    have ne : b ≠ a := fun z => h6 p es (by rw [← z]; exact e)
    refine ⟨?_, e2, e3, us, ?_, e5.mo sF⟩
    · rw [upd_ne ne]
      exact e1
    · rw [upd_ne ne]
      exact e4
theorem Ok.thaw (ok : Ok K T A F H σ ρ) {v : V} {a : Addr} {ds : List D} (g : Gv K A F H ρ v (.l a ds)) : ∃ F', Same F F' ∧ Ok K T A F' H σ ρ ∧ R K F' ρ.ws v (.lst ds) := by
  obtain ⟨o, e, r⟩ := g.2.2.2.2.1
  obtain ⟨vs, rfl, _⟩ := r.list
  obtain ⟨s, ok', rd⟩ := ok.thawB g e (.lst vs)
  rw [upd_id e] at ok'
  exact ⟨_, s, ok', rd⟩
theorem set_at {σ : L2.St} {i : Nat} {v : V} (h : i < σ.length) : (σ.set i (some v))[i]? = some (some v) := List.getElem?_set_self h
/-- a thing that is let go: its object, and what it becomes -/
def tFz (t : TE) : TE := fun σ H Q => t σ H fun v H1 => Q v H1 ∨ ∃ d u, H1 d = some u ∧ Mut (some u) ∧ ∀ od, Q v (upd H1 d (.frz od u))
theorem pe_fz {X : Cx} {e : Expr} {t : TE} (h : PE X e t) : PE X e (tFz t) := by
  refine ⟨fun pins s σ H Q I hw => ?_⟩
  refine thn (h.run pins s σ _ _ I hw) fun v s1 ⟨x, H1, I2, r, q⟩ => ?_
  rcases q with q | ⟨d, u, hd, mu, q⟩
  · exact ⟨x, _, I2, r, q⟩
  · obtain ⟨od, I3⟩ := I2.lock hd mu
    exact ⟨x, _, I3, r, q od⟩
/-- to let a thing go: it is enough to do with whatever it becomes -/
theorem fz_of {v : V} {a : Addr} {o : HO} {c : Con} {ws : List Addr} {Q : VK} (e : H a = some o) (r : RC K F ws o c) (h : ∀ o', Fz o o' → Q v (upd H a o')) : Q v H ∨ ∃ d u, H d = some u ∧ Mut (some u) ∧ ∀ od, Q v (upd H d (.frz od u)) := by
  cases r with
  | lst t =>
    have q := h _ (.lst _)
    rw [upd_id e] at q
    exact .inl q
  | dK t => exact .inr ⟨a, _, e, trivial, fun od => h _ (.dK od _)⟩
  | dT t => exact .inr ⟨a, _, e, trivial, fun od => h _ (.dT od _)⟩
  | ins hc t =>
    have q := h _ (.ins _ _ _)
    rw [upd_id e] at q
    exact .inl q
theorem gv_box {v : V} {r : RV} {a : Addr} {c : Con} (g : Gv K A F H ρ v r) (e : (Sl.of r).bx = some (a, c)) : GvB K A F H ρ v a c := by
  cases r with
  | v d => cases e
  | l b ds => cases e; exact g
  | b b ds => cases e; exact g
theorem of_dat {r : RV} {d : D} (e : Sl.of r = .dat d) : r = .v d := by
  cases r with
  | v d' => cases e; rfl
  | l b ds => cases e
  | b b ds => cases e
/-- a slot is set -/
theorem Ok.put (ok : Ok K T A F H σ ρ) {i : Nat} {v : V} {r : RV} (g : Gv K A F H ρ v r) : Ok K T A F H (σ.set i (some v)) (ρ.put i (.of r)) := by
  refine ⟨ok.sub0, ok.sub, ok.keep, ok.apart, ok.there, ok.tabs, ok.wsub, ok.wnew, ok.strm, fun j d e => ?_, fun j a c e => ?_, fun p a c e => ?_, fun p q a c c' e1 e2 => ?_, ?_⟩
  · rcases put_get e with ⟨rfl, e, l⟩ | ⟨n, e⟩
    · cases of_dat e.symm
      exact ⟨v, set_at (Nat.lt_of_lt_of_le l ok.len), g⟩
    · rw [List.getElem?_set_ne (Ne.symm n)]
      exact ok.slots j d e
  · obtain ⟨s, e, eb⟩ := ownOf_bx e
    rcases put_get e with ⟨rfl, e, l⟩ | ⟨n, e⟩
    · subst e
      obtain ⟨rfl, _⟩ := gv_box g eb
      exact set_at (Nat.lt_of_lt_of_le l ok.len)
    · rw [List.getElem?_set_ne (Ne.symm n)]
      exact ok.ownS j a c (ownOf_of e eb)
  · rcases at_put e with ⟨rfl, e, l⟩ | ⟨n, e⟩
    · obtain ⟨_, h1, h2, h3, h4, _⟩ := gv_box g e
      exact ⟨h1, h2, h3, h4⟩
    · exact ok.owns p a c e
  · rcases at_put e1 with ⟨rfl, e1, l1⟩ | ⟨n1, f1⟩
    · rcases at_put e2 with ⟨rfl, f2, l2⟩ | ⟨n2, f2⟩
      · rfl
      · exact absurd f2 ((gv_box g e1).2.2.2.2.2 q c')
    · rcases at_put e2 with ⟨rfl, f2, l2⟩ | ⟨n2, f2⟩
      · exact absurd f1 ((gv_box g f2).2.2.2.2.2 p c)
      · exact ok.dist p q a c c' f1 f2
  · rw [List.length_set, List.length_set]
    exact ok.len
/-- a slot is forgotten -/
theorem Ok.forget (ok : Ok K T A F H σ ρ) (i : Nat) : Ok K T A F H σ (ρ.put i .non) := by
  refine ⟨ok.sub0, ok.sub, ok.keep, ok.apart, ok.there, ok.tabs, ok.wsub, ok.wnew, ok.strm, fun j d q => ?_, fun j b c q => ?_, fun p b c q => ?_, fun p q b c c' e1 e2 => ?_, ?_⟩
  · rcases put_get q with ⟨_, q, _⟩ | ⟨_, q⟩
    · cases q
    · exact ok.slots j d q
  · obtain ⟨s, q, qb⟩ := ownOf_bx q
    rcases put_get q with ⟨_, q, _⟩ | ⟨_, q⟩
    · subst q
      cases qb
    · exact ok.ownS j b c (ownOf_of q qb)
  · rcases at_put q with ⟨_, q, _⟩ | ⟨_, q⟩
    · cases q
    · exact ok.owns p b c q
  · rcases at_put e1 with ⟨_, q, _⟩ | ⟨_, e1⟩
    · cases q
    rcases at_put e2 with ⟨_, q, _⟩ | ⟨_, e2⟩
    · cases q
    exact ok.dist p q b c c' e1 e2
  · rw [List.length_set]; exact ok.len
/-- a slot's own thing: the slot is forgotten, the thing is at hand -/
theorem Ok.takeB (ok : Ok K T A F H σ ρ) {i : Nat} {a : Addr} {c : Con} {s : Sl} (e : ρ.sl[i]? = some s) (eb : s.bx = some (a, c)) : Ok K T A F H σ (ρ.put i .non) ∧ GvB K A F H (ρ.put i .non) (.ref a) a c := by
  obtain ⟨h1, h2, h3, vs, h4, h5⟩ := ok.owns _ a c (at_ofB e eb)
  refine ⟨ok.forget i, rfl, h1, h2, h3, ⟨vs, h4, h5⟩, fun p es q => ?_⟩
  rcases at_put q with ⟨_, q, _⟩ | ⟨n, q⟩
  · cases q
  · exact n (ok.dist p (.inl i) a es c q (at_ofB e eb))
/-- a slot of one's own becomes data -/
theorem Ok.letgoB (ok : Ok K T A F H σ ρ) {i : Nat} {a : Addr} {c : Con} {s : Sl} (e : ρ.sl[i]? = some s) (eb : s.bx = some (a, c)) {o o' : HO} (eo : H a = some o) (z : Fz o o') : Same F (upd F a o') ∧ Ok K T A (upd F a o') (upd H a o') σ (ρ.put i (.dat c.toD)) ∧ R K (upd F a o') ρ.ws (.ref a) c.toD := by
  have hs := ok.ownS i a c (ownOf_of e eb)
  obtain ⟨ok0, g0⟩ := ok.takeB e eb
  obtain ⟨sF, ok1, r⟩ := ok0.thawB g0 eo z
  refine ⟨sF, ?_, r⟩
  have ok2 := ok1.put (i := i) (r := .v c.toD) r
  have e1 : σ.set i (some (.ref a)) = σ := by
    apply List.ext_getElem?
    intro j
    by_cases hj : j = i
    · subst hj
      rw [set_at (List.getElem?_eq_some_iff.mp hs).1, hs]
    · rw [List.getElem?_set_ne (Ne.symm hj)]
  rw [e1] at ok2
  have e2 : (ρ.put i .non).put i (.dat c.toD) = ρ.put i (.dat c.toD) := by
    show ({ ρ with sl := (ρ.sl.set i .non).set i (.dat c.toD) } : Ev) = _
    rw [List.set_set]
  rw [← e2]
  exact ok2
theorem Ok.ownL (ok : Ok K T A F H σ ρ) {i : Nat} {a : Addr} {ds : List D} (e : ρ.sl[i]? = some (.own a ds)) : F a = none ∧ a ∉ ρ.ws ∧ A.H a = none ∧ ∃ vs, H a = some (.lst vs) ∧ Rs K F ρ.ws vs ds := by
  obtain ⟨h1, h2, h3, o, h4, h5⟩ := ok.owns _ a _ (at_of e)
  obtain ⟨vs, rfl, t⟩ := h5.list
  exact ⟨h1, h2, h3, vs, h4, t⟩
theorem Ok.ownSL (ok : Ok K T A F H σ ρ) {i : Nat} {a : Addr} {ds : List D} (e : ρ.sl[i]? = some (.own a ds)) : σ[i]? = some (some (.ref a)) := ok.ownS i a _ (ownOf_of e rfl)
theorem Ok.letgo (ok : Ok K T A F H σ ρ) {i : Nat} {a : Addr} {ds : List D} (e : ρ.sl[i]? = some (.own a ds)) : ∃ F', Same F F' ∧ Ok K T A F' H σ (ρ.put i (.dat (.lst ds))) ∧ R K F' ρ.ws (.ref a) (.lst ds) := by
  obtain ⟨_, _, _, o, h4, h5⟩ := ok.owns _ a _ (at_of e)
  obtain ⟨vs, rfl, _⟩ := h5.list
  obtain ⟨s, ok', rd⟩ := ok.letgoB e rfl h4 (.lst vs)
  rw [upd_id h4] at ok'
  exact ⟨_, s, ok', rd⟩
theorem Ok.gas (ok : Ok K T A F H σ ρ) {g : Nat} (h : g ≤ ρ.g) : Ok K T A F H σ (ρ.gas g) :=
  ⟨ok.sub0, ok.sub, ok.keep, ok.apart, ok.there, ok.tabs, ok.wsub, ok.wnew, fun a w => ⟨(ok.strm a w).1.less h, (ok.strm a w).2⟩, ok.slots, ok.ownS, ok.owns, ok.dist, ok.len⟩
/-- an own thing at p holds something else: ρ' says so, else as ρ -/
theorem Ok.chg (ok : Ok K T A F H σ ρ) {p0 : Sum Nat Nat} {a : Addr} {c c2 : Con} {o : HO} {ρ' : Ev} (e : ρ.at p0 = some (a, c)) (r : RC K F ρ.ws o c2) (ew : ρ'.ws = ρ.ws) (eg : ρ'.g = ρ.g) (el : ρ'.sl.length ≤ ρ.sl.length)
    (hd : ∀ (i : Nat) d, ρ'.sl[i]? = some (.dat d) → ρ.sl[i]? = some (.dat d)) (ha : ∀ p x, ρ'.at p = some x → (p = p0 ∧ x = (a, c2)) ∨ (p ≠ p0 ∧ ρ.at p = some x)) : Ok K T A F (upd H a o) σ ρ' := by
  obtain ⟨h1, h2, h3, o0, h4, h5⟩ := ok.owns _ a c e
  refine ⟨ok.sub0, fun b x q => ?_, fun b o q n w => ?_, ok.apart, fun b n => ?_, ⟨tabs_upd ok.tabs.1 h4 h5, ok.tabs.2⟩, by rw [ew]; exact ok.wsub, by rw [ew]; exact ok.wnew, fun b w => ?_, fun j d q => ?_, fun j b bc q => ?_, fun p b bc q => ?_, fun p q b d1 d2 e1 e2 => ?_, Nat.le_trans el ok.len⟩
  · rw [upd_ne (ne_of_none q h1)]
    exact ok.sub _ _ q
  · rw [upd_ne (ne_of_none q h3)]
    exact ok.keep b o q n w
  · by_cases hb : b = a
    · rw [hb, upd_same]; simp
    · rw [upd_ne hb]; exact ok.there b n
  · rw [ew] at w
    obtain ⟨⟨cc, m, n, q, z⟩, n2⟩ := ok.strm b w
    rw [eg]
    refine ⟨⟨cc, m, n, ?_, z⟩, n2⟩
    rw [upd_ne (fun z : b = a => h2 (by rw [← z]; exact w))]
    exact q
  · rw [ew]
    exact ok.slots j d (hd j d q)
  · rcases ha (.inl j) (b, bc) q with ⟨z1, z2⟩ | ⟨_, z⟩
    · cases z2
      rw [← z1] at e
      exact ok.ownS j a c e
    · exact ok.ownS j b bc z
  · rcases ha p (b, bc) q with ⟨z1, z2⟩ | ⟨z1, z⟩
    · cases z2
      rw [ew]
      exact ⟨h1, h2, h3, o, upd_same, r⟩
    · obtain ⟨q1, q2, q3, ws, q4, q5⟩ := ok.owns p b bc z
      rw [ew]
      refine ⟨q1, q2, q3, ws, ?_, q5⟩
      rw [upd_ne (fun z2 : b = a => z1 (ok.dist p p0 b bc c z (by rw [z2]; exact e)))]
      exact q4
  · rcases ha p (b, d1) e1 with ⟨z1, z2⟩ | ⟨z1, f1⟩
    · rcases ha q (b, d2) e2 with ⟨y1, y2⟩ | ⟨y1, f2⟩
      · rw [z1, y1]
      · cases z2
        rw [z1]
        exact (ok.dist q p0 _ _ _ f2 e).symm
    · rcases ha q (b, d2) e2 with ⟨y1, y2⟩ | ⟨y1, f2⟩
      · cases y2
        rw [y1]
        exact ok.dist p p0 _ _ _ f1 e
      · exact ok.dist p q b d1 d2 f1 f2
/-- what is known of one's own thing at a slot, changed -/
theorem Ok.boxUpd (ok : Ok K T A F H σ ρ) {i : Nat} {a : Addr} {c c2 : Con} {o : HO} {s s2 : Sl} (e : ρ.sl[i]? = some s) (eb : s.bx = some (a, c)) (eb2 : s2.bx = some (a, c2)) (r : RC K F ρ.ws o c2) : Ok K T A F (upd H a o) σ (ρ.put i s2) := by
  refine ok.chg (at_ofB e eb) r rfl rfl (by rw [List.length_set]; exact Nat.le_refl _) (fun j d q => ?_) (fun p x q => ?_)
  · rcases put_get q with ⟨_, q, _⟩ | ⟨_, q⟩
    · rw [← q] at eb2
      cases eb2
    · exact q
  · rcases at_put q with ⟨rfl, q, _⟩ | ⟨n, q⟩
    · rw [eb2] at q
      exact .inl ⟨rfl, (Option.some.inj q).symm⟩
    · exact .inr ⟨n, q⟩
theorem Ok.ownUpd (ok : Ok K T A F H σ ρ) {i : Nat} {a : Addr} {ds es : List D} {us : List V} (e : ρ.sl[i]? = some (.own a ds)) (r : Rs K F ρ.ws us es) : Ok K T A F (upd H a (.lst us)) σ (ρ.put i (.own a es)) := ok.boxUpd e rfl rfl (.lst r)
end ok
end DL
end

section
namespace DL
open PySem PySem.Spec L2
/-! ### data as the library has it -/
mutual
def toPy : D → Option PyData
  | .non => some .none
  | .bl b => some (.bool b)
  | .int i => some (.int i)
  | .str x => some (.str x)
  | .lst ds => (toPys ds).map .list
  | .kl ds => (toPys ds).map .list
  | .tup ds => (toPys ds).map .tuple
  | .dK _ => none
  | .dT _ => none
  | .obj _ _ => none
  | .fn _ => none
  | .strm => none
  | .exc _ _ _ => none
  | .ref _ => none
def toPys : List D → Option (List PyData)
  | [] => some []
  | d :: ds => match toPy d, toPys ds with
    | some p, some ps => some (p :: ps)
    | _, _ => none
end
section dp
variable {K : PySem.W.Frag} {F H : Hp} {ws : List Addr}
mutual
theorem dp_of (s : Same F H) : ∀ (d : D) (v : V) (p : PyData), R K F ws v d → toPy d = some p → Dp K H v p
  | .non, _, _, h, e => by cases h; simp only [toPy, Option.some.injEq] at e; subst e; exact .non
  | .bl _, _, _, h, e => by cases h; simp only [toPy, Option.some.injEq] at e; subst e; exact .bl _
  | .int _, _, _, h, e => by cases h; simp only [toPy, Option.some.injEq] at e; subst e; exact .int _
  | .str _, _, _, h, e => by cases h; simp only [toPy, Option.some.injEq] at e; subst e; exact .str _
  | .lst ds, _, p, h, e => by
    cases h with
    | lst h t =>
      rw [toPy] at e
      obtain ⟨ps, e1, rfl⟩ := Option.map_eq_some_iff.mp e
      exact .lst (.of (s _ _ h)) (dps_of s ds _ ps t e1)
  | .kl ds, _, p, h, e => by
    cases h with
    | kl h t =>
      rw [toPy] at e
      obtain ⟨ps, e1, rfl⟩ := Option.map_eq_some_iff.mp e
      exact .lst (sqL_mono s h) (dps_of s ds _ ps t e1)
  | .tup ds, _, p, h, e => by
    cases h with
    | tup h t =>
      rw [toPy] at e
      obtain ⟨ps, e1, rfl⟩ := Option.map_eq_some_iff.mp e
      exact .tup (sqT_mono s h) (dps_of s ds _ ps t e1)
  | .dK _, _, _, _, e => by simp [toPy] at e
  | .obj _ _, _, _, _, e => by simp [toPy] at e
  | .fn _, _, _, _, e => by simp [toPy] at e
  | .strm, _, _, _, e => by simp [toPy] at e
  | .exc _ _ _, _, _, _, e => by simp [toPy] at e
  | .ref _, _, _, _, e => by simp [toPy] at e
theorem dps_of (s : Same F H) : ∀ (ds : List D) (vs : List V) (ps : List PyData), Rs K F ws vs ds → toPys ds = some ps → DpAll K H vs ps
  | [], _, _, h, e => by cases h; simp only [toPys, Option.some.injEq] at e; subst e; exact .nil
  | d :: ds, _, ps, h, e => by
    cases h with
    | cons h t =>
      rw [toPys] at e
      cases e1 : toPy d with
      | none => rw [e1] at e; cases e
      | some p =>
        cases e2 : toPys ds with
        | none => rw [e1, e2] at e; cases e
        | some qs =>
          rw [e1, e2] at e
          cases e
          exact .cons (dp_of s d _ p h e1) (dps_of s ds _ qs t e2)
end
end dp
def isN : D → Bool
  | .non => true
  | _ => false
theorem isN_ok {K : PySem.W.Frag} {F : Hp} {ws : List Addr} {v : V} {d : D} (h : R K F ws v d) : decide (v = .non) = isN d := by
  cases h <;> rfl
/-- a list or a tuple, read -/
def seqD : D → Option (List D)
  | .lst ds => some ds
  | .kl ds => some ds
  | .tup ds => some ds
  | _ => none
def Sq (K : PySem.W.Frag) (H : Hp) (a : Addr) (xs : List V) : Prop := SqL K H a xs ∨ SqT K H a xs
theorem seq_of {K : PySem.W.Frag} {F H : Hp} {ws : List Addr} {v : V} {d : D} {ds : List D} (s : Same F H) (h : R K F ws v d) (e : seqD d = some ds) : ∃ a xs, v = .ref a ∧ Sq K H a xs ∧ Rs K F ws xs ds := by
  cases h with
  | lst h t => cases e; exact ⟨_, _, rfl, .inl (.of (s _ _ h)), t⟩
  | kl h t => cases e; exact ⟨_, _, rfl, .inl (sqL_mono s h), t⟩
  | tup h t => cases e; exact ⟨_, _, rfl, .inr (sqT_mono s h), t⟩
  | _ => cases e

/-! ### names, constants -/
def slotOf : List Str → Str → Option Nat
  | [], _ => none
  | y :: r, x => if x = y then some 0 else (slotOf r x).map (· + 1)
theorem slotOf_ok {x : Str} : ∀ {N : List Str} {i : Nat}, slotOf N x = some i → N[i]? = some x
  | y :: r, i, h => by
    unfold slotOf at h
    split at h
    · rename_i e
      cases h
      rw [e]; rfl
    · obtain ⟨j, e, rfl⟩ := Option.map_eq_some_iff.mp h
      simpa using slotOf_ok e
def nameD (ρ : Ev) (i : Nat) (C : CD) : Prop := match ρ.sl[i]? with
  | some (.dat d) => C d ρ
  | some (.own _ ds) => C (.lst ds) (ρ.put i (.dat (.lst ds)))
  | some (.box _ c) => C c.toD (ρ.put i (.dat c.toD))
  | _ => False
section rules
variable {X : Cx} {T : List (Addr × Str)} {A : Anc} {ρ : Ev} {a b c e : Expr} {es rest : List Expr} {pos p : Pos} {C : CD}
theorem de_name {x : Str} {i : Nat} (h : nameD ρ i C) (hi : slotOf X.N x = some i := by rfl) (hv : Vis X.env.scope x := by first | exact Or.inl rfl | exact Or.inr (Or.inl rfl) | exact Or.inr (Or.inr rfl))
    (hd : (x == ("__debug__" : Str)) = false := by decide) (hcd : (x == ("__classdict__" : Str)) = false := by decide) : DE X T A ρ (.Name x pos) C :=
  DE.of (pe_fz (pe_var (slotOf_ok hi) hv hd hcd)) fun σ H Q F ok q => by
    unfold nameD at h
    split at h
    · rename_i d e
      obtain ⟨v, e1, r⟩ := ok.slots i d e
      exact ⟨v, e1, .inl (q d ρ h v F H (Same.refl _) rfl ok r)⟩
    · rename_i a ds e
      obtain ⟨F', s, ok', r⟩ := ok.letgo e
      exact ⟨.ref a, ok.ownS i a _ (ownOf_of e rfl), .inl (q _ _ h _ F' H s rfl ok' r)⟩
    · rename_i a c e
      obtain ⟨_, _, _, o, h4, h5⟩ := ok.owns _ a c (at_ofB e rfl)
      refine ⟨.ref a, ok.ownS i a _ (ownOf_of e rfl), fz_of h4 h5 fun o' z => ?_⟩
      obtain ⟨s, ok', r⟩ := ok.letgoB e rfl h4 z
      exact q _ _ h _ _ _ s rfl ok' r
    · exact h.elim
theorem de_int {i : Int} {j} (h : C (.int i) ρ) : DE X T A ρ (.Constant (.int i) j pos) C := DE.of pe_int fun σ H Q F ok q => q _ _ h _ F H (Same.refl _) rfl ok (.int i)
theorem de_bl {i : Bool} {j} (h : C (.bl i) ρ) : DE X T A ρ (.Constant (.bool i) j pos) C := DE.of pe_bl fun σ H Q F ok q => q _ _ h _ F H (Same.refl _) rfl ok (.bl i)
theorem de_non {j} (h : C .non ρ) : DE X T A ρ (.Constant .none j pos) C := DE.of pe_non fun σ H Q F ok q => q _ _ h _ F H (Same.refl _) rfl ok .non
theorem de_str {i : Str} {j} (h : C (.str i) ρ) : DE X T A ρ (.Constant (.str i) j pos) C := DE.of pe_str fun σ H Q F ok q => q _ _ h _ F H (Same.refl _) rfl ok (.str i)
/-- a def as a value -/
theorem de_fn {x : Str} {f : Addr} (hm : X.mg x = some (.ref f)) (hf : FnAt X.K f) (h : C (.fn f) ρ) (hg : Gl X x := by rfl) (hd : (x == ("__debug__" : Str)) = false := by decide) : DE X T A ρ (.Name x pos) C :=
  DE.of (pe_glob (v := .ref f) hg hm rfl hd) fun σ H Q F ok q => q _ _ h _ F H (Same.refl _) rfl ok (.fn hf)

/-! ### two-place operations -/
def Lk (X : Cx) (T : List (Addr × Str)) (A : Anc) (r : R2) (S : D → D → CD → Ev → Prop) : Prop := ∀ (d1 d2 : D) (C : CD) (F H : Hp) (σ : L2.St) (ρ : Ev) (x y : V) (Q : VK), S d1 d2 C ρ → Ok X.K T A F H σ ρ → R X.K F ρ.ws x d1 → R X.K F ρ.ws y d2 →
  (∀ d ρ', C d ρ' → ∀ v F' H', Same F F' → ρ'.ws = ρ.ws → Ok X.K T A F' H' σ ρ' → R X.K F' ρ'.ws v d → Q v H') → r x y H Q
theorem go2 {r : R2} {S : D → D → CD → Ev → Prop} (hS : Lk X T A r S) (h : DE X T A ρ a (fun d1 ρ1 => DE X T A ρ1 b (fun d2 ρ2 => S d1 d2 C ρ2))) (σ : L2.St) (H : Hp) (Q : VK) (F : Hp) (ok : Ok X.K T A F H σ ρ)
    (q : ∀ d ρ', C d ρ' → ∀ v F' H', Same F F' → ρ'.ws = ρ.ws → Ok X.K T A F' H' σ ρ' → R X.K F' ρ'.ws v d → Q v H') : tOp r (goE X T A a) (goE X T A b) σ H Q :=
  ⟨ρ, _, h, F, ok, fun d1 ρ1 h1 x F1 H1 s1 w1 ok1 r1 => ⟨ρ1, _, h1, F1, ok1, fun d2 ρ2 h2 y F2 H2 s2 w2 ok2 r2 => hS d1 d2 C F2 H2 σ ρ2 x y Q h2 ok2 (by rw [w2]; exact r1.mo s2) r2
    (fun d ρ' c v F' H' s' w' ok' r' => q d ρ' c v F' H' (s1.trans (s2.trans s')) (w'.trans (w2.trans w1)) ok' r')⟩⟩
theorem de_bin {op : Operator} {r : R2} {S : D → D → CD → Ev → Prop} (ho : OpR X (binaryOp op) r) (hS : Lk X T A r S) (h : DE X T A ρ a (fun d1 ρ1 => DE X T A ρ1 b (fun d2 ρ2 => S d1 d2 C ρ2))) : DE X T A ρ (.BinOp a op b pos) C :=
  DE.of (pe_op ho pe_go pe_go) (go2 hS h)
theorem de_cmp {op : CmpOp} {r : R2} {S : D → D → CD → Ev → Prop} (ho : OpR X (compareOp op) r) (hS : Lk X T A r S) (hm : behindInMarks op b = false) (h : DE X T A ρ a (fun d1 ρ1 => DE X T A ρ1 b (fun d2 ρ2 => S d1 d2 C ρ2))) : DE X T A ρ (.Compare a [op] [b] pos) C :=
  DE.of (pe_cmpR ho pe_go pe_go hm) (go2 hS h)
def asB (C : CB) : CD := fun d ρ => match d with
  | .bl k => C k ρ
  | _ => False
theorem dt_cmp {op : CmpOp} {r : R2} {S : D → D → CD → Ev → Prop} {C : CB} (ho : OpR X (compareOp op) r) (hS : Lk X T A r S) (hm : behindInMarks op b = false) (h : DE X T A ρ a (fun d1 ρ1 => DE X T A ρ1 b (fun d2 ρ2 => S d1 d2 (asB C) ρ2))) : DT X T A ρ (.Compare a [op] [b] pos) C :=
  DT.of (pt_cmpR ho pe_go pe_go hm) fun σ H Q F ok q => go2 hS h σ H _ F ok fun d ρ' c v F' H' s' w' ok' r' => by
    unfold asB at c
    split at c
    · cases r'
      exact ⟨_, rfl, q _ _ c F' H' s' w' ok'⟩
    · exact c.elim

def iiD (P : Int → Int → Prop) (g : Int → Int → D) : D → D → CD → Ev → Prop
  | .int i, .int j, C, ρ => P i j ∧ C (g i j) ρ
  | _, _, _, _ => False
def scalD : D → V
  | .int i => .int i
  | .bl b => .bl b
  | .str x => .str x
  | _ => .non
theorem lk_ii {P : Int → Int → Prop} {g : Int → Int → Int} : Lk X T A (rI P fun i j => .int (g i j)) (iiD P fun i j => .int (g i j)) := by
  intro d1 d2 C F H σ ρ x y Q h ok r1 r2 q
  unfold iiD at h
  split at h
  · cases r1
    cases r2
    exact ⟨_, _, rfl, rfl, h.1, q _ _ h.2 _ F H (Same.refl _) rfl ok (.int _)⟩
  · exact h.elim
theorem lk_ii0 {g : Int → Int → Int} : Lk X T A (rI0 fun i j => .int (g i j)) (iiD (fun _ _ => True) fun i j => .int (g i j)) := by
  intro d1 d2 C F H σ ρ x y Q h ok r1 r2 q
  unfold iiD at h
  split at h
  · cases r1
    cases r2
    exact ⟨_, _, rfl, rfl, q _ _ h.2 _ F H (Same.refl _) rfl ok (.int _)⟩
  · exact h.elim
theorem lk_iib {g : Int → Int → Bool} : Lk X T A (rI0 fun i j => .bl (g i j)) (iiD (fun _ _ => True) fun i j => .bl (g i j)) := by
  intro d1 d2 C F H σ ρ x y Q h ok r1 r2 q
  unfold iiD at h
  split at h
  · cases r1
    cases r2
    exact ⟨_, _, rfl, rfl, q _ _ h.2 _ F H (Same.refl _) rfl ok (.bl _)⟩
  · exact h.elim
/-- a + b -/
def addD : D → D → CD → Ev → Prop
  | .int i, .int j, C, ρ => C (.int (i + j)) ρ
  | .lst xs, .lst ys, C, ρ => xs.length + ys.length ≤ sizeLine ∧ C (.lst (xs ++ ys)) ρ
  | .str x, .str y, C, ρ => x.length + y.length ≤ sizeLine ∧ C (.str (x ++ y)) ρ
  | _, _, _, _ => False
theorem Ok.newL {K : PySem.W.Frag} {F H : Hp} {σ : L2.St} {vs : List V} {ds : List D} (ok : Ok K T A F H σ ρ) (r : Rs K F ρ.ws vs ds) {p : Addr} (h : H p = none) : ∃ F', Same F F' ∧ Ok K T A F' (upd H p (.lst vs)) σ ρ ∧ R K F' ρ.ws (.ref p) (.lst ds) := by
  obtain ⟨ok', s⟩ := ok.alloc (o := .lst vs) h
  exact ⟨_, s, ok', .lst upd_same (r.mo s)⟩
theorem Ok.newT {K : PySem.W.Frag} {F H : Hp} {σ : L2.St} {vs : List V} {ds : List D} (ok : Ok K T A F H σ ρ) (r : Rs K F ρ.ws vs ds) {p : Addr} (h : H p = none) : ∃ F', Same F F' ∧ Ok K T A F' (upd H p (.tup vs)) σ ρ ∧ R K F' ρ.ws (.ref p) (.tup ds) := by
  obtain ⟨ok', s⟩ := ok.alloc (o := .tup vs) h
  exact ⟨_, s, ok', .tup (.of upd_same) (r.mo s)⟩
theorem lk_add : Lk X T A (fun x y H Q => ((rI0 fun i j => .int (i + j)) x y H Q ∨ rCat x y H Q) ∨ ∃ i j, x = .str i ∧ y = .str j ∧ i.length + j.length ≤ sizeLine ∧ Q (.str (i ++ j)) H) addD := by
  intro d1 d2 C F H σ ρ x y Q h ok r1 r2 q
  unfold addD at h
  split at h
  · cases r1
    cases r2
    exact .inl (.inl ⟨_, _, rfl, rfl, q _ _ h _ F H (Same.refl _) rfl ok (.int _)⟩)
  · cases r1 with
    | lst h1 t1 =>
      cases r2 with
      | lst h2 t2 =>
        refine .inl (.inr ⟨_, _, _, _, rfl, rfl, ok.sub _ _ h1, ok.sub _ _ h2, by rw [t1.len, t2.len]; exact h.1, fun p hp => ?_⟩)
        obtain ⟨F', s, ok', r⟩ := ok.newL (t1.app t2) hp
        exact q _ _ h.2 _ F' _ s rfl ok' r
  · cases r1
    cases r2
    exact .inr ⟨_, _, rfl, rfl, h.1, q _ _ h.2 _ F H (Same.refl _) rfl ok (.str _)⟩
  · exact h.elim
theorem de_add (h : DE X T A ρ a (fun d1 ρ1 => DE X T A ρ1 b (fun d2 ρ2 => addD d1 d2 C ρ2))) : DE X T A ρ (.BinOp a .Add b pos) C := de_bin ((op_add.or op_cat).or op_add_str) lk_add h
def subD : D → D → CD → Ev → Prop
  | .int i, .int j, C, ρ => C (.int (i - j)) ρ
  | _, _, _, _ => False
theorem de_sub (h : DE X T A ρ a (fun d1 ρ1 => DE X T A ρ1 b (fun d2 ρ2 => subD d1 d2 C ρ2))) : DE X T A ρ (.BinOp a .Sub b pos) C := de_bin op_sub (by
  intro d1 d2 C F H σ ρ x y Q h ok r1 r2 q
  unfold subD at h
  split at h
  · cases r1
    cases r2
    exact ⟨_, _, rfl, rfl, q _ _ h _ F H (Same.refl _) rfl ok (.int _)⟩
  · exact h.elim) h
/-- the same item often -/
def mulD : D → D → CD → Ev → Prop
  | .int i, .int j, C, ρ => CMul i j ∧ C (.int (i * j)) ρ
  | .lst xs, .int k, C, ρ => -(2 ^ 63) ≤ k ∧ k < 2 ^ 63 ∧ xs.length * k.toNat ≤ sizeLine ∧ C (.lst (List.replicate k.toNat xs).flatten) ρ
  | _, _, _, _ => False
theorem Rs.reps {K : PySem.W.Frag} {F : Hp} {ws : List Addr} {vs : List V} {ds : List D} (r : Rs K F ws vs ds) : ∀ n : Nat, Rs K F ws (List.replicate n vs).flatten (List.replicate n ds).flatten
  | 0 => .nil
  | n + 1 => by
    rw [List.replicate_succ, List.replicate_succ, List.flatten_cons, List.flatten_cons]
    exact r.app (Rs.reps r n)
theorem de_mul (h : DE X T A ρ a (fun d1 ρ1 => DE X T A ρ1 b (fun d2 ρ2 => mulD d1 d2 C ρ2))) : DE X T A ρ (.BinOp a .Mult b pos) C := de_bin (op_mul.or op_rep) (by
  intro d1 d2 C F H σ ρ x y Q h ok r1 r2 q
  unfold mulD at h
  split at h
  · cases r1
    cases r2
    exact .inl ⟨_, _, rfl, rfl, h.1, q _ _ h.2 _ F H (Same.refl _) rfl ok (.int _)⟩
  · cases r2
    cases r1 with
    | lst h1 t1 =>
      obtain ⟨k1, k2, k3, k4⟩ := h
      refine .inr ⟨_, _, _, rfl, rfl, ok.sub _ _ h1, k1, k2, by rw [t1.len]; exact k3, fun p hp => ?_⟩
      obtain ⟨F', s, ok', r⟩ := ok.newL (t1.reps _) hp
      exact q _ _ k4 _ F' _ s rfl ok' r
  · exact h.elim) h
def fdivD : D → D → CD → Ev → Prop
  | .int i, .int j, C, ρ => (j ≠ 0 ∧ j.natAbs < 1073741824) ∧ C (.int (i.fdiv j)) ρ
  | _, _, _, _ => False
theorem de_fdiv (h : DE X T A ρ a (fun d1 ρ1 => DE X T A ρ1 b (fun d2 ρ2 => fdivD d1 d2 C ρ2))) : DE X T A ρ (.BinOp a .FloorDiv b pos) C := de_bin op_fdivN (by
  intro d1 d2 C F H σ ρ x y Q h ok r1 r2 q
  unfold fdivD at h
  split at h
  · cases r1
    cases r2
    exact ⟨_, _, rfl, rfl, h.1, q _ _ h.2 _ F H (Same.refl _) rfl ok (.int _)⟩
  · exact h.elim) h
def modD : D → D → CD → Ev → Prop
  | .int i, .int j, C, ρ => j ≠ 0 ∧ C (.int (i.fmod j)) ρ
  | _, _, _, _ => False
theorem de_mod (h : DE X T A ρ a (fun d1 ρ1 => DE X T A ρ1 b (fun d2 ρ2 => modD d1 d2 C ρ2))) : DE X T A ρ (.BinOp a .Mod b pos) C := de_bin op_modN (by
  intro d1 d2 C F H σ ρ x y Q h ok r1 r2 q
  unfold modD at h
  split at h
  · cases r1
    cases r2
    exact ⟨_, _, rfl, rfl, h.1, q _ _ h.2 _ F H (Same.refl _) rfl ok (.int _)⟩
  · exact h.elim) h
def powD : D → D → CD → Ev → Prop
  | .int i, .int j, C, ρ => CPow i j ∧ C (.int (i ^ j.toNat)) ρ
  | _, _, _, _ => False
theorem de_pow (h : DE X T A ρ a (fun d1 ρ1 => DE X T A ρ1 b (fun d2 ρ2 => powD d1 d2 C ρ2))) : DE X T A ρ (.BinOp a .Pow b pos) C := de_bin op_pow (by
  intro d1 d2 C F H σ ρ x y Q h ok r1 r2 q
  unfold powD at h
  split at h
  · cases r1
    cases r2
    exact ⟨_, _, rfl, rfl, h.1, q _ _ h.2 _ F H (Same.refl _) rfl ok (.int _)⟩
  · exact h.elim) h
def negD : D → CD → Ev → Prop
  | .int i, C, ρ => C (.int (-i)) ρ
  | _, _, _ => False
theorem de_neg (h : DE X T A ρ a (fun d ρ1 => negD d C ρ1)) : DE X T A ρ (.UnaryOp .USub a pos) C :=
  DE.of (pe_un un_neg pe_go) fun σ H Q F ok q => ⟨ρ, _, h, F, ok, fun d1 ρ1 h1 x F1 H1 s1 w1 ok1 r1 => by
    have h1 : negD d1 C ρ1 := h1
    unfold negD at h1
    split at h1
    · cases r1
      exact ⟨_, rfl, q _ _ h1 _ F1 H1 s1 w1 ok1 (.int _)⟩
    · exact h1.elim⟩

/-! ### comparisons -/
def ltD : D → D → CD → Ev → Prop
  | .int i, .int j, C, ρ => C (.bl (decide (i < j))) ρ
  | _, _, _, _ => False
def leD : D → D → CD → Ev → Prop
  | .int i, .int j, C, ρ => C (.bl (decide (i ≤ j))) ρ
  | _, _, _, _ => False
def gtD : D → D → CD → Ev → Prop
  | .int i, .int j, C, ρ => C (.bl (decide (j < i))) ρ
  | _, _, _, _ => False
def geD : D → D → CD → Ev → Prop
  | .int i, .int j, C, ρ => C (.bl (decide (j ≤ i))) ρ
  | _, _, _, _ => False
theorem lk_lt : Lk X T A (rI0 fun i j => .bl (decide (i < j))) ltD := by
  intro d1 d2 C F H σ ρ x y Q h ok r1 r2 q
  unfold ltD at h
  split at h
  · cases r1
    cases r2
    exact ⟨_, _, rfl, rfl, q _ _ h _ F H (Same.refl _) rfl ok (.bl _)⟩
  · exact h.elim
theorem lk_le : Lk X T A (rI0 fun i j => .bl (decide (i ≤ j))) leD := by
  intro d1 d2 C F H σ ρ x y Q h ok r1 r2 q
  unfold leD at h
  split at h
  · cases r1
    cases r2
    exact ⟨_, _, rfl, rfl, q _ _ h _ F H (Same.refl _) rfl ok (.bl _)⟩
  · exact h.elim
theorem lk_gt : Lk X T A (rI0 fun i j => .bl (decide (j < i))) gtD := by
  intro d1 d2 C F H σ ρ x y Q h ok r1 r2 q
  unfold gtD at h
  split at h
  · cases r1
    cases r2
    exact ⟨_, _, rfl, rfl, q _ _ h _ F H (Same.refl _) rfl ok (.bl _)⟩
  · exact h.elim
theorem lk_ge : Lk X T A (rI0 fun i j => .bl (decide (j ≤ i))) geD := by
  intro d1 d2 C F H σ ρ x y Q h ok r1 r2 q
  unfold geD at h
  split at h
  · cases r1
    cases r2
    exact ⟨_, _, rfl, rfl, q _ _ h _ F H (Same.refl _) rfl ok (.bl _)⟩
  · exact h.elim
/-- == and != -/
def eqP (d1 d2 : D) : Option Bool := match toPy d1, toPy d2 with
  | some x, some y => if SeqAt.shaped x && SeqAt.shaped y then some (PyData.eqv x y) else none
  | _, _ => none
def eqD (d1 d2 : D) (C : CD) (ρ : Ev) : Prop := ∃ k, eqP d1 d2 = some k ∧ C (.bl k) ρ
def neD (d1 d2 : D) (C : CD) (ρ : Ev) : Prop := ∃ k, eqP d1 d2 = some k ∧ C (.bl (!k)) ρ
theorem eqP_ok {d1 d2 : D} {k : Bool} (h : eqP d1 d2 = some k) : ∃ x y, toPy d1 = some x ∧ toPy d2 = some y ∧ SeqAt.shaped x = true ∧ SeqAt.shaped y = true ∧ PyData.eqv x y = k := by
  unfold eqP at h
  split at h
  · rename_i x y e1 e2
    split at h
    · rename_i e
      rw [Bool.and_eq_true] at e
      exact ⟨x, y, e1, e2, e.1, e.2, Option.some.inj h⟩
    · cases h
  · cases h
theorem lk_eq : Lk X T A (rEqD X.K) eqD := by
  intro d1 d2 C F H σ ρ x y Q ⟨k, h, hc⟩ ok r1 r2 q
  obtain ⟨p1, p2, e1, e2, s1, s2, rfl⟩ := eqP_ok h
  exact ⟨p1, p2, dp_of ok.sub _ _ _ r1 e1, dp_of ok.sub _ _ _ r2 e2, s1, s2, q _ _ hc _ F H (Same.refl _) rfl ok (.bl _)⟩
theorem lk_ne : Lk X T A (rNeD X.K) neD := by
  intro d1 d2 C F H σ ρ x y Q ⟨k, h, hc⟩ ok r1 r2 q
  obtain ⟨p1, p2, e1, e2, s1, s2, rfl⟩ := eqP_ok h
  exact ⟨p1, p2, dp_of ok.sub _ _ _ r1 e1, dp_of ok.sub _ _ _ r2 e2, s1, s2, q _ _ hc _ F H (Same.refl _) rfl ok (.bl _)⟩
/-- is None -/
def isD (d1 d2 : D) (C : CD) (ρ : Ev) : Prop := d2 = .non ∧ C (.bl (isN d1)) ρ
def isntD (d1 d2 : D) (C : CD) (ρ : Ev) : Prop := d2 = .non ∧ C (.bl (!isN d1)) ρ
theorem lk_is : Lk X T A (fun x y H Q => y = .non ∧ Q (.bl (decide (x = .non))) H) isD := by
  intro d1 d2 C F H σ ρ x y Q ⟨e, hc⟩ ok r1 r2 q
  subst e
  cases r2
  refine ⟨rfl, ?_⟩
  rw [isN_ok r1]
  exact q _ _ hc _ F H (Same.refl _) rfl ok (.bl _)
theorem lk_isnt : Lk X T A (fun x y H Q => y = .non ∧ Q (.bl (!decide (x = .non))) H) isntD := by
  intro d1 d2 C F H σ ρ x y Q ⟨e, hc⟩ ok r1 r2 q
  subst e
  cases r2
  refine ⟨rfl, ?_⟩
  rw [isN_ok r1]
  exact q _ _ hc _ F H (Same.refl _) rfl ok (.bl _)
abbrev In2 (X : Cx) (T : List (Addr × Str)) (A : Anc) (ρ : Ev) (a b : Expr) (S : D → D → CD → Ev → Prop) (C : CD) : Prop := DE X T A ρ a (fun d1 ρ1 => DE X T A ρ1 b (fun d2 ρ2 => S d1 d2 C ρ2))
theorem de_lt (h : In2 X T A ρ a b ltD C) : DE X T A ρ (.Compare a [.Lt] [b] pos) C := de_cmp op_lt lk_lt (nomark _) h
theorem de_le (h : In2 X T A ρ a b leD C) : DE X T A ρ (.Compare a [.LtE] [b] pos) C := de_cmp op_le lk_le (nomark _) h
theorem de_gt (h : In2 X T A ρ a b gtD C) : DE X T A ρ (.Compare a [.Gt] [b] pos) C := de_cmp op_gt lk_gt (nomark _) h
theorem de_ge (h : In2 X T A ρ a b geD C) : DE X T A ρ (.Compare a [.GtE] [b] pos) C := de_cmp op_ge lk_ge (nomark _) h
theorem de_eq (hu : X.A.units + 64 < cLine) (h : In2 X T A ρ a b eqD C) : DE X T A ρ (.Compare a [.Eq] [b] pos) C := de_cmp (op_eqD hu) lk_eq (nomark _) h
theorem de_ne (hu : X.A.units + 64 < cLine) (h : In2 X T A ρ a b neD C) : DE X T A ρ (.Compare a [.NotEq] [b] pos) C := de_cmp (op_neD hu) lk_ne (nomark _) h
theorem de_is (h : In2 X T A ρ a b isD C) : DE X T A ρ (.Compare a [.Is] [b] pos) C := de_cmp op_isN lk_is (nomark _) h
theorem de_isnt (h : In2 X T A ρ a b isntD C) : DE X T A ρ (.Compare a [.IsNot] [b] pos) C := de_cmp op_notN lk_isnt (nomark _) h
theorem dt_lt {C : CB} (h : In2 X T A ρ a b ltD (asB C)) : DT X T A ρ (.Compare a [.Lt] [b] pos) C := dt_cmp op_lt lk_lt (nomark _) h
theorem dt_le {C : CB} (h : In2 X T A ρ a b leD (asB C)) : DT X T A ρ (.Compare a [.LtE] [b] pos) C := dt_cmp op_le lk_le (nomark _) h
theorem dt_gt {C : CB} (h : In2 X T A ρ a b gtD (asB C)) : DT X T A ρ (.Compare a [.Gt] [b] pos) C := dt_cmp op_gt lk_gt (nomark _) h
theorem dt_ge {C : CB} (h : In2 X T A ρ a b geD (asB C)) : DT X T A ρ (.Compare a [.GtE] [b] pos) C := dt_cmp op_ge lk_ge (nomark _) h
theorem dt_eq {C : CB} (hu : X.A.units + 64 < cLine) (h : In2 X T A ρ a b eqD (asB C)) : DT X T A ρ (.Compare a [.Eq] [b] pos) C := dt_cmp (op_eqD hu) lk_eq (nomark _) h
theorem dt_ne {C : CB} (hu : X.A.units + 64 < cLine) (h : In2 X T A ρ a b neD (asB C)) : DT X T A ρ (.Compare a [.NotEq] [b] pos) C := dt_cmp (op_neD hu) lk_ne (nomark _) h
theorem dt_is {C : CB} (h : In2 X T A ρ a b isD (asB C)) : DT X T A ρ (.Compare a [.Is] [b] pos) C := dt_cmp op_isN lk_is (nomark _) h
theorem dt_isnt {C : CB} (h : In2 X T A ρ a b isntD (asB C)) : DT X T A ρ (.Compare a [.IsNot] [b] pos) C := dt_cmp op_notN lk_isnt (nomark _) h
/-- a op b op c, ints -/
def CmpI (X : Cx) (op : CmpOp) (g : Int → Int → Bool) : Prop := OpR X (compareOp op) (rI0 fun i j => .bl (g i j))
def chE (g' : Int → Int → Bool) (j : Int) (C : CD) : D → Ev → Prop
  | .int k, ρ => C (.bl (g' j k)) ρ
  | _, _ => False
def chD (X : Cx) (T : List (Addr × Str)) (A : Anc) (g g' : Int → Int → Bool) (c : Expr) (C : CD) : D → D → Ev → Prop
  | .int i, .int j, ρ => (g i j = true → DE X T A ρ c (fun d3 ρ3 => chE g' j C d3 ρ3)) ∧ (g i j = false → C (.bl false) ρ)
  | _, _, _ => False
theorem goC {op op' : CmpOp} {g g' : Int → Int → Bool} (h : DE X T A ρ a (fun d1 ρ1 => DE X T A ρ1 b (fun d2 ρ2 => chD X T A g g' c C d1 d2 ρ2))) (σ : L2.St) (H : Hp) (Q : VK) (F : Hp) (ok : Ok X.K T A F H σ ρ)
    (q : ∀ d ρ', C d ρ' → ∀ v F' H', Same F F' → ρ'.ws = ρ.ws → Ok X.K T A F' H' σ ρ' → R X.K F' ρ'.ws v d → Q v H') : tChain (rI0 fun i j => .bl (g i j)) (rI0 fun i j => .bl (g' i j)) (goE X T A a) (goE X T A b) (goE X T A c) σ H Q := by
  refine ⟨ρ, _, h, F, ok, fun d1 ρ1 h1 x F1 H1 s1 w1 ok1 r1 => ⟨ρ1, _, h1, F1, ok1, fun d2 ρ2 h2 y F2 H2 s2 w2 ok2 r2 => ?_⟩⟩
  replace h2 : chD X T A g g' c C d1 d2 ρ2 := h2
  unfold chD at h2
  split at h2
  · rename_i i j
    cases r1
    cases r2
    refine ⟨_, _, rfl, rfl, _, rfl, ?_⟩
    cases e : g i j with
    | true =>
      rw [if_pos rfl]
      refine ⟨ρ2, _, h2.1 e, F2, ok2, fun d3 ρ3 h3 z F3 H3 s3 w3 ok3 r3 => ?_⟩
      replace h3 : chE g' j C d3 ρ3 := h3
      unfold chE at h3
      split at h3
      · cases r3
        exact ⟨_, _, rfl, rfl, q _ _ h3 _ F3 H3 (s1.trans (s2.trans s3)) (w3.trans (w2.trans w1)) ok3 (.bl _)⟩
      · exact h3.elim
    | false =>
      rw [if_neg Bool.false_ne_true]
      exact q _ _ (h2.2 e) _ F2 H2 (s1.trans s2) (w2.trans w1) ok2 (.bl _)
  · exact h2.elim
theorem de_chain {op op' : CmpOp} {g g' : Int → Int → Bool} (ho : CmpI X op g) (ho' : CmpI X op' g') (h : DE X T A ρ a (fun d1 ρ1 => DE X T A ρ1 b (fun d2 ρ2 => chD X T A g g' c C d1 d2 ρ2)))
    (hm : lastMarks [op, op'] [b, c] = false := by with_unfolding_all rfl) : DE X T A ρ (.Compare a [op, op'] [b, c] pos) C :=
  DE.of (pe_chain ho ho' pe_go pe_go pe_go hm) (goC (op := op) (op' := op') h)
theorem dt_chain {op op' : CmpOp} {g g' : Int → Int → Bool} {C : CB} (ho : CmpI X op g) (ho' : CmpI X op' g') (h : DE X T A ρ a (fun d1 ρ1 => DE X T A ρ1 b (fun d2 ρ2 => chD X T A g g' c (asB C) d1 d2 ρ2)))
    (hm : lastMarks [op, op'] [b, c] = false := by with_unfolding_all rfl) : DT X T A ρ (.Compare a [op, op'] [b, c] pos) C :=
  DT.of (pt_chain ho ho' pe_go pe_go pe_go hm) fun σ H Q F ok q => goC (op := op) (op' := op') h σ H _ F ok fun d ρ' c v F' H' s' w' ok' r' => by
    unfold asB at c
    split at c
    · cases r'
      exact ⟨_, rfl, q _ _ c F' H' s' w' ok'⟩
    · exact c.elim
end rules
end DL
end

section
namespace DL
open PySem PySem.Spec L2
def tru : D → Option Bool
  | .non => some false
  | .bl k => some k
  | .int i => some (i != 0)
  | .lst ds => some (!ds.isEmpty)
  | .kl ds => some (!ds.isEmpty)
  | .tup ds => some (!ds.isEmpty)
  | .str x => if x.length ≤ sizeLine then some ((x.length : Int) != 0) else none
  | _ => none
theorem Rs.emp {K : PySem.W.Frag} {F : Hp} {ws : List Addr} {vs : List V} {ds : List D} (r : Rs K F ws vs ds) : vs.isEmpty = ds.isEmpty := by
  cases r <;> rfl
theorem tru_of {K : PySem.W.Frag} {F H : Hp} {ws : List Addr} {v : V} {d : D} {k : Bool} (s : Same F H) (r : R K F ws v d) (e1 : tru d = some k) : TruV K v H k := by
  cases r with
  | non => cases e1; exact rfl
  | bl b => cases e1; exact rfl
  | int i => cases e1; exact rfl
  | str x =>
    simp only [tru] at e1
    split at e1
    · cases e1; exact ⟨by assumption, rfl⟩
    · cases e1
  | lst h t => cases e1; exact .inl ⟨_, .of (s _ _ h), by rw [t.emp]⟩
  | kl h t => cases e1; exact .inl ⟨_, sqL_mono s h, by rw [t.emp]⟩
  | tup h t => cases e1; exact .inr (.inl ⟨_, sqT_mono s h, by rw [t.emp]⟩)
  | dK h t => cases e1
  | dT h t => cases e1
  | obj hc h t => cases e1
  | fn h => cases e1
  | strm h => cases e1
  | exc h t => cases e1
  | ref => cases e1
section rules
variable {X : Cx} {T : List (Addr × Str)} {A : Anc} {ρ : Ev} {a b c e : Expr} {es rest : List Expr} {pos p : Pos} {C : CD} {B : CB}
/-! ### tests, and, or, not, if -/
def truD (d : D) (B : CB) (ρ : Ev) : Prop := ∃ k, tru d = some k ∧ B k ρ
/-- any value, by its truth -/
theorem dt_tru (h : DE X T A ρ a (fun d ρ1 => truD d B ρ1)) (he : ∀ whole, isTrue a X.env whole = (do let v ← whole; standAt a.pos; holding [v] (truthy v)) := by intro _; rfl) : DT X T A ρ a B :=
  DT.of (pt_truth pe_go he) fun σ H Q F ok q => ⟨ρ, _, h, F, ok, fun d ρ1 ⟨k, e1, h1⟩ v F1 H1 s1 w1 ok1 r1 => ⟨k, tru_of ok1.sub r1 e1, q _ _ h1 F1 H1 s1 w1 ok1⟩⟩
def branch (P N : Prop) (k : Bool) : Prop := (k = true → P) ∧ (k = false → N)
theorem branch_at {P N : Prop} {k : Bool} (h : branch P N k) : if k = true then P else N := by
  cases k with
  | true => exact h.1 rfl
  | false => exact h.2 rfl
theorem dw_and1 (h : DT X T A ρ a B) : DW X T A ρ (.BoolOp .And [a] pos) B := DW.of (pw_and1 pt_go) fun σ H Q F ok q => ⟨ρ, B, h, F, ok, q⟩
theorem dw_or1 (h : DT X T A ρ a B) : DW X T A ρ (.BoolOp .Or [a] pos) B := DW.of (pw_or1 pt_go) fun σ H Q F ok q => ⟨ρ, B, h, F, ok, q⟩
theorem dw_and (h : DT X T A ρ a (fun k ρ1 => branch (DW X T A ρ1 (.BoolOp .And (b :: rest) pos) B) (B false ρ1) k)) : DW X T A ρ (.BoolOp .And (a :: b :: rest) pos) B :=
  DW.of (pw_and pt_go pw_go) fun σ H Q F ok q => ⟨ρ, _, h, F, ok, fun k ρ1 h1 F1 H1 s1 w1 ok1 => by
    cases k with
    | true => exact ⟨ρ1, _, h1.1 rfl, F1, ok1, fun k' ρ2 h2 F2 H2 s2 w2 ok2 => q _ _ h2 F2 H2 (s1.trans s2) (w2.trans w1) ok2⟩
    | false => exact q _ _ (h1.2 rfl) F1 H1 s1 w1 ok1⟩
theorem dw_or (h : DT X T A ρ a (fun k ρ1 => branch (B true ρ1) (DW X T A ρ1 (.BoolOp .Or (b :: rest) pos) B) k)) : DW X T A ρ (.BoolOp .Or (a :: b :: rest) pos) B :=
  DW.of (pw_or pt_go pw_go) fun σ H Q F ok q => ⟨ρ, _, h, F, ok, fun k ρ1 h1 F1 H1 s1 w1 ok1 => by
    cases k with
    | false => exact ⟨ρ1, _, h1.2 rfl, F1, ok1, fun k' ρ2 h2 F2 H2 s2 w2 ok2 => q _ _ h2 F2 H2 (s1.trans s2) (w2.trans w1) ok2⟩
    | true => exact q _ _ (h1.1 rfl) F1 H1 s1 w1 ok1⟩
theorem dt_bool {op} {vs : List Expr} (h : DW X T A ρ (.BoolOp op vs pos) B) : DT X T A ρ (.BoolOp op vs pos) B := ⟨h.pe.pt⟩
theorem dt_not (h : DT X T A ρ a (fun k ρ1 => B (!k) ρ1)) : DT X T A ρ (.UnaryOp .Not a pos) B :=
  DT.of (pt_not pt_go) fun σ H Q F ok q => ⟨ρ, _, h, F, ok, fun k ρ1 h1 F1 H1 s1 w1 ok1 => q _ _ h1 F1 H1 s1 w1 ok1⟩
def andD (P : Ev → Prop) (C : CD) : D → Ev → Prop
  | .bl k, ρ => branch (P ρ) (C (.bl false) ρ) k
  | _, _ => False
def orD (P : Ev → Prop) (C : CD) : D → Ev → Prop
  | .bl k, ρ => branch (C (.bl true) ρ) (P ρ) k
  | _, _ => False
theorem de_one {op} (h : DE X T A ρ a C) : DE X T A ρ (.BoolOp op [a] pos) C := DE.of (pe_one pe_go) fun σ H Q F ok q => ⟨ρ, C, h, F, ok, q⟩
theorem de_and (h : DE X T A ρ a (fun d ρ1 => andD (fun ρ2 => DE X T A ρ2 (.BoolOp .And (b :: rest) pos) C) C d ρ1)) : DE X T A ρ (.BoolOp .And (a :: b :: rest) pos) C :=
  DE.of (pe_and pe_go pe_go) fun σ H Q F ok q => ⟨ρ, _, h, F, ok, fun d ρ1 h1 v F1 H1 s1 w1 ok1 r1 => by
    replace h1 : andD _ C d ρ1 := h1
    unfold andD at h1
    split at h1
    · rename_i k
      cases r1
      refine ⟨k, rfl, ?_⟩
      cases k with
      | true => exact ⟨ρ1, _, h1.1 rfl, F1, ok1, fun d2 ρ2 h2 v2 F2 H2 s2 w2 ok2 r2 => q _ _ h2 v2 F2 H2 (s1.trans s2) (w2.trans w1) ok2 r2⟩
      | false => exact q _ _ (h1.2 rfl) _ F1 H1 s1 w1 ok1 (.bl _)
    · exact h1.elim⟩
theorem de_or (h : DE X T A ρ a (fun d ρ1 => orD (fun ρ2 => DE X T A ρ2 (.BoolOp .Or (b :: rest) pos) C) C d ρ1)) : DE X T A ρ (.BoolOp .Or (a :: b :: rest) pos) C :=
  DE.of (pe_or pe_go pe_go) fun σ H Q F ok q => ⟨ρ, _, h, F, ok, fun d ρ1 h1 v F1 H1 s1 w1 ok1 r1 => by
    replace h1 : orD _ C d ρ1 := h1
    unfold orD at h1
    split at h1
    · rename_i k
      cases r1
      refine ⟨k, rfl, ?_⟩
      cases k with
      | false => exact ⟨ρ1, _, h1.2 rfl, F1, ok1, fun d2 ρ2 h2 v2 F2 H2 s2 w2 ok2 r2 => q _ _ h2 v2 F2 H2 (s1.trans s2) (w2.trans w1) ok2 r2⟩
      | true => exact q _ _ (h1.1 rfl) _ F1 H1 s1 w1 ok1 (.bl _)
    · exact h1.elim⟩
def notD (C : CD) : D → Ev → Prop
  | .bl k, ρ => C (.bl (!k)) ρ
  | _, _ => False
theorem de_not (h : DE X T A ρ a (fun d ρ1 => notD C d ρ1)) : DE X T A ρ (.UnaryOp .Not a pos) C :=
  DE.of (pe_not pe_go) fun σ H Q F ok q => ⟨ρ, _, h, F, ok, fun d ρ1 h1 v F1 H1 s1 w1 ok1 r1 => by
    replace h1 : notD C d ρ1 := h1
    unfold notD at h1
    split at h1
    · cases r1
      exact ⟨_, rfl, q _ _ h1 _ F1 H1 s1 w1 ok1 (.bl _)⟩
    · exact h1.elim⟩
theorem de_if (h : DT X T A ρ c (fun k ρ1 => branch (DE X T A ρ1 a C) (DE X T A ρ1 b C) k)) : DE X T A ρ (.IfExp c a b pos) C :=
  DE.of (pe_ifExp pt_go pe_go pe_go) fun σ H Q F ok q => ⟨ρ, _, h, F, ok, fun k ρ1 h1 F1 H1 s1 w1 ok1 => by
    cases k with
    | true =>
      rw [if_pos rfl]
      exact ⟨ρ1, _, h1.1 rfl, F1, ok1, fun d2 ρ2 h2 v2 F2 H2 s2 w2 ok2 r2 => q _ _ h2 v2 F2 H2 (s1.trans s2) (w2.trans w1) ok2 r2⟩
    | false =>
      rw [if_neg Bool.false_ne_true]
      exact ⟨ρ1, _, h1.2 rfl, F1, ok1, fun d2 ρ2 h2 v2 F2 H2 s2 w2 ok2 r2 => q _ _ h2 v2 F2 H2 (s1.trans s2) (w2.trans w1) ok2 r2⟩⟩
/-! ### values of both kinds -/
theorem dv_de {C : CV} (h : DE X T A ρ e (fun d ρ1 => C (.v d) ρ1)) : DV X T A ρ e C := DV.of h.pe fun σ H Q F ok q => ⟨F, ok, fun d ρ1 h1 v F1 H1 s1 w1 ok1 r1 => q (.v d) ρ1 h1 v F1 H1 s1 w1 ok1 r1⟩
theorem de_dv (h : DV X T A ρ e (fun r ρ1 => C r.toD ρ1)) : DE X T A ρ e C := DE.of (pe_fz h.pe) fun σ H Q F ok q => ⟨F, ok, fun r ρ1 h1 v F1 H1 s1 w1 ok1 r1 => by
  have key : ∀ (a : Addr) (c : Con), C c.toD ρ1 → GvB X.K A F1 H1 ρ1 v a c → Q v H1 ∨ ∃ d u, H1 d = some u ∧ Mut (some u) ∧ ∀ od, Q v (upd H1 d (.frz od u)) := fun a c hc g => by
    obtain ⟨o, eo, ro⟩ := g.2.2.2.2.1
    refine fz_of eo ro fun o' z => ?_
    obtain ⟨s2, ok2, r2⟩ := ok1.thawB g eo z
    exact q _ ρ1 hc v _ _ (s1.trans s2) w1 ok2 r2
  cases r with
  | v d => exact .inl (q d ρ1 h1 v F1 H1 s1 w1 ok1 r1)
  | l a ds => exact key a (.lst ds) h1 r1
  | b a c => exact key a c h1 r1⟩
theorem dv_if {C : CV} (h : DT X T A ρ c (fun k ρ1 => branch (DV X T A ρ1 a C) (DV X T A ρ1 b C) k)) : DV X T A ρ (.IfExp c a b pos) C :=
  DV.of (pe_ifExp pt_go pv_go pv_go) fun σ H Q F ok q => ⟨ρ, _, h, F, ok, fun k ρ1 h1 F1 H1 s1 w1 ok1 => by
    cases k with
    | true =>
      rw [if_pos rfl]
      exact ⟨ρ1, _, h1.1 rfl, F1, ok1, fun d2 ρ2 h2 v2 F2 H2 s2 w2 ok2 r2 => q _ _ h2 v2 F2 H2 (s1.trans s2) (w2.trans w1) ok2 r2⟩
    | false =>
      rw [if_neg Bool.false_ne_true]
      exact ⟨ρ1, _, h1.2 rfl, F1, ok1, fun d2 ρ2 h2 v2 F2 H2 s2 w2 ok2 r2 => q _ _ h2 v2 F2 H2 (s1.trans s2) (w2.trans w1) ok2 r2⟩⟩
/-! ### argument lists, displays -/
theorem da_nil {C : CL} (h : C [] ρ) : DA X T A ρ [] C := DA.of pa_nil fun σ H Q F ok q => q [] ρ h [] F H (Same.refl _) rfl ok .nil
theorem da_cons {C : CL} (h : DE X T A ρ e (fun d ρ1 => DA X T A ρ1 es (fun ds ρ2 => C (d :: ds) ρ2))) (hs : starEach (e :: es) X.env = (false, eval e X.env) :: starEach es X.env := by rfl) : DA X T A ρ (e :: es) C :=
  DA.of (pa_cons pe_go pa_go hs) fun σ H Q F ok q => ⟨ρ, _, h, F, ok, fun d ρ1 h1 v F1 H1 s1 w1 ok1 r1 => ⟨ρ1, _, h1, F1, ok1, fun ds ρ2 h2 vs F2 H2 s2 w2 ok2 r2 =>
    q _ _ h2 (v :: vs) F2 H2 (s1.trans s2) (w2.trans w1) ok2 (.cons (by rw [w2]; exact r1.mo s2) r2)⟩⟩
theorem dv_list {C : CV} (h : DA X T A ρ es (fun ds ρ1 => ds.length ≤ sizeLine ∧ ∀ a, C (.l a ds) ρ1)) : DV X T A ρ (.List es pos) C :=
  DV.of (pe_lst pa_go) fun σ H Q F ok q => ⟨ρ, _, h, F, ok, fun ds ρ1 h1 vs F1 H1 s1 w1 ok1 r1 => ⟨by rw [r1.len]; exact h1.1, fun p hp => by
    obtain ⟨ok2, g⟩ := ok1.mine hp r1
    exact q _ _ (h1.2 p) _ F1 _ s1 w1 ok2 g⟩⟩
theorem de_tup {k} (h : DA X T A ρ es (fun ds ρ1 => ds.length ≤ sizeLine ∧ C (.tup ds) ρ1)) : DE X T A ρ (.Tuple es k pos) C :=
  DE.of (pe_tup pa_go) fun σ H Q F ok q => ⟨ρ, _, h, F, ok, fun ds ρ1 h1 vs F1 H1 s1 w1 ok1 r1 => ⟨by rw [r1.len]; exact h1.1, fun p hp => by
    obtain ⟨F2, s2, ok2, r2⟩ := ok1.newT r1 hp
    exact q _ _ h1.2 _ F2 _ (s1.trans s2) w1 ok2 r2⟩⟩
theorem dv_dict0 {C : CV} (h : ∀ a, C (.b a (.dK [])) ρ) : DV X T A ρ (.Dict [] [] pos) C :=
  DV.of pe_dnewK fun σ H Q F ok q => fun p hp => by
    obtain ⟨ok2, g⟩ := ok.mineB (c := .dK []) hp (.dK .nil)
    exact q _ _ (h p) _ _ _ (Same.refl _) rfl ok2 g
theorem dv_dictT {C : CV} (h : ∀ a, C (.b a (.dT [])) ρ) : DV X T A ρ (.Dict [] [] pos) C :=
  DV.of pe_dnewT fun σ H Q F ok q => fun p hp => by
    obtain ⟨ok2, g⟩ := ok.mineB (c := .dT []) hp (.dT .nil)
    exact q _ _ (h p) _ _ _ (Same.refl _) rfl ok2 g
theorem de_dict0 (h : C (.dK []) ρ) : DE X T A ρ (.Dict [] [] pos) C := de_dv (dv_dict0 fun _ => h)
/-! ### subscripts, slices -/
def ixD : D → D → CD → Ev → Prop
  | .str z, .int i, C, ρ => z.length ≤ sizeLine ∧ ∃ c, atI z.cps.toList i = some c ∧ C (.str ⟨#[c]⟩) ρ
  | d, .int i, C, ρ => ∃ ds e, seqD d = some ds ∧ atI ds i = some e ∧ C e ρ
  | _, _, _, _ => False
theorem atI_of {K : PySem.W.Frag} {F : Hp} {ws : List Addr} {vs : List V} {ds : List D} {i : Int} {d : D} (r : Rs K F ws vs ds) (h : atI ds i = some d) : ∃ v, atI vs i = some v ∧ R K F ws v d := by
  unfold atI at h ⊢
  rw [r.len]
  cases e : ixN ds.length i with
  | none => rw [e] at h; cases h
  | some j =>
    rw [e] at h
    exact r.get h
theorem lk_ix : Lk X T A (rIx X.K) ixD := by
  intro d1 d2 C F H σ ρ x y Q h ok r1 r2 q
  unfold ixD at h
  split at h
  · cases r1
    cases r2
    obtain ⟨h1, c, h2, h3⟩ := h
    exact .inr (.inr ⟨_, _, _, rfl, rfl, h1, h2, q _ _ h3 _ F H (Same.refl _) rfl ok (.str _)⟩)
  · cases r2
    obtain ⟨ds, d, e1, e2, h⟩ := h
    obtain ⟨p, xs, rfl, hs, t⟩ := seq_of ok.sub r1 e1
    obtain ⟨v, e3, r⟩ := atI_of t e2
    rcases hs with hs | hs
    · exact .inl ⟨p, xs, _, v, rfl, rfl, hs, e3, q _ _ h _ F H (Same.refl _) rfl ok r⟩
    · exact .inr (.inl ⟨p, xs, _, v, rfl, rfl, hs, e3, q _ _ h _ F H (Same.refl _) rfl ok r⟩)
  · exact h.elim
theorem de_ix (h : In2 X T A ρ a b ixD C) (hs : PlainIx b := by exact fun _ _ => rfl) : DE X T A ρ (.Subscript a b pos) C := DE.of (pe_ix ix_seq pe_go pe_go hs) (go2 lk_ix h)
def cutD (ds : List D) (lo hi : Option Int) : List D := (ds.drop (HT.sIx ds.length 0 lo)).take (HT.sIx ds.length ds.length hi - HT.sIx ds.length 0 lo)
theorem cut_of {K : PySem.W.Frag} {F : Hp} {ws : List Addr} {vs : List V} {ds : List D} (r : Rs K F ws vs ds) (lo hi : Option Int) : Rs K F ws (cutV vs lo hi) (cutD ds lo hi) := by
  unfold cutV cutD
  rw [r.len]
  exact (r.drop _).take _
def seqL : D → Option (List D)
  | .lst ds => some ds
  | .kl ds => some ds
  | _ => none
theorem seqL_of {K : PySem.W.Frag} {F H : Hp} {ws : List Addr} {v : V} {d : D} {ds : List D} (s : Same F H) (h : R K F ws v d) (e : seqL d = some ds) : ∃ a xs, v = .ref a ∧ SqL K H a xs ∧ Rs K F ws xs ds := by
  cases h with
  | lst h t => cases e; exact ⟨_, _, rfl, .of (s _ _ h), t⟩
  | kl h t => cases e; exact ⟨_, _, rfl, sqL_mono s h, t⟩
  | _ => cases e
/-- a part of a slice -/
structure DP (X : Cx) (T : List (Addr × Str)) (A : Anc) (ρ : Ev) (e : Option Expr) (C : Option Int → Ev → Prop) : Prop where
  pe : PO X e (fun σ H Q => ∃ F, Ok X.K T A F H σ ρ ∧ ∀ o ρ', C o ρ' → ∀ F' H', Same F F' → ρ'.ws = ρ.ws → Ok X.K T A F' H' σ ρ' → Q o H')
def goP (X : Cx) (T : List (Addr × Str)) (A : Anc) (e : Option Expr) : TO := fun σ H Q => ∃ ρ C, DP X T A ρ e C ∧ ∃ F, Ok X.K T A F H σ ρ ∧ ∀ o ρ', C o ρ' → ∀ F' H', Same F F' → ρ'.ws = ρ.ws → Ok X.K T A F' H' σ ρ' → Q o H'
theorem po_go {e : Option Expr} : PO X e (goP X T A e) := ⟨fun pins s σ H Q I ⟨_, _, h, q⟩ => h.pe.run pins s σ H Q I q⟩
theorem dp_none {C : Option Int → Ev → Prop} (h : C none ρ) : DP X T A ρ none C := ⟨⟨fun pins s σ H Q I ⟨F, ok, q⟩ => po_none.run pins s σ H Q I (q _ _ h F H (Same.refl _) rfl ok)⟩⟩
def partD (C : Option Int → Ev → Prop) : D → Ev → Prop
  | .int i, ρ => C (some i) ρ
  | _, _ => False
theorem dp_some {C : Option Int → Ev → Prop} (h : DE X T A ρ e (fun d ρ1 => partD C d ρ1)) : DP X T A ρ (some e) C := ⟨⟨fun pins s σ H Q I ⟨F, ok, q⟩ => (po_some (pe_go (T := T) (A := A))).run pins s σ H Q I ⟨ρ, _, h, F, ok, fun d ρ1 h1 v F1 H1 s1 w1 ok1 r1 => by
  replace h1 : partD C d ρ1 := h1
  unfold partD at h1
  split at h1
  · cases r1
    exact ⟨_, rfl, q _ _ h1 F1 H1 s1 w1 ok1⟩
  · exact h1.elim⟩⟩⟩
/-- xs[lo:hi], a list: a new one -/
theorem dv_slice {C : CV} {lo hi : Option Expr} {p2 : Pos} (h : DE X T A ρ e (fun d ρ1 => DP X T A ρ1 lo (fun l ρ2 => DP X T A ρ2 hi (fun u ρ3 => ∃ ds, seqL d = some ds ∧ ∀ a, C (.l a (cutD ds l u)) ρ3)))) : DV X T A ρ (.Subscript e (.Slice lo hi none p2) pos) C :=
  DV.of (pe_slice sl_list pe_go po_go po_go) fun σ H Q F ok q => ⟨ρ, _, h, F, ok, fun d ρ1 h1 v F1 H1 s1 w1 ok1 r1 => ⟨ρ1, _, h1, F1, ok1, fun l ρ2 h2 F2 H2 s2 w2 ok2 => ⟨ρ2, _, h2, F2, ok2, fun u ρ3 ⟨ds, e3, h3⟩ F3 H3 s3 w3 ok3 => by
    obtain ⟨a, xs, rfl, hs, t⟩ := seqL_of (s2.trans (s3.trans ok3.sub)) r1 e3
    refine ⟨a, xs, rfl, hs, fun p hp => ?_⟩
    have t3 : Rs X.K F3 ρ3.ws xs ds := by rw [w3, w2]; exact t.mo (s2.trans s3)
    obtain ⟨ok4, g⟩ := ok3.mine hp (cut_of t3 l u)
    exact q _ _ (h3 p) _ F3 _ (s1.trans (s2.trans s3)) (w3.trans (w2.trans w1)) ok4 g⟩⟩⟩
/-! ### calls of built-ins -/
def LkC (X : Cx) (T : List (Addr × Str)) (A : Anc) (r : List V → Hp → VK → Prop) (S : List D → CV → Ev → Prop) : Prop := ∀ (ds : List D) (C : CV) (F H : Hp) (σ : L2.St) (ρ : Ev) (xs : List V) (Q : VK), S ds C ρ → Ok X.K T A F H σ ρ → Rs X.K F ρ.ws xs ds →
  (∀ d ρ', C d ρ' → ∀ v F' H', Same F F' → ρ'.ws = ρ.ws → Ok X.K T A F' H' σ ρ' → Gv X.K A F' H' ρ' v d → Q v H') → r xs H Q
theorem dv_callB {C : CV} {x : Str} {id : String} {r : List V → Hp → VK → Prop} {S : List D → CV → Ev → Prop} (hc : CallR X (.builtin id) r) (hS : LkC X T A r S) (hm : X.mg x = none) (hv : bootBuiltins x = some (.builtin id)) (h : DA X T A ρ (e :: es) (fun ds ρ1 => S ds C ρ1))
    (hg : Gl X x := by rfl) (hn : x ≠ "__name__" := by decide) (hdb : (x == ("__debug__" : Str)) = false := by decide) (he : starEach (e :: es) X.env = (false, eval e X.env) :: starEach es X.env := by rfl) (hpl : (backTo pos (starEach es X.env)).any (·.1) = false := by rfl) : DV X T A ρ (.Call (.Name x p) (e :: es) [] pos) C :=
  DV.of (pe_callB hc hg hm hv pa_go hn hdb he hpl) fun σ H Q F ok q => ⟨ρ, _, h, F, ok, fun ds ρ1 h1 vs F1 H1 s1 w1 ok1 r1 => hS ds C F1 H1 σ ρ1 vs Q h1 ok1 r1 fun d ρ' c v F' H' s' w' ok' r' => q d ρ' c v F' H' (s1.trans s') (w'.trans w1) ok' r'⟩
theorem dv_callTy {C : CV} {x : Str} {id : String} {r : List V → Hp → VK → Prop} {S : List D → CV → Ev → Prop} (hc : CallR X (.type id) r) (hS : LkC X T A r S) (hm : X.mg x = none) (hv : bootBuiltins x = some (.type id)) (h : DA X T A ρ (e :: es) (fun ds ρ1 => S ds C ρ1))
    (hg : Gl X x := by rfl) (hn : x ≠ "__name__" := by decide) (hdb : (x == ("__debug__" : Str)) = false := by decide) (he : starEach (e :: es) X.env = (false, eval e X.env) :: starEach es X.env := by rfl) (hpl : (backTo pos (starEach es X.env)).any (·.1) = false := by rfl) : DV X T A ρ (.Call (.Name x p) (e :: es) [] pos) C :=
  DV.of (pe_callTy hc hg hm hv pa_go hn hdb he hpl) fun σ H Q F ok q => ⟨ρ, _, h, F, ok, fun ds ρ1 h1 vs F1 H1 s1 w1 ok1 r1 => hS ds C F1 H1 σ ρ1 vs Q h1 ok1 r1 fun d ρ' c v F' H' s' w' ok' r' => q d ρ' c v F' H' (s1.trans s') (w'.trans w1) ok' r'⟩
theorem Rs.one {K : PySem.W.Frag} {F : Hp} {ws : List Addr} {vs : List V} {d : D} (r : Rs K F ws vs [d]) : ∃ v, vs = [v] ∧ R K F ws v d := by
  cases r with
  | cons h t => cases t; exact ⟨_, rfl, h⟩
theorem Rs.two {K : PySem.W.Frag} {F : Hp} {ws : List Addr} {vs : List V} {d d2 : D} (r : Rs K F ws vs [d, d2]) : ∃ v u, vs = [v, u] ∧ R K F ws v d ∧ R K F ws u d2 := by
  cases r with
  | cons h t =>
    cases t with
    | cons h' t => cases t; exact ⟨_, _, rfl, h, h'⟩
theorem Rs.ints {K : PySem.W.Frag} {F : Hp} {ws : List Addr} : ∀ {ns : List Int} {vs : List V}, Rs K F ws vs (ns.map D.int) → vs = ns.map V.int
  | [], _, h => by cases h; rfl
  | n :: ns, _, h => by
    cases h with
    | cons h t =>
      cases h
      rw [Rs.ints t]
      rfl
theorem Rs.ofInts {K : PySem.W.Frag} {F : Hp} {ws : List Addr} : ∀ ns : List Int, Rs K F ws (ns.map V.int) (ns.map D.int)
  | [] => .nil
  | n :: ns => .cons (.int n) (Rs.ofInts ns)
theorem Rs.bls {K : PySem.W.Frag} {F : Hp} {ws : List Addr} : ∀ {ns : List Bool} {vs : List V}, Rs K F ws vs (ns.map D.bl) → vs = ns.map V.bl
  | [], _, h => by cases h; rfl
  | n :: ns, _, h => by
    cases h with
    | cons h t =>
      cases h
      rw [Rs.bls t]
      rfl
/-- len -/
def lenD : List D → CV → Ev → Prop
  | [.str z], C, ρ => z.length ≤ sizeLine ∧ C (.v (.int z.length)) ρ
  | [.dK kvs], C, ρ => C (.v (.int kvs.length)) ρ
  | [d], C, ρ => ∃ ds, seqD d = some ds ∧ C (.v (.int ds.length)) ρ
  | _, _, _ => False
theorem Rk.len {K : PySem.W.Frag} {F : Hp} {ws : List Addr} : ∀ {ds : List (Key × D)} {vs : List (Key × V)}, Rk K F ws vs ds → vs.length = ds.length
  | [], _, h => by cases h; rfl
  | _ :: _, _, h => by
    cases h with
    | cons h t => rw [List.length_cons, List.length_cons, Rk.len t]
end rules
end DL
end

section
namespace DL
open PySem PySem.Spec L2
/-! ### what a def promises -/
inductive Out where
  | ret (d : D) (g : Nat) | new (ds : List D) (g : Nat) | newB (c : Con) (g : Nat) | exc (C : Addr) (fs : List (Str × D)) (g : Nat)
abbrev DF := List D → Nat → (Out → Prop) → Prop
abbrev Ev.bare (ws : List Addr) (g : Nat) : Ev := ⟨[], [], ws, g⟩
def spD (K : PySem.W.Frag) (T : List (Addr × Str)) (N : DF) : Sp := fun vs H Q E => ∃ (F : Hp) (ws : List Addr) (ds : List D) (g : Nat) (C : Out → Prop), Ok K T ⟨F, H, ws⟩ F H [] (.bare ws g) ∧ Rs K F ws vs ds ∧ N ds g C ∧
  (∀ d g', C (.ret d g') → ∀ v F' H', Ok K T ⟨F, H, ws⟩ F' H' [] (.bare ws g') → R K F' ws v d → Q v H') ∧
  (∀ ds g', C (.new ds g') → ∀ a F' H', Ok K T ⟨F, H, ws⟩ F' H' [] (.bare ws g') → Gv K ⟨F, H, ws⟩ F' H' (.bare ws g') (.ref a) (.l a ds) → Q (.ref a) H') ∧
  (∀ c g', C (.newB c g') → ∀ a F' H', Ok K T ⟨F, H, ws⟩ F' H' [] (.bare ws g') → GvB K ⟨F, H, ws⟩ F' H' (.bare ws g') (.ref a) a c → Q (.ref a) H') ∧
  (∀ c fs g', C (.exc c fs g') → ∀ dx xs F' H', Ok K T ⟨F, H, ws⟩ F' H' [] (.bare ws g') → F' dx = some (.xd xs) → Rf K F' ws xs fs → E (.ref c) (some dx) H')
abbrev XC := Addr → List (Str × D) → Nat → Prop
/-- what an exception has to be, the def's own ground A -/
def WD (K : PySem.W.Frag) (T : List (Addr × Str)) (A : Anc) (xc : XC) : WX := fun cls d _ H => ∃ (c dx : Addr) (fs : List (Str × D)) (xs : List (Str × V)) (g : Nat) (F : Hp), cls = .ref c ∧ d = some dx ∧ Ok K T A F H [] (.bare A.ws g) ∧ F dx = some (.xd xs) ∧ Rf K F A.ws xs fs ∧ xc c fs g
section ok
variable {K : PySem.W.Frag} {T : List (Addr × Str)} {A : Anc} {F F' H H' : Hp} {σ : L2.St} {ρ : Ev} {g : Nat}
theorem at_bare {ws : List Addr} {p : Sum Nat Nat} : (Ev.bare ws g).at p = none := by
  cases p <;> rfl
theorem Ok.bare (ok : Ok K T A F H σ ρ) : Ok K T ⟨F, H, ρ.ws⟩ F H [] (.bare ρ.ws ρ.g) :=
  ⟨Same.refl _, ok.sub, fun _ _ e _ _ => e, fun _ _ n => n, fun _ h => h, ok.tabs, fun _ h => h, fun _ h => .inl h, ok.strm, fun i d e => (by simp at e), fun i a ds e => (by simp [ownOf] at e), fun p a ds e => (by rw [at_bare] at e; cases e), fun p q a ds es e => (by rw [at_bare] at e; cases e), Nat.le_refl _⟩
theorem Ok.back (ok : Ok K T A F H σ ρ) (ok' : Ok K T ⟨F, H, ρ.ws⟩ F' H' [] (.bare ρ.ws g)) : Ok K T A F' H' σ (ρ.gas g) := by
  have s : Same F F' := ok'.sub0
  have hk : ∀ a o, H a = some o → NoTbl o → a ∉ ρ.ws → H' a = some o := ok'.keep
  have ha : ∀ a, H a ≠ none → F a = none → F' a = none := ok'.apart
  have ht : ∀ a, H a ≠ none → H' a ≠ none := ok'.there
  refine ⟨ok.sub0.trans s, ok'.sub, fun a o e n w => hk a o (ok.keep a o e n w) n fun z => ?_, fun a h n => ha a (ok.there a h) (ok.apart a h n), fun a h => ht a (ok.there a h), ok'.tabs, ok.wsub, ok.wnew, ok'.strm, fun i d e => ?_, ok.ownS, fun p a ds e => ?_, ok.dist, ok.len⟩
  · rcases ok.wnew a z with q | q
    · exact w q
    · rw [e] at q; cases q
  · obtain ⟨v, e1, e2⟩ := ok.slots i d e
    exact ⟨v, e1, e2.mo s⟩
  · obtain ⟨h1, h2, h3, vs, h4, h5⟩ := ok.owns p a ds e
    exact ⟨ha a (by rw [h4]; simp) h1, h2, h3, vs, hk a _ h4 h5.noTbl h2, h5.mo s⟩
theorem Ok.backB (ok : Ok K T A F H σ ρ) {a : Addr} {c : Con} (ok' : Ok K T ⟨F, H, ρ.ws⟩ F' H' [] (.bare ρ.ws g)) (g' : GvB K ⟨F, H, ρ.ws⟩ F' H' (.bare ρ.ws g) (.ref a) a c) : GvB K A F' H' (ρ.gas g) (.ref a) a c := by
  obtain ⟨_, h1, h2, h3, h4, _⟩ := g'
  have hn : A.H a = none := ok.anone h3
  refine ⟨rfl, h1, h2, hn, h4, fun p ds' z => ?_⟩
  obtain ⟨_, _, _, us, e, _⟩ := ok.owns p a ds' z
  rw [show H a = none from h3] at e
  cases e
/-- all slots forgotten -/
theorem Ok.drop (ok : Ok K T A F H σ ρ) : Ok K T A F H [] (.bare A.ws ρ.g) := by
  refine ⟨ok.sub0, ok.sub, ok.keep, ok.apart, ok.there, ok.tabs, fun _ h => h, fun _ h => .inl h, ?_, fun i d e => (by simp at e), fun i a ds e => (by simp [ownOf] at e), fun p a ds e => (by rw [at_bare] at e; cases e), fun p q a ds es e => (by rw [at_bare] at e; cases e), Nat.le_refl _⟩
  exact fun a m => ok.strm a (ok.wsub a m)
theorem GvB.bare {v : V} {a : Addr} {c : Con} {ws : List Addr} (h : GvB K A F H ρ v a c) (e : ρ.ws = ws) : GvB K A F H (.bare ws g) v a c := by
  subst e
  obtain ⟨h1, h2, h3, h4, h5, _⟩ := h
  exact ⟨h1, h2, h3, h4, h5, fun p ds' => by rw [at_bare]; simp⟩
theorem Gv.bare {v : V} {r : RV} {ws : List Addr} (h : Gv K A F H ρ v r) (e : ρ.ws = ws) : Gv K A F H (.bare ws g) v r := by
  cases r with
  | v d => subst e; exact h
  | l a ds => exact GvB.bare h e
  | b a c => exact GvB.bare h e
end ok
section call
variable {X : Cx} {T : List (Addr × Str)} {A : Anc} {ρ : Ev} {a b c e : Expr} {es rest : List Expr} {pos p : Pos} {C : CD} {B : CB}
def outD (A : Anc) (xc : XC) (C : CV) (ρ : Ev) : Out → Prop
  | .ret d g => C (.v d) (ρ.gas g)
  | .new ds g => ∀ a, C (.l a ds) (ρ.gas g)
  | .newB c g => ∀ a, C (.b a c) (ρ.gas g)
  | .exc c fs g => ρ.ws = A.ws ∧ xc c fs g
/-- a def of the text that is known -/
structure Kn (P : Program) (w : World) (K : PySem.W.Frag) (mg : Str → Option Value) (base : Heap) (T : List (Addr × Str)) (x : Str) (k : Nat) (N : DF) : Prop where
  ex : ∃ (f : Addr) (fd : FuncData) (ps : List Str), FnOk P w K mg base (L2.CX P w) k f fd ps (spD K T N) ∧ mg x = some (.ref f) ∧ PySem.W.keepIn K (.ref f) = true ∧ Binds K fd ps []
/-- what a call asks, at the values -/
theorem call_sp {K : PySem.W.Frag} {N : DF} {F H : Hp} {σ : L2.St} {vs : List V} {ds : List D} {xc : XC} {C : CV} {Q : VK} {E : XK} (ok : Ok K T A F H σ ρ) (r : Rs K F ρ.ws vs ds) (h : N ds ρ.g (outD A xc C ρ))
    (q : ∀ d ρ', C d ρ' → ∀ v F' H', Same F F' → ρ'.ws = ρ.ws → Ok K T A F' H' σ ρ' → Gv K A F' H' ρ' v d → Q v H') (hE : ∀ cls d H', WD K T A xc cls d [] H' → E cls d H') : spD K T N vs H Q E := by
  refine ⟨F, ρ.ws, ds, ρ.g, _, ok.bare, r, h, fun d g c v F' H' ok' r' => ?_, fun es g c a F' H' ok' g' => ?_, fun cc g c a F' H' ok' g' => ?_, fun cl fs g c dx xs F' H' ok' hx rf => ?_⟩
  · exact q _ _ c v F' H' ok'.sub0 rfl (ok.back ok') r'
  · exact q _ _ (c a) (.ref a) F' H' ok'.sub0 rfl (ok.back ok') (ok.backB ok' g')
  · exact q _ _ (c a) (.ref a) F' H' ok'.sub0 rfl (ok.back ok') (ok.backB ok' g')
  · obtain ⟨e, c⟩ := c
    have ok2 := (ok.back ok').drop
    exact hE _ _ _ ⟨cl, dx, fs, xs, g, F', rfl, rfl, ok2, hx, by rw [← e]; exact rf, c⟩
theorem dv_call {C : CV} {x : Str} {k : Nat} {N : DF} {xc : XC} (F : Kn X.prog X.w X.K X.mg X.base T x k N) (hr : Room k X.A) (tk : Takes X (WD X.K T A xc)) (h : DA X T A ρ (e :: es) (fun ds ρ1 => N ds ρ1.g (outD A xc C ρ1)))
    (hg : Gl X x := by rfl) (hdb : (x == ("__debug__" : Str)) = false := by decide) (he : starEach (e :: es) X.env = (false, eval e X.env) :: starEach es X.env := by rfl) (hpl : (backTo pos (starEach es X.env)).any (·.1) = false := by rfl) : DV X T A ρ (.Call (.Name x p) (e :: es) [] pos) C := by
  obtain ⟨f, fd, ps, F, hm, hk, hb⟩ := F.ex
  refine DV.of (pe_call F hr hg hm hk hb .nil (E := fun cls d H => WD X.K T A xc cls d [] H) (passes_call tk fun _ _ _ _ z => z) pa_go hdb he hpl) fun σ H Q F ok q => ⟨ρ, _, h, F, ok, fun ds ρ1 h1 vs F1 H1 s1 w1 ok1 r1 => ?_⟩
  show spD X.K T N (vs ++ []) H1 Q _
  rw [List.append_nil]
  exact call_sp ok1 r1 h1 (fun d ρ' c v F' H' s' w' ok' r' => q d ρ' c v F' H' (s1.trans s') (w'.trans w1) ok' r') fun _ _ _ z => z
end call
/-! ### statements -/
section stm
variable {X : Cx} {T : List (Addr × Str)} {A : Anc} {ρ : Ev} {a b c e : Expr} {es rest : List Expr} {pos p : Pos} {O : DO} {st : Stmt} {sts tt : List Stmt}
theorem Goes.sub {F F' : Hp} {ws ws' : List Addr} {C : Ev → Prop} {Q : L2.St → Hp → Prop} (h : Goes X T A F ws C Q) (s : Same F F') (w : ∀ a ∈ ws, a ∈ ws') : Goes X T A F' ws' C Q :=
  fun ρ' c σ' F2 H2 s2 w2 ok => h ρ' c σ' F2 H2 (s.trans s2) (fun a m => w2 a (w a m)) ok
theorem tS_sub {E : Ends} {F F' H' : Hp} {σ' : L2.St} {ρ' : Ev} (hn : Goes X T A F ρ.ws O.nx E.nx) (hr : ∀ r ρ', O.rt r ρ' → ∀ v σ' F' H', Ok X.K T A F' H' σ' ρ' → Gv X.K A F' H' ρ' v r → E.rt v H')
    (hb : Goes X T A F ρ.ws O.bk E.bk) (hc : Goes X T A F ρ.ws O.ct E.ct) (s : Same F F') (w : ∀ a ∈ ρ.ws, a ∈ ρ'.ws) (ok : Ok X.K T A F' H' σ' ρ') : tS X T A ρ' O E σ' H' :=
  ⟨F', ok, hn.sub s w, hr, hb.sub s w, hc.sub s w⟩
theorem dss_nil (h : O.nx ρ) : DSs X T A ρ [] O := DSs.of pss_nil fun E σ H ⟨F, ok, hn, _⟩ => hn ρ h σ F H (Same.refl _) (fun _ z => z) ok
theorem dss_cons (h : DS X T A ρ st { O with nx := fun ρ' => DSs X T A ρ' sts O }) : DSs X T A ρ (st :: sts) O :=
  DSs.of (pss_cons ps_go pss_go) fun E σ H ⟨F, ok, hn, hr, hb, hc⟩ => ⟨ρ, _, h, F, ok, fun ρ' c σ' F' H' s w ok' => ⟨ρ', O, c, tS_sub hn hr hb hc s w ok'⟩, hr, hb, hc⟩
theorem ds_pass (h : O.nx ρ) : DS X T A ρ (.Pass pos) O := DS.of ps_pass fun E σ H ⟨F, ok, hn, _⟩ => hn ρ h σ F H (Same.refl _) (fun _ z => z) ok
theorem ds_break (h : O.bk ρ) : DS X T A ρ (.Break pos) O := DS.of ps_break fun E σ H ⟨F, ok, _, _, hb, _⟩ => hb ρ h σ F H (Same.refl _) (fun _ z => z) ok
theorem ds_continue (h : O.ct ρ) : DS X T A ρ (.Continue pos) O := DS.of ps_continue fun E σ H ⟨F, ok, _, _, _, hc⟩ => hc ρ h σ F H (Same.refl _) (fun _ z => z) ok
theorem mem_eq {ws ws' : List Addr} (e : ws' = ws) : ∀ a ∈ ws, a ∈ ws' := fun a m => by rw [e]; exact m
theorem ds_expr (h : DV X T A ρ e (fun _ ρ1 => O.nx ρ1)) (hs : swapsWith e none pos.line X.env = pure false := by rfl) : DS X T A ρ (.Expr e pos) O :=
  DS.of (ps_expr pv_go hs) fun E σ H ⟨F, ok, hn, _⟩ => ⟨ρ, _, h, F, ok, fun r ρ1 c v F1 H1 s1 w1 ok1 g1 => hn ρ1 c σ F1 H1 s1 (mem_eq w1) ok1⟩
theorem ds_ret (h : DV X T A ρ e O.rt) : DS X T A ρ (.Return (some e) pos) O :=
  DS.of (ps_ret pv_go) fun E σ H ⟨F, ok, _, hr, _⟩ => ⟨ρ, _, h, F, ok, fun r ρ1 c v F1 H1 s1 w1 ok1 g1 => hr r ρ1 c v σ F1 H1 ok1 g1⟩
theorem ds_retN (h : O.rt (.v .non) ρ) : DS X T A ρ (.Return none pos) O :=
  DS.of ps_retN fun E σ H ⟨F, ok, _, hr, _⟩ => hr _ ρ h .non σ F H ok .non
theorem ds_if (h : DT X T A ρ c (fun k ρ1 => branch (DSs X T A ρ1 sts O) (DSs X T A ρ1 tt O) k)) : DS X T A ρ (.If c sts tt pos) O :=
  DS.of (ps_if pt_go pss_go pss_go) fun E σ H ⟨F, ok, hn, hr, hb, hc⟩ => ⟨ρ, _, h, F, ok, fun k ρ1 h1 F1 H1 s1 w1 ok1 => by
    cases k with
    | true =>
      rw [if_pos rfl]
      exact ⟨ρ1, O, h1.1 rfl, tS_sub hn hr hb hc s1 (mem_eq w1) ok1⟩
    | false =>
      rw [if_neg Bool.false_ne_true]
      exact ⟨ρ1, O, h1.2 rfl, tS_sub hn hr hb hc s1 (mem_eq w1) ok1⟩⟩
theorem ds_set {x : Str} {i : Nat} {pos' : Pos} (hN : X.N.Nodup) (h : DV X T A ρ e (fun r ρ1 => O.nx (ρ1.put i (.of r)))) (hi : slotOf X.N x = some i := by rfl) (hx : Loc X.env.scope x := by first | exact Or.inl rfl | exact Or.inr rfl)
    (hs : swapsWith e (some (.Name x pos')) pos.line X.env = pure false := by rfl) (hf : X.fn x = true ∨ X.env.scope.names.lookup x = some .local := by first | exact .inl rfl | exact .inr rfl | assumption) : DS X T A ρ (.Assign [.Name x pos'] e pos) O :=
  DS.of (ps_set hN (slotOf_ok hi) hx pv_go hs hf) fun E σ H ⟨F, ok, hn, _⟩ => ⟨ρ, _, h, F, ok, fun r ρ1 c v F1 H1 s1 w1 ok1 g1 => hn _ c _ F1 H1 s1 (mem_eq w1) (ok1.put g1)⟩
/-! targets: vs are the slots that they may change -/
structure DG (X : Cx) (T : List (Addr × Str)) (A : Anc) (vs : List Nat) (ρ : Ev) (tg : Expr) (d : D) (C : Ev → Prop) : Prop where
  pe : PG X tg (fun v σ H Q => ∃ F, Ok X.K T A F H σ ρ ∧ R X.K F ρ.ws v d ∧ ∀ ρ', C ρ' → ∀ σ' F' H', Same F F' → ρ'.ws = ρ.ws → wipe σ' vs = wipe σ vs → Ok X.K T A F' H' σ' ρ' → Q σ' H')
structure DGs (X : Cx) (T : List (Addr × Str)) (A : Anc) (vs : List Nat) (ρ : Ev) (tgs : List Expr) (ds : List D) (C : Ev → Prop) : Prop where
  pe : PGs X tgs (fun us σ H Q => ∃ F, Ok X.K T A F H σ ρ ∧ Rs X.K F ρ.ws us ds ∧ ∀ ρ', C ρ' → ∀ σ' F' H', Same F F' → ρ'.ws = ρ.ws → wipe σ' vs = wipe σ vs → Ok X.K T A F' H' σ' ρ' → Q σ' H')
def goG (X : Cx) (T : List (Addr × Str)) (A : Anc) (tg : Expr) : TG := fun v σ H Q => ∃ vs ρ d C, DG X T A vs ρ tg d C ∧ ∃ F, Ok X.K T A F H σ ρ ∧ R X.K F ρ.ws v d ∧ ∀ ρ', C ρ' → ∀ σ' F' H', Same F F' → ρ'.ws = ρ.ws → wipe σ' vs = wipe σ vs → Ok X.K T A F' H' σ' ρ' → Q σ' H'
def goGs (X : Cx) (T : List (Addr × Str)) (A : Anc) (tgs : List Expr) : TGs := fun us σ H Q => ∃ vs ρ ds C, DGs X T A vs ρ tgs ds C ∧ ∃ F, Ok X.K T A F H σ ρ ∧ Rs X.K F ρ.ws us ds ∧ ∀ ρ', C ρ' → ∀ σ' F' H', Same F F' → ρ'.ws = ρ.ws → wipe σ' vs = wipe σ vs → Ok X.K T A F' H' σ' ρ' → Q σ' H'
theorem pg_go {tg : Expr} : PG X tg (goG X T A tg) := ⟨fun pins s σ H v u Q I r ⟨_, _, _, _, h, q⟩ => h.pe.run pins s σ H v u Q I r q⟩
theorem pgs_go {tgs : List Expr} : PGs X tgs (goGs X T A tgs) := ⟨fun pins s σ H v u Q I r ⟨_, _, _, _, h, q⟩ => h.pe.run pins s σ H v u Q I r q⟩
theorem wipe_set {σ : L2.St} {i : Nat} {v : V} : ∀ {vs : List Nat}, i ∈ vs → wipe (σ.set i (some v)) vs = wipe σ vs
  | j :: vs, h => by
    unfold wipe
    by_cases e : i ∈ vs
    · rw [wipe_set e]
    · have e2 : i = j := by
        rcases List.mem_cons.mp h with h | h
        · exact h
        · exact absurd h e
      subst e2
      apply List.ext_getElem?
      intro k
      by_cases hk : k = i
      · subst hk
        by_cases hl : k < σ.length
        · rw [List.getElem?_set_self (by rw [wipe_length, List.length_set]; exact hl), List.getElem?_set_self (by rw [wipe_length]; exact hl)]
        · rw [List.getElem?_eq_none (by rw [List.length_set, wipe_length, List.length_set]; omega), List.getElem?_eq_none (by rw [List.length_set, wipe_length]; omega)]
      · rw [List.getElem?_set_ne (Ne.symm hk), List.getElem?_set_ne (Ne.symm hk)]
        have aux : ∀ (us : List Nat), (wipe (σ.set i (some v)) us)[k]? = (wipe σ us)[k]? := by
          intro us
          induction us with
          | nil => exact List.getElem?_set_ne (Ne.symm hk)
          | cons u us ih =>
            unfold wipe
            by_cases hu : u = k
            · subst hu
              by_cases hl : u < σ.length
              · rw [List.getElem?_set_self (by rw [wipe_length, List.length_set]; exact hl), List.getElem?_set_self (by rw [wipe_length]; exact hl)]
              · rw [List.getElem?_eq_none (by rw [List.length_set, wipe_length, List.length_set]; omega), List.getElem?_eq_none (by rw [List.length_set, wipe_length]; omega)]
            · rw [List.getElem?_set_ne hu, List.getElem?_set_ne hu, ih]
        exact aux vs
theorem dg_name {vs : List Nat} {x : Str} {i : Nat} {d : D} {C : Ev → Prop} (hN : X.N.Nodup) (h : C (ρ.put i (.dat d))) (hv : i ∈ vs) (hi : slotOf X.N x = some i := by rfl) (hx : Loc X.env.scope x := by first | exact Or.inl rfl | exact Or.inr rfl)
    (hf : X.fn x = true ∨ X.env.scope.names.lookup x = some .local := by first | exact .inl rfl | exact .inr rfl | assumption) : DG X T A vs ρ (.Name x pos) d C :=
  ⟨⟨fun pins s σ H v u Q I r ⟨F, ok, rr, q⟩ => (pg_name hN (slotOf_ok hi) hx hf).run pins s σ H v u Q I r (q _ h _ F H (Same.refl _) rfl (wipe_set hv) (ok.put (r := .v d) rr))⟩⟩
theorem dgs_nil {vs : List Nat} {C : Ev → Prop} (h : C ρ) : DGs X T A vs ρ [] [] C :=
  ⟨⟨fun pins s σ H us ws Q I r ⟨F, ok, rr, q⟩ => pgs_nil.run pins s σ H us ws Q I r (by cases rr; exact ⟨rfl, q _ h _ F H (Same.refl _) rfl rfl ok⟩)⟩⟩
theorem dgs_cons {vs : List Nat} {tg : Expr} {tgs : List Expr} {d : D} {ds : List D} {C : Ev → Prop} (h : DG X T A vs ρ tg d (fun ρ1 => DGs X T A vs ρ1 tgs ds C)) (hs : (assignEach (tg :: tgs) X.env).map (·.2) = assign tg X.env :: (assignEach tgs X.env).map (·.2) := by rfl) : DGs X T A vs ρ (tg :: tgs) (d :: ds) C :=
  ⟨⟨fun pins s σ H us ws Q I r ⟨F, ok, rr, q⟩ => (pgs_cons pg_go pgs_go hs).run pins s σ H us ws Q I r (by
    cases rr with
    | cons r1 r2 =>
      exact ⟨_, _, rfl, vs, ρ, d, _, h, F, ok, r1, fun ρ1 h1 σ1 F1 H1 s1 w1 e1 ok1 => ⟨vs, ρ1, ds, C, h1, F1, ok1, by rw [w1]; exact r2.mo s1, fun ρ2 c σ2 F2 H2 s2 w2 e2 ok2 => q ρ2 c σ2 F2 H2 (s1.trans s2) (w2.trans w1) (e2.trans e1) ok2⟩⟩)⟩⟩
def tupG (X : Cx) (T : List (Addr × Str)) (A : Anc) (vs : List Nat) (ρ : Ev) (tgs : List Expr) (C : Ev → Prop) : D → Prop
  | .tup ds => ds.length = (assignEach tgs X.env).length ∧ DGs X T A vs ρ tgs ds C
  | _ => False
theorem dg_tup {vs : List Nat} {tgs : List Expr} {k : Nat} {d : D} {C : Ev → Prop} (hc : X.calm = true) (h : tupG X T A vs ρ tgs C d) (hst : (assignEach tgs X.env).findIdx? (·.1) = none := by rfl) : DG X T A vs ρ (.Tuple tgs k pos) d C :=
  ⟨⟨fun pins s σ H v u Q I r ⟨F, ok, rr, q⟩ => (pg_tup hc pgs_go rfl hst).run pins s σ H v u Q I r (by
    unfold tupG at h
    split at h
    · cases rr with
      | tup h1 t => exact ⟨_, _, rfl, sqT_mono ok.sub h1, by rw [t.len]; exact h.1, vs, ρ, _, C, h.2, F, ok, t, q⟩
    · exact h.elim)⟩⟩
/-- a, b = e -/
theorem ds_unp {tg : Expr} (h : DE X T A ρ e (fun d ρ1 => ∃ vs, DG X T A vs ρ1 tg d O.nx)) (hs : swapsWithSole [tg] e pos.line X.env = pure false := by rfl) (hw : swappedStores [tg] e X.env = pure none := by rfl)
    (h1 : (assignEach [tg] X.env).map (·.2) = [assign tg X.env] := by rfl) : DS X T A ρ (.Assign [tg] e pos) O :=
  DS.of (ps_asg pe_go pg_go hs hw h1) fun E σ H ⟨F, ok, hn, _⟩ => ⟨ρ, _, h, F, ok, fun d ρ1 ⟨vs, c⟩ v F1 H1 s1 w1 ok1 r1 => ⟨vs, ρ1, d, _, c, F1, ok1, r1, fun ρ2 c2 σ2 F2 H2 s2 w2 _ ok2 => hn ρ2 c2 σ2 F2 H2 (s1.trans s2) (mem_eq (w2.trans w1)) ok2⟩⟩
end stm
end DL
end

section
namespace DL
open PySem PySem.Spec L2
/-! ### hidden things, wiped slots -/
def wipeS (sl : List Sl) : List Nat → List Sl
  | [] => sl
  | v :: vs => (wipeS sl vs).set v .non
theorem wipeS_len (sl : List Sl) : ∀ vs : List Nat, (wipeS sl vs).length = sl.length
  | [] => rfl
  | v :: vs => by unfold wipeS; rw [List.length_set, wipeS_len sl vs]
theorem wipeS_get {sl : List Sl} {i : Nat} : ∀ {vs : List Nat}, i ∉ vs → (wipeS sl vs)[i]? = sl[i]?
  | [], _ => rfl
  | v :: vs, h => by
    unfold wipeS
    rw [List.getElem?_set_ne (fun z => h (by rw [z]; exact List.mem_cons_self)), wipeS_get fun z => h (List.mem_cons_of_mem _ z)]
theorem wipeS_in {sl : List Sl} {i : Nat} {s : Sl} : ∀ {vs : List Nat}, i ∈ vs → (wipeS sl vs)[i]? = some s → s = .non
  | v :: vs, h, e => by
    unfold wipeS at e
    rcases put_get e with ⟨_, e, _⟩ | ⟨n, e⟩
    · exact e
    · rcases List.mem_cons.mp h with h | h
      · exact absurd h n
      · exact wipeS_in h e
def noOwn (sl : List Sl) (vs : List Nat) : Bool := vs.all fun i => match sl[i]? with
  | some (.own _ _) => false
  | some (.box _ _) => false
  | _ => true
theorem noOwn_bx {sl : List Sl} {vs : List Nat} (h : noOwn sl vs = true) {i : Nat} (m : i ∈ vs) {x : Addr × Con} : ownOf sl[i]? ≠ some x := by
  intro e
  obtain ⟨s, e1, e2⟩ := ownOf_bx (a := x.1) (c := x.2) e
  have := List.all_eq_true.mp h i m
  rw [e1] at this
  cases s with
  | non => cases e2
  | dat d => cases e2
  | own a ds => cases this
  | box a c => cases this
theorem noOwn_at {sl : List Sl} {vs : List Nat} (h : noOwn sl vs = true) {i : Nat} (m : i ∈ vs) {a : Addr} {ds : List D} : sl[i]? ≠ some (.own a ds) := fun e => noOwn_bx h m (ownOf_of e rfl)
abbrev Ev.inB (ρ : Ev) (vs : List Nat) (D0 : Addr) (acc : List D) (g : Nat) : Ev := ⟨wipeS ρ.sl vs, (D0, acc) :: ρ.hid, ρ.ws, g⟩
section ok
variable {K : PySem.W.Frag} {T : List (Addr × Str)} {A : Anc} {F F' H H' : Hp} {σ σ' : L2.St} {ρ : Ev} {g : Nat} {D0 : Addr} {acc : List D} {vs : List Nat}
theorem at_hide {ρ : Ev} {x : Addr × Con} {y : Addr × Con} {p : Sum Nat Nat} (h : ({ ρ with hid := x :: ρ.hid } : Ev).at p = some y) : (p = .inr 0 ∧ y = x) ∨ ∃ q, ρ.at q = some y ∧ (∀ i, q = .inl i → p = .inl i) ∧ (∀ j, q = .inr j → p = .inr (j + 1)) := by
  cases p with
  | inl i => exact .inr ⟨.inl i, h, fun j e => (by cases e; rfl), fun j e => (by cases e)⟩
  | inr j =>
    cases j with
    | zero => exact .inl ⟨rfl, (Option.some.inj h).symm⟩
    | succ j => exact .inr ⟨.inr j, h, fun i e => (by cases e), fun i e => (by cases e; rfl)⟩
theorem at_up {ρ : Ev} {x y : Addr × Con} {q : Sum Nat Nat} (h : ρ.at q = some y) : ∃ p, ({ ρ with hid := x :: ρ.hid } : Ev).at p = some y ∧ p ≠ .inr 0 := by
  cases q with
  | inl i => exact ⟨.inl i, h, by simp⟩
  | inr j => exact ⟨.inr (j + 1), h, by simp⟩
/-- a new thing of one's own is kept aside -/
theorem Ok.hideB (ok : Ok K T A F H σ ρ) {v : V} {a : Addr} {c : Con} (gv : GvB K A F H ρ v a c) : Ok K T A F H σ { ρ with hid := (a, c) :: ρ.hid } := by
  obtain ⟨_, h1, h2, h3, h4, h5⟩ := gv
  refine ⟨ok.sub0, ok.sub, ok.keep, ok.apart, ok.there, ok.tabs, ok.wsub, ok.wnew, ok.strm, ok.slots, ok.ownS, fun p b es e => ?_, fun p q b es es' e1 e2 => ?_, ok.len⟩
  · rcases at_hide e with ⟨_, e⟩ | ⟨q, e, _⟩
    · cases e
      exact ⟨h1, h2, h3, h4⟩
    · exact ok.owns q b es e
  · rcases at_hide e1 with ⟨rfl, z1⟩ | ⟨q1, e1, i1, j1⟩
    · rcases at_hide e2 with ⟨rfl, z2⟩ | ⟨q2, e2, _⟩
      · rfl
      · cases z1
        exact absurd e2 (h5 _ _)
    · rcases at_hide e2 with ⟨rfl, z2⟩ | ⟨q2, e2, i2, j2⟩
      · cases z2
        exact absurd e1 (h5 _ _)
      · have := ok.dist q1 q2 b es es' e1 e2
        subst this
        cases q1 with
        | inl i => rw [i1 i rfl, i2 i rfl]
        | inr j => rw [j1 j rfl, j2 j rfl]
theorem Ok.hide (ok : Ok K T A F H σ ρ) {v : V} {a : Addr} {ds : List D} (gv : Gv K A F H ρ v (.l a ds)) : Ok K T A F H σ { ρ with hid := (a, .lst ds) :: ρ.hid } := ok.hideB gv
theorem Ok.unhideB {a : Addr} {ds : Con} {r : List (Addr × Con)} {sl : List Sl} {ws : List Addr} (ok : Ok K T A F H σ ⟨sl, (a, ds) :: r, ws, g⟩) : Ok K T A F H σ ⟨sl, r, ws, g⟩ ∧ GvB K A F H ⟨sl, r, ws, g⟩ (.ref a) a ds := by
  have up : ∀ {p : Sum Nat Nat} {y : Addr × Con}, (⟨sl, r, ws, g⟩ : Ev).at p = some y → ∃ q, (⟨sl, (a, ds) :: r, ws, g⟩ : Ev).at q = some y ∧ q ≠ .inr 0 := fun {p y} h => at_up (ρ := ⟨sl, r, ws, g⟩) h
  obtain ⟨h1, h2, h3, h4⟩ := ok.owns (.inr 0) a ds rfl
  refine ⟨⟨ok.sub0, ok.sub, ok.keep, ok.apart, ok.there, ok.tabs, ok.wsub, ok.wnew, ok.strm, ok.slots, ok.ownS, fun p b es e => ?_, fun p q b es es' e1 e2 => ?_, ok.len⟩, rfl, h1, h2, h3, h4, fun p es e => ?_⟩
  · obtain ⟨q, e, _⟩ := up e
    exact ok.owns q b es e
  · cases p with
    | inl i =>
      cases q with
      | inl j => exact ok.dist (.inl i) (.inl j) b es es' e1 e2
      | inr j => exact absurd (ok.dist (.inl i) (.inr (j + 1)) b es es' e1 e2) (by simp)
    | inr i =>
      cases q with
      | inl j => exact absurd (ok.dist (.inr (i + 1)) (.inl j) b es es' e1 e2) (by simp)
      | inr j =>
        have := ok.dist (.inr (i + 1)) (.inr (j + 1)) b es es' e1 e2
        simpa using this
  · obtain ⟨q, e, n⟩ := up e
    exact n (ok.dist q (.inr 0) a es ds e rfl)
theorem Ok.unhide {a : Addr} {ds : List D} {r : List (Addr × Con)} {sl : List Sl} {ws : List Addr} (ok : Ok K T A F H σ ⟨sl, (a, .lst ds) :: r, ws, g⟩) : Ok K T A F H σ ⟨sl, r, ws, g⟩ ∧ Gv K A F H ⟨sl, r, ws, g⟩ (.ref a) (.l a ds) := ok.unhideB
/-- the hidden thing at the front holds something else -/
theorem Ok.hidChg {r : List (Addr × Con)} {sl : List Sl} {ws : List Addr} {c c2 : Con} {o : HO} (ok : Ok K T A F H σ ⟨sl, (D0, c) :: r, ws, g⟩) (rd : RC K F ws o c2) : Ok K T A F (upd H D0 o) σ ⟨sl, (D0, c2) :: r, ws, g⟩ := by
  refine ok.chg (p0 := .inr 0) (a := D0) (c := c) rfl rd rfl rfl (Nat.le_refl _) (fun _ _ z => z) (fun p x q => ?_)
  cases p with
  | inl i => exact .inr ⟨by simp, q⟩
  | inr j =>
    cases j with
    | zero => exact .inl ⟨rfl, (Option.some.inj q).symm⟩
    | succ j => exact .inr ⟨by simp, q⟩
theorem Ok.hidApp {r : List (Addr × Con)} {sl : List Sl} {ws : List Addr} {d : D} {v : V} {xs : List V} (ok : Ok K T A F H σ ⟨sl, (D0, .lst acc) :: r, ws, g⟩) (e0 : H D0 = some (.lst xs)) (rd : R K F ws v d) : Ok K T A F (upd H D0 (.lst (xs ++ [v]))) σ ⟨sl, (D0, .lst (acc ++ [d])) :: r, ws, g⟩ := by
  obtain ⟨h1, h2, h3, o, h4, h5⟩ := ok.owns (.inr 0) D0 _ rfl
  rw [e0] at h4
  cases h4
  cases h5 with
  | lst t => exact ok.hidChg (.lst (t.app (.cons rd .nil)))
theorem wipe_none {σ : L2.St} {i : Nat} {v : V} {vs : List Nat} (h : i ∉ vs) (e : σ[i]? = some (some v)) : (wipe σ vs)[i]? = some (some v) := by
  rw [wipe_out h]; exact e
theorem at_wipe {sl : List Sl} {h : List (Addr × Con)} {ws : List Addr} {x : Addr × Con} {p : Sum Nat Nat} (e : (⟨wipeS sl vs, h, ws, g⟩ : Ev).at p = some x) : (⟨sl, h, ws, g⟩ : Ev).at p = some x ∧ ∀ i, p = .inl i → i ∉ vs := by
  cases p with
  | inr j => exact ⟨e, fun i z => by cases z⟩
  | inl i =>
    obtain ⟨a, c⟩ := x
    obtain ⟨s, e1, e2⟩ := at_inl (ρ := ⟨wipeS sl vs, h, ws, g⟩) e
    by_cases m : i ∈ vs
    · rw [wipeS_in m e1] at e2
      cases e2
    · rw [show (⟨wipeS sl vs, h, ws, g⟩ : Ev).sl = wipeS sl vs from rfl, wipeS_get m] at e1
      exact ⟨at_ofB (ρ := ⟨sl, h, ws, g⟩) e1 e2, fun j z => by cases z; exact m⟩
theorem Ok.wiped {sl : List Sl} {h : List (Addr × Con)} {ws : List Addr} (ok : Ok K T A F H σ ⟨sl, h, ws, g⟩) : Ok K T A F H (wipe σ vs) ⟨wipeS sl vs, h, ws, g⟩ := by
  refine ⟨ok.sub0, ok.sub, ok.keep, ok.apart, ok.there, ok.tabs, ok.wsub, ok.wnew, ok.strm, fun i d e => ?_, fun i a ds e => ?_, fun p a ds e => ok.owns p a ds (at_wipe e).1, fun p q a ds es e1 e2 => ok.dist p q a ds es (at_wipe e1).1 (at_wipe e2).1, ?_⟩
  · by_cases m : i ∈ vs
    · cases wipeS_in m e
    · rw [show (⟨wipeS sl vs, h, ws, g⟩ : Ev).sl = wipeS sl vs from rfl, wipeS_get m] at e
      obtain ⟨v, e1, r⟩ := ok.slots i d e
      exact ⟨v, wipe_none m e1, r⟩
  · obtain ⟨s, e, eb⟩ := ownOf_bx e
    by_cases m : i ∈ vs
    · rw [wipeS_in m e] at eb
      cases eb
    · rw [show (⟨wipeS sl vs, h, ws, g⟩ : Ev).sl = wipeS sl vs from rfl, wipeS_get m] at e
      exact wipe_none m (ok.ownS i a ds (ownOf_of e eb))
  · show (wipeS sl vs).length ≤ _
    rw [wipeS_len, wipe_length]
    exact ok.len
/-- behind a block's turn: the outer slots as they were -/
theorem Ok.unwiped {sl sl' : List Sl} {h : List (Addr × Con)} {ws : List Addr} {g' : Nat} (ok : Ok K T A F H σ ⟨sl, h, ws, g⟩) (s : Same F F') (ok' : Ok K T A F' H' σ' ⟨sl', h, ws, g'⟩) (e : wipeS sl' vs = wipeS sl vs) (no : noOwn sl vs = true) : Ok K T A F' H' σ ⟨sl, h, ws, g'⟩ := by
  have tr : ∀ {p : Sum Nat Nat} {x : Addr × Con}, (⟨sl, h, ws, g'⟩ : Ev).at p = some x → (⟨sl', h, ws, g'⟩ : Ev).at p = some x := fun {p x} q => by
    cases p with
    | inr j => exact q
    | inl i =>
      have m : i ∉ vs := fun m => noOwn_bx no m q
      show ownOf sl'[i]? = _
      rw [← wipeS_get m, e, wipeS_get m]
      exact q
  refine ⟨ok'.sub0, ok'.sub, ok'.keep, ok'.apart, ok'.there, ok'.tabs, ok'.wsub, ok'.wnew, ok'.strm, fun i d q => ?_, ok.ownS, fun p a ds q => ok'.owns p a ds (tr q), fun p q a ds es e1 e2 => ok'.dist p q a ds es (tr e1) (tr e2), ok.len⟩
  obtain ⟨v, e1, r⟩ := ok.slots i d q
  exact ⟨v, e1, r.mo s⟩
end ok
/-! ### what is walked -/
def Yields (X : Cx) (T : List (Addr × Str)) (A : Anc) (J : It) (F : Hp) (ws : List Addr) (ds : List D) : Prop :=
  (∀ i F1 H1, Same F F1 → Same F1 H1 → i < ds.length → J.go i H1) ∧ (∀ i F1 H1, Same F F1 → Same F1 H1 → ds.length = i → J.stop i H1) ∧
  (∀ i d F1 H1 σ ρ x H2, ds[i]? = some d → Same F F1 → Ok X.K T A F1 H1 σ ρ → (∀ a ∈ ws, a ∈ ρ.ws) → J.yld i H1 x H2 → ∃ F2, Same F1 F2 ∧ Ok X.K T A F2 H2 σ ρ ∧ R X.K F2 ρ.ws x d)
structure DI (X : Cx) (T : List (Addr × Str)) (A : Anc) (ρ : Ev) (tg iter : Expr) (C : CL) : Prop where
  pe : PI X tg iter (fun σ H R => ∃ F, Ok X.K T A F H σ ρ ∧ ∀ ds ρ', C ds ρ' → ∀ J F' H', Same F F' → ρ'.ws = ρ.ws → Ok X.K T A F' H' σ ρ' → Yields X T A J F' ρ'.ws ds → R J H')
def goI (X : Cx) (T : List (Addr × Str)) (A : Anc) (tg iter : Expr) : TI := fun σ H R => ∃ ρ C, DI X T A ρ tg iter C ∧ ∃ F, Ok X.K T A F H σ ρ ∧ ∀ ds ρ', C ds ρ' → ∀ J F' H', Same F F' → ρ'.ws = ρ.ws → Ok X.K T A F' H' σ ρ' → Yields X T A J F' ρ'.ws ds → R J H'
section loops
variable {X : Cx} {T : List (Addr × Str)} {A : Anc} {ρ : Ev} {a b c e tg iter elt : Expr} {es rest ifs : List Expr} {pos p : Pos} {O : DO} {body : List Stmt}
theorem pi_go : PI X tg iter (goI X T A tg iter) := ⟨fun pins s σ H R I ⟨_, _, h, q⟩ => h.pe.run pins s σ H R I q⟩
theorem yields_list {K : PySem.W.Frag} (hK : X.K = K) {F : Hp} {ws : List Addr} {p : Addr} {xs : List V} {ds : List D} (h : SqL X.K F p xs) (t : Rs X.K F ws xs ds) : Yields X T A (Itl X.K p) F ws ds := by
  refine ⟨fun i F1 H1 s1 s2 l => ?_, fun i F1 H1 s1 s2 l => ?_, fun i d F1 H1 σ ρ x H2 e s1 ok w y => ?_⟩
  · have hl : i < xs.length := by rw [t.len]; exact l
    exact ⟨xs, xs[i], sqL_mono (s1.trans s2) h, List.getElem?_eq_getElem hl⟩
  · exact ⟨xs, sqL_mono (s1.trans s2) h, by rw [t.len]; exact Nat.le_of_eq l⟩
  · obtain ⟨rfl, y⟩ := y
    obtain ⟨v, e1, r⟩ := t.get e
    have e2 := y xs (sqL_mono (s1.trans ok.sub) h)
    rw [e1] at e2
    cases e2
    exact ⟨F1, Same.refl _, ok, R.mono s1 w d _ r⟩
theorem yields_tup {F : Hp} {ws : List Addr} {p : Addr} {xs : List V} {ds : List D} (h : SqT X.K F p xs) (t : Rs X.K F ws xs ds) : Yields X T A (Itt X.K p) F ws ds := by
  refine ⟨fun i F1 H1 s1 s2 l => ?_, fun i F1 H1 s1 s2 l => ?_, fun i d F1 H1 σ ρ x H2 e s1 ok w y => ?_⟩
  · have hl : i < xs.length := by rw [t.len]; exact l
    exact ⟨xs, xs[i], sqT_mono (s1.trans s2) h, List.getElem?_eq_getElem hl⟩
  · exact ⟨xs, sqT_mono (s1.trans s2) h, by rw [t.len]; exact Nat.le_of_eq l⟩
  · obtain ⟨rfl, y⟩ := y
    obtain ⟨v, e1, r⟩ := t.get e
    have e2 := y xs (sqT_mono (s1.trans ok.sub) h)
    rw [e1] at e2
    cases e2
    exact ⟨F1, Same.refl _, ok, R.mono s1 w d _ r⟩
/-- a list or a tuple, walked -/
def iSeq (K : PySem.W.Frag) (tl : TE) : TI := fun σ H R => tl σ H fun x H1 => ∃ a, x = .ref a ∧ (((∃ xs, SqL K H1 a xs) ∧ R (Itl K a) H1) ∨ ((∃ xs, SqT K H1 a xs) ∧ R (Itt K a) H1))
theorem pi_seq {tl : TE} (hl : PE X iter tl) : PI X tg iter (iSeq X.K tl) := by
  refine ⟨fun pins s σ H R I h => ?_⟩
  refine thn (hl.run pins s σ H _ I h) fun v s1 ⟨x, H1, I1, r1, q1⟩ => ?_
  obtain ⟨a, rfl, q⟩ := q1
  cases r1
  rcases q with ⟨⟨xs, hq⟩, q⟩ | ⟨⟨xs, hq⟩, q⟩
  · obtain ⟨its, rv, p, hz⟩ := I1.list hq
    refine wpAny_pyIter_list p.isList ⟨s1.heap.objs.size, [s1.heap.objs.size], _, _, H1, rfl, I1.kept (t' := s1.toks) fun b o e => Heap.get?_push_of_some _ e, turn_list a _, ⟨_, Heap.get?_push_size _ rfl, rfl, rfl⟩, fun b hb => ?_, q⟩
    cases List.mem_singleton.mp hb
    exact I1.fpOk (Nat.le_refl _) (I1.hok.fresh (Nat.le_refl _))
  · obtain ⟨its, rv, p, hz⟩ := I1.tuple hq
    refine wpAny_pyIter_tuple (show s1.heap.IsTuple a its.toArray from p) ⟨s1.heap.objs.size, [s1.heap.objs.size], _, _, H1, rfl, I1.kept (t' := s1.toks) fun b o e => Heap.get?_push_of_some _ e, turn_tuple a _, ⟨_, Heap.get?_push_size _ rfl, rfl, rfl⟩, fun b hb => ?_, q⟩
    cases List.mem_singleton.mp hb
    exact I1.fpOk (Nat.le_refl _) (I1.hok.fresh (Nat.le_refl _))
theorem di_seq {C : CL} (h : DE X T A ρ iter (fun d ρ1 => ∃ ds, seqD d = some ds ∧ C ds ρ1)) : DI X T A ρ tg iter C :=
  ⟨⟨fun pins s σ H R I ⟨F, ok, q⟩ => (pi_seq (pe_go (T := T) (A := A))).run pins s σ H R I ⟨ρ, _, h, F, ok, fun d ρ1 ⟨ds, e1, c⟩ v F1 H1 s1 w1 ok1 r1 => by
    cases r1 with
    | lst h t => cases e1; exact ⟨_, rfl, .inl ⟨⟨_, .of (ok1.sub _ _ h)⟩, q _ _ c _ F1 H1 s1 w1 ok1 (yields_list rfl (.of h) t)⟩⟩
    | kl h t => cases e1; exact ⟨_, rfl, .inl ⟨⟨_, sqL_mono ok1.sub h⟩, q _ _ c _ F1 H1 s1 w1 ok1 (yields_list rfl h t)⟩⟩
    | tup h t => cases e1; exact ⟨_, rfl, .inr ⟨⟨_, sqT_mono ok1.sub h⟩, q _ _ c _ F1 H1 s1 w1 ok1 (yields_tup h t)⟩⟩
    | _ => cases e1⟩⟩⟩
def rngD (lo : Int) (n : Nat) : List D := (List.range n).map fun (k : Nat) => D.int (lo + (k : Int))
theorem yields_rng {F : Hp} {ws : List Addr} {lo : Int} {n : Nat} : Yields X T A (Itr lo n) F ws (rngD lo n) := by
  have hl : (rngD lo n).length = n := by unfold rngD; rw [List.length_map, List.length_range]
  refine ⟨fun i F1 H1 s1 s2 l => ?_, fun i F1 H1 s1 s2 l => ?_, fun i d F1 H1 σ ρ x H2 e s1 ok w y => ?_⟩
  · rw [hl] at l; exact l
  · rw [hl] at l; exact Nat.le_of_eq l
  · obtain ⟨rfl, rfl⟩ := y
    have e1 : d = .int (lo + i) := by
      unfold rngD at e
      rw [List.getElem?_map] at e
      obtain ⟨k, e2, rfl⟩ := Option.map_eq_some_iff.mp e
      obtain ⟨l, e3⟩ := List.getElem?_eq_some_iff.mp e2
      rw [List.getElem_range] at e3
      rw [e3]
    subst e1
    exact ⟨F1, Same.refl _, ok, .int _⟩
def rng1D (C : CL) : List D → Ev → Prop
  | [.int j], ρ => -(2 ^ 62) ≤ j ∧ j < 2 ^ 62 ∧ C (rngD 0 j.toNat) ρ
  | _, _ => False
theorem di_rng1 {C : CL} (hm : X.mg "range" = none) (h : DA X T A ρ [a] (fun ds ρ1 => rng1D C ds ρ1)) (hg : Gl X "range" := by rfl) (hs : starEach [a] X.env = [(false, eval a X.env)] := by rfl) : DI X T A ρ tg (.Call (.Name "range" p) [a] [] pos) C :=
  ⟨⟨fun pins s σ H R I ⟨F, ok, q⟩ => (pi_range1 hg hm (pa_go (T := T) (A := A)) hs).run pins s σ H R I ⟨ρ, _, h, F, ok, fun ds ρ1 c vs F1 H1 s1 w1 ok1 r1 => by
    replace c : rng1D C ds ρ1 := c
    unfold rng1D at c
    split at c
    · obtain ⟨v, rfl, r⟩ := r1.one
      cases r
      exact ⟨_, rfl, c.1, c.2.1, q _ _ c.2.2 _ F1 H1 s1 w1 ok1 yields_rng⟩
    · exact c.elim⟩⟩⟩
def rng2D (C : CL) : List D → Ev → Prop
  | [.int i, .int j], ρ => (-(2 ^ 62) ≤ i ∧ i < 2 ^ 62 ∧ -(2 ^ 62) ≤ j ∧ j < 2 ^ 62) ∧ C (rngD i (j - i).toNat) ρ
  | _, _ => False
theorem di_rng2 {C : CL} (hm : X.mg "range" = none) (h : DA X T A ρ [a, b] (fun ds ρ1 => rng2D C ds ρ1)) (hg : Gl X "range" := by rfl) (hs : starEach [a, b] X.env = [(false, eval a X.env), (false, eval b X.env)] := by rfl) (hs2 : starEach [b] X.env = [(false, eval b X.env)] := by rfl) : DI X T A ρ tg (.Call (.Name "range" p) [a, b] [] pos) C :=
  ⟨⟨fun pins s σ H R I ⟨F, ok, q⟩ => (pi_range2 hg hm (pa_go (T := T) (A := A)) hs hs2).run pins s σ H R I ⟨ρ, _, h, F, ok, fun ds ρ1 c vs F1 H1 s1 w1 ok1 r1 => by
    replace c : rng2D C ds ρ1 := c
    unfold rng2D at c
    split at c
    · obtain ⟨v, u, rfl, r, r'⟩ := r1.two
      cases r
      cases r'
      exact ⟨_, _, rfl, c.1, q _ _ c.2 _ F1 H1 s1 w1 ok1 yields_rng⟩
    · exact c.elim⟩⟩⟩
/-! ### for, while -/
theorem ds_for (hp : PassesOwn (model X.prog X.w) X.A X.env X.xe) (hc : X.calm = true)
    (h : DI X T A ρ tg iter (fun ds ρ1 => ∃ I : Nat → Ev → Prop, I 0 ρ1 ∧ (∀ i d ρ2, ds[i]? = some d → I i ρ2 → ∃ vs, DG X T A vs ρ2 tg d (fun ρ3 => DSs X T A ρ3 body { O with nx := I (i + 1), ct := I (i + 1), bk := O.nx })) ∧ (∀ ρ2, I ds.length ρ2 → O.nx ρ2)))
    (hs : ∀ x, foldedSetIterable iter X.env x = pure x := by intro _; rfl) : DS X T A ρ (.For tg iter body [] pos) O :=
  DS.of (ps_for hp hc pi_go pg_go pss_go hs) fun E σ H ⟨F, ok, hn, hr, _, _⟩ => ⟨ρ, _, h, F, ok, fun ds ρ1 ⟨I, i0, it, ie⟩ J F1 H1 s1 w1 ok1 y => by
    refine ⟨fun i m σ2 H2 => m = ds.length - i ∧ i ≤ ds.length ∧ ∃ F2 ρ2, Same F1 F2 ∧ (∀ a ∈ ρ1.ws, a ∈ ρ2.ws) ∧ Ok X.K T A F2 H2 σ2 ρ2 ∧ I i ρ2, ⟨_, rfl, Nat.zero_le _, F1, ρ1, Same.refl _, fun _ z => z, ok1, i0⟩, ?_⟩
    rintro i m σ2 H2 ⟨rfl, hi, F2, ρ2, s2, w2, ok2, i2⟩
    have w0 : ∀ a ∈ ρ.ws, a ∈ ρ2.ws := fun a m => w2 a (mem_eq w1 a m)
    by_cases hl : i < ds.length
    · refine .inr ⟨y.1 i F2 H2 s2 ok2.sub hl, fun σ3 H3 => ∃ F3 ρ3, Same F2 F3 ∧ (∀ a ∈ ρ2.ws, a ∈ ρ3.ws) ∧ Ok X.K T A F3 H3 σ3 ρ3 ∧ I (i + 1) ρ3, fun σ3 H3 ⟨F3, ρ3, s3, w3, ok3, i3⟩ => ⟨ds.length - (i + 1), by omega, rfl, hl, F3, ρ3, s2.trans s3, fun a m => w3 a (w2 a m), ok3, i3⟩, fun x H3 hy => ?_⟩
      have ed : ds[i]? = some ds[i] := List.getElem?_eq_getElem hl
      obtain ⟨F3, s3, ok3, r3⟩ := y.2.2 i _ F2 H2 σ2 ρ2 x H3 ed s2 ok2 w2 hy
      obtain ⟨vs, g⟩ := it i _ ρ2 ed i2
      refine ⟨vs, ρ2, _, _, g, F3, ok3, r3, fun ρ4 c4 σ4 F4 H4 s4 w4 _ ok4 => ?_⟩
      refine ⟨ρ4, _, c4, F4, ok4, fun ρ5 c5 σ5 F5 H5 s5 w5 ok5 => ?_, fun r ρ5 c5 v σ5 F5 H5 ok5 g5 => ?_, fun ρ5 c5 σ5 F5 H5 s5 w5 ok5 => ?_, fun ρ5 c5 σ5 F5 H5 s5 w5 ok5 => ?_⟩
      · exact ⟨F5, ρ5, s3.trans (s4.trans s5), fun a m => w5 a (mem_eq w4 a m), ok5, c5⟩
      · exact hr r ρ5 c5 v σ5 F5 H5 ok5 g5
      · exact hn ρ5 c5 σ5 F5 H5 (s1.trans (s2.trans (s3.trans (s4.trans s5)))) (fun a m => w5 a (mem_eq w4 a (w0 a m))) ok5
      · exact ⟨F5, ρ5, s3.trans (s4.trans s5), fun a m => w5 a (mem_eq w4 a m), ok5, c5⟩
    · have ei : i = ds.length := by omega
      subst ei
      exact .inl ⟨y.2.1 _ F2 H2 s2 ok2.sub rfl, hn ρ2 (ie ρ2 i2) σ2 F2 H2 (s1.trans s2) w0 ok2⟩⟩
theorem ds_while (hp : PassesOwn (model X.prog X.w) X.A X.env X.xe) (I : Nat → Ev → Prop) (h0 : ∃ m, I m ρ)
    (h : ∀ m ρ1, I m ρ1 → DT X T A ρ1 c (fun k ρ2 => branch (DSs X T A ρ2 body { O with nx := fun ρ3 => ∃ m', m' < m ∧ I m' ρ3, ct := fun ρ3 => ∃ m', m' < m ∧ I m' ρ3, bk := O.nx }) (O.nx ρ2) k)) : DS X T A ρ (.While c body [] pos) O :=
  DS.of (ps_while hp (pt_go (T := T) (A := A)) (pss_go (T := T) (A := A))) fun E σ H ⟨F, ok, hn, hr, _, _⟩ => by
    obtain ⟨m0, i0⟩ := h0
    refine ⟨fun m σ2 H2 => ∃ F2 ρ2, Same F F2 ∧ (∀ a ∈ ρ.ws, a ∈ ρ2.ws) ∧ Ok X.K T A F2 H2 σ2 ρ2 ∧ I m ρ2, ⟨m0, F, ρ, Same.refl _, fun _ z => z, ok, i0⟩, ?_⟩
    rintro m σ2 H2 ⟨F2, ρ2, s2, w2, ok2, i2⟩
    refine ⟨ρ2, _, h m ρ2 i2, F2, ok2, fun k ρ3 c3 F3 H3 s3 w3 ok3 => ?_⟩
    have w0 : ∀ a ∈ ρ.ws, a ∈ ρ3.ws := fun a m => mem_eq w3 a (w2 a m)
    cases k with
    | false =>
      dsimp only
      rw [if_neg Bool.false_ne_true]
      exact hn ρ3 (c3.2 rfl) σ2 F3 H3 (s2.trans s3) w0 ok3
    | true =>
      dsimp only
      rw [if_pos rfl]
      refine ⟨fun σ4 H4 => ∃ m', m' < m ∧ ∃ F4 ρ4, Same F F4 ∧ (∀ a ∈ ρ.ws, a ∈ ρ4.ws) ∧ Ok X.K T A F4 H4 σ4 ρ4 ∧ I m' ρ4, fun _ _ z => z, ρ3, _, c3.1 rfl, F3, ok3, fun ρ5 ⟨m', hm, c5⟩ σ5 F5 H5 s5 w5 ok5 => ?_, fun r ρ5 c5 v σ5 F5 H5 ok5 g5 => ?_, fun ρ5 c5 σ5 F5 H5 s5 w5 ok5 => ?_, fun ρ5 ⟨m', hm, c5⟩ σ5 F5 H5 s5 w5 ok5 => ?_⟩
      · exact ⟨m', hm, F5, ρ5, s2.trans (s3.trans s5), fun a m => w5 a (w0 a m), ok5, c5⟩
      · exact hr r ρ5 c5 v σ5 F5 H5 ok5 g5
      · exact hn ρ5 c5 σ5 F5 H5 (s2.trans (s3.trans s5)) (fun a m => w5 a (w0 a m)) ok5
      · exact ⟨m', hm, F5, ρ5, s2.trans (s3.trans s5), fun a m => w5 a (w0 a m), ok5, c5⟩
end loops
end DL
end

section
namespace DL
open PySem PySem.Spec L2
/-! ### comprehensions -/
structure DTs (X : Cx) (T : List (Addr × Str)) (A : Anc) (ρ : Ev) (ifs : List Expr) (C : CB) : Prop where pe : PTs X ifs (tT X T A ρ C)
theorem wipe_id {W : L2.St} : ∀ us : List Nat, (∀ u ∈ us, ∀ x, W[u]? ≠ some (some x)) → wipe W us = W
  | [], _ => rfl
  | u :: us, h => by
    have ih := wipe_id us fun z m => h z (List.mem_cons_of_mem _ m)
    show (wipe W us).set u none = W
    rw [ih]
    apply List.ext_getElem?
    intro k
    by_cases hk : u = k
    · subst hk
      by_cases hl : u < W.length
      · rw [List.getElem?_set_self hl]
        cases q : W[u]? with
        | none =>
          rw [List.getElem?_eq_none_iff] at q
          omega
        | some z =>
          cases z with
          | none => rfl
          | some z => exact absurd q (h u List.mem_cons_self z)
      · rw [List.getElem?_eq_none (by rw [List.length_set]; omega), List.getElem?_eq_none (by omega)]
    · rw [List.getElem?_set_ne hk]
section comp
variable {X : Cx} {T : List (Addr × Str)} {A : Anc} {ρ : Ev} {a b c e tg iter elt : Expr} {es rest ifs : List Expr} {pos p : Pos} {scope : Scope}
theorem dts_nil {B : CB} (h : B true ρ) : DTs X T A ρ [] B := ⟨⟨fun pins s σ H Q I ⟨F, ok, q⟩ => pts_nil.run pins s σ H Q I (q _ _ h F H (Same.refl _) rfl ok)⟩⟩
theorem dts_one {B : CB} (h : DT X T A ρ c B) : DTs X T A ρ [c] B := ⟨pts_one h.pe⟩
/-- in every block of the scope -/
abbrev Blk (X : Cx) (scope : Scope) (P : Cx → Prop) : Prop := ∀ (s : Shared) (H : Hp) (Cc : Addr) (cl : List (Str × Addr)) (fp : List Addr), P (X.blk s H scope (compEnvC scope cl Cc X.env) fp)
def goGB (X : Cx) (T : List (Addr × Str)) (A : Anc) (scope : Scope) (tg : Expr) : TG := fun v σ H Q => ∃ vs ρ d C, (Blk X scope fun X' => DG X' T A vs ρ tg d C) ∧ ∃ F, Ok X.K T A F H σ ρ ∧ R X.K F ρ.ws v d ∧ ∀ ρ', C ρ' → ∀ σ' F' H', Same F F' → ρ'.ws = ρ.ws → wipe σ' vs = wipe σ vs → Ok X.K T A F' H' σ' ρ' → Q σ' H'
def goTB (X : Cx) (T : List (Addr × Str)) (A : Anc) (scope : Scope) (ifs : List Expr) : TT := fun σ H Q => ∃ ρ C, (Blk X scope fun X' => DTs X' T A ρ ifs C) ∧ tT X T A ρ C σ H Q
def goEB (X : Cx) (T : List (Addr × Str)) (A : Anc) (scope : Scope) (e : Expr) : TE := fun σ H Q => ∃ ρ C, (Blk X scope fun X' => DE X' T A ρ e C) ∧ tD X T A ρ C σ H Q
/-- a turn's element: what is known behind it -/
def Kept (ρ : Ev) (own : List (Str × Nat)) (D0 : Addr) (acc : List D) (I : List D → Nat → Prop) (acc' : List D) (ρ5 : Ev) : Prop :=
  ρ5.hid = (D0, .lst acc) :: ρ.hid ∧ wipeS ρ5.sl (own.map (·.2)) = wipeS ρ.sl (own.map (·.2)) ∧ I acc' ρ5.g
def LcD (X : Cx) (T : List (Addr × Str)) (A : Anc) (scope : Scope) (own : List (Str × Nat)) (tg elt : Expr) (ifs : List Expr) (C : CV) (ds : List D) (ρ1 : Ev) : Prop :=
  ∃ I : Nat → List D → Nat → Prop, noOwn ρ1.sl (own.map (·.2)) = true ∧ I 0 [] ρ1.g ∧ ds.length < sizeLine ∧
    (∀ i d (acc : List D) g D0, ds[i]? = some d → acc.length ≤ i → I i acc g → Blk X scope fun X' => DG X' T A (own.map (·.2)) (ρ1.inB (own.map (·.2)) D0 acc g) tg d (fun ρ3 => Blk X scope fun X' => DTs X' T A ρ3 ifs (fun k ρ4 =>
      branch (Blk X scope fun X' => DE X' T A ρ4 elt (fun y ρ5 => Kept ρ1 own D0 acc (I (i + 1)) (acc ++ [y]) ρ5)) (Kept ρ1 own D0 acc (I (i + 1)) acc ρ4) k))) ∧
    (∀ acc g, I ds.length acc g → ∀ a, C (.l a acc) (ρ1.gas g))
theorem lc_read {own : List (Str × Nat)} {C : CV} (h : DI X T A ρ tg iter (fun ds ρ1 => LcD X T A scope own tg elt ifs C ds ρ1)) (σ : L2.St) (H : Hp) (Q : VK) (F : Hp) (ok : Ok X.K T A F H σ ρ)
    (q : ∀ r ρ', C r ρ' → ∀ v F' H', Same F F' → ρ'.ws = ρ.ws → Ok X.K T A F' H' σ ρ' → Gv X.K A F' H' ρ' v r → Q v H') : tLc (goI X T A tg iter) (goGB X T A scope tg) (goTB X T A scope ifs) (goEB X T A scope elt) (own.map (·.2)) σ H Q := by
  refine ⟨ρ, _, h, F, ok, fun ds ρ1 ⟨I, no, i0, hz, it, ie⟩ J F1 H1 s1 w1 ok1 y D0 hD => ?_⟩
  obtain ⟨okD, gD⟩ := ok1.mine hD (ds := []) .nil
  have ok0 := okD.hide gD
  refine ⟨fun i m H2 => m = ds.length - i ∧ i ≤ ds.length ∧ ∃ (F2 : Hp) (acc : List D) (g : Nat), Same F1 F2 ∧ acc.length ≤ i ∧ Ok X.K T A F2 H2 σ ⟨ρ1.sl, (D0, acc) :: ρ1.hid, ρ1.ws, g⟩ ∧ I i acc g, ⟨_, rfl, Nat.zero_le _, F1, [], ρ1.g, Same.refl _, Nat.le_refl _, ok0, i0⟩, ?_⟩
  rintro i m H2 ⟨rfl, hi, F2, acc, g, s2, ha, ok2, i2⟩
  by_cases hl : i < ds.length
  · refine .inr ⟨y.1 i F2 H2 s2 ok2.sub hl, fun H3 => ∃ (F3 : Hp) (acc : List D) (g : Nat), Same F1 F3 ∧ acc.length ≤ i + 1 ∧ Ok X.K T A F3 H3 σ ⟨ρ1.sl, (D0, acc) :: ρ1.hid, ρ1.ws, g⟩ ∧ I (i + 1) acc g, fun H3 ⟨F3, acc', g', s3, ha', ok3, i3⟩ => ⟨ds.length - (i + 1), by omega, rfl, hl, F3, acc', g', s3, ha', ok3, i3⟩, fun x H3 hy => ?_⟩
    have ed : ds[i]? = some ds[i] := List.getElem?_eq_getElem hl
    obtain ⟨F3, s3, ok3, r3⟩ := y.2.2 i _ F2 H2 σ _ x H3 ed s2 ok2 (fun _ z => z) hy
    have okB : Ok X.K T A F3 H3 (wipe σ (own.map (·.2))) (ρ1.inB (own.map (·.2)) D0 acc g) := ok3.wiped
    have gg := it i _ acc g D0 ed ha i2
    refine ⟨own.map (·.2), _, _, _, gg, F3, okB, r3, fun ρ4 c4 σ4 F4 H4 s4 w4 e4 ok4 => ⟨?_, ?_⟩⟩
    · rw [e4]
      exact wipe_id _ fun u m x e => absurd m (wipe_some e).2
    · have hw4 : ρ4.ws = ρ1.ws := w4
      refine ⟨ρ4, _, c4, F4, ok4, fun k ρ5 c5 F5 H5 s5 w5 ok5 => ?_⟩
      have hw5 : ρ5.ws = ρ1.ws := w5.trans hw4
      cases k with
      | false =>
        dsimp only
        rw [if_neg Bool.false_ne_true]
        obtain ⟨e1, e2, e3⟩ := c5.2 rfl
        obtain ⟨sl5, hid5, ws5, g5⟩ := ρ5
        cases e1
        cases hw5
        exact ⟨F5, acc, g5, s2.trans (s3.trans (s4.trans s5)), by omega, ok3.unwiped (s4.trans s5) ok5 e2 no, e3⟩
      | true =>
        dsimp only
        rw [if_pos rfl]
        refine ⟨ρ5, _, c5.1 rfl, F5, ok5, fun d ρ6 ⟨e1, e2, e3⟩ v F6 H6 s6 w6 ok6 r6 => ?_⟩
        obtain ⟨sl6, hid6, ws6, g6⟩ := ρ6
        cases e1
        have hw6 : ws6 = ρ1.ws := w6.trans hw5
        subst hw6
        have ok7 := ok3.unwiped (s4.trans (s5.trans s6)) ok6 e2 no
        obtain ⟨_, _, _, o4, e4, r4⟩ := ok7.owns (.inr 0) D0 (.lst acc) rfl
        obtain ⟨xs, rfl, t4⟩ := r4.list
        have l4 := t4.len
        refine ⟨xs, e4, by omega, F6, acc ++ [d], g6, s2.trans (s3.trans (s4.trans (s5.trans s6))), by rw [List.length_append, List.length_singleton]; omega, ok7.hidApp e4 r6, e3⟩
  · have ei : i = ds.length := by omega
    subst ei
    obtain ⟨ok3, gv⟩ := ok2.unhide
    exact .inl ⟨y.2.1 _ F2 H2 s2 ok2.sub rfl, q _ _ (ie acc g i2 D0) _ F2 H2 (s1.trans s2) w1 ok3 gv⟩
theorem dv_lc {own : List (Str × Nat)} {C : CV} (hc : X.calm = true) (hN : X.N.Nodup) (ok : BlkOk X.N X.env.scope scope own) (h : DI X T A ρ tg iter (fun ds ρ1 => LcD X T A scope own tg elt ifs C ds ρ1))
    (hs : ∀ x, foldedSetIterable iter X.env x = pure x := by intro _; rfl) : DV X T A ρ (.ListComp elt [⟨tg, iter, ifs, 0⟩] scope pos) C :=
  DV.of (pe_lc (g := goGB X T A scope tg) (tt := goTB X T A scope ifs) (te := goEB X T A scope elt) hc hN pi_go ok
    (fun s H Cc cl fp => ⟨fun pins s' σ H' v u Q I r ⟨_, _, _, _, h, q⟩ => (h s H Cc cl fp).pe.run pins s' σ H' v u Q I r q⟩)
    (fun s H Cc cl fp => ⟨fun pins s' σ H' Q I ⟨_, _, h, q⟩ => (h s H Cc cl fp).pe.run pins s' σ H' Q I q⟩)
    (fun s H Cc cl fp => ⟨fun pins s' σ H' Q I ⟨_, _, h, q⟩ => (h s H Cc cl fp).pe.run pins s' σ H' Q I q⟩) hs) (lc_read h)
/-- name = [..], the name a local -/
theorem ds_setLc {own : List (Str × Nat)} {O : DO} {y : Str} {py spos : Pos} {i : Nat} (hc : X.calm = true) (hN : X.N.Nodup) (ok : BlkOk X.N X.env.scope scope own) (hyl : X.env.scope.names.lookup y = some .local)
    (hsw : swapsWith (.ListComp elt [⟨tg, iter, ifs, 0⟩] scope pos) (some (.Name y py)) spos.line X.env = pure true)
    (h : DI X T A ρ tg iter (fun ds ρ1 => LcD X T A scope own tg elt ifs (fun r ρ2 => O.nx (ρ2.put i (.of r))) ds ρ1)) (hi : slotOf X.N y = some i := by rfl)
    (hs : ∀ x, foldedSetIterable iter X.env x = pure x := by intro _; rfl) : DS X T A ρ (.Assign [.Name y py] (.ListComp elt [⟨tg, iter, ifs, 0⟩] scope pos) spos) O :=
  DS.of (ps_setLc (g := goGB X T A scope tg) (tt := goTB X T A scope ifs) (te := goEB X T A scope elt) hc hN (slotOf_ok hi) hyl hsw pi_go ok
    (fun s H Cc cl fp => ⟨fun pins s' σ H' v u Q I r ⟨_, _, _, _, h, q⟩ => (h s H Cc cl fp).pe.run pins s' σ H' v u Q I r q⟩)
    (fun s H Cc cl fp => ⟨fun pins s' σ H' Q I ⟨_, _, h, q⟩ => (h s H Cc cl fp).pe.run pins s' σ H' Q I q⟩)
    (fun s H Cc cl fp => ⟨fun pins s' σ H' Q I ⟨_, _, h, q⟩ => (h s H Cc cl fp).pe.run pins s' σ H' Q I q⟩) hs) fun E σ H ⟨F, ok, hn, _⟩ => by
    have := lc_read h σ H (fun v H' => E.nx (σ.set i (some v)) H') F ok fun r ρ' c v F' H' s w ok' gv => hn _ c _ F' H' s (mem_eq w) (ok'.put gv)
    exact this
end comp
end DL
end

section
namespace DL
open PySem PySem.Spec L2
/-! ### one's own list at a slot -/
section own
variable {X : Cx} {T : List (Addr × Str)} {A : Anc} {ρ : Ev} {a b c e : Expr} {es rest : List Expr} {pos p : Pos} {O : DO} {C : CD} {x : Str} {i : Nat}
def ownAt (ρ : Ev) (i : Nat) (P : Addr → List D → Prop) : Prop := match ρ.sl[i]? with
  | some (.own a ds) => P a ds
  | _ => False
theorem ownAt_ok {ρ : Ev} {P : Addr → List D → Prop} (h : ownAt ρ i P) : ∃ a ds, ρ.sl[i]? = some (.own a ds) ∧ P a ds := by
  unfold ownAt at h
  split at h
  · exact ⟨_, _, by assumption, h⟩
  · exact h.elim
theorem pvS {x : Str} {i : Nat} {pos : Pos} (hi : slotOf X.N x = some i := by rfl) (hv : Vis X.env.scope x := by first | exact Or.inl rfl | exact Or.inr (Or.inl rfl) | exact Or.inr (Or.inr rfl)) (hd : (x == ("__debug__" : Str)) = false := by decide) (hcd : (x == ("__classdict__" : Str)) = false := by decide) : PE X (.Name x pos) (tVar i) := pe_var (slotOf_ok hi) hv hd hcd
/-- x.append(e): hm by pe_bm -/
theorem ds_append {call : Expr} {spos : Pos} (hm : ∀ t, PA X [e] t → PE X call (tBM X.K "list" rAppend (tVar i) t)) (hst : starEach [e] X.env = (false, eval e X.env) :: starEach [] X.env) (hs : swapsWith call none spos.line X.env = pure false)
    (h0 : ownAt ρ i fun _ _ => True) (h : DE X T A ρ e (fun d ρ1 => ownAt ρ1 i fun a ds => ds.length < sizeLine ∧ O.nx (ρ1.put i (.own a (ds ++ [d]))))) : DS X T A ρ (.Expr call spos) O :=
  DS.of (ps_expr (hm _ (pa_cons pe_go pa_nil hst)) hs) fun E σ H ⟨F, ok, hn, _⟩ => by
    obtain ⟨a0, ds0, e0, _⟩ := ownAt_ok h0
    obtain ⟨f1, f2, f3, vs, f4, f5⟩ := ok.ownL e0
    refine ⟨.ref a0, ok.ownSL e0, .inl ⟨rfl, _, .of f4⟩, ρ, _, h, F, ok, fun d ρ1 h1 v F1 H1 s1 w1 ok1 r1 => ?_⟩
    obtain ⟨a, ds, e1, hz, c⟩ := ownAt_ok h1
    have e2 := ok1.ownSL e1
    rw [ok.ownSL e0] at e2
    cases e2
    obtain ⟨g1, g2, g3, us, g4, g5⟩ := ok1.ownL e1
    exact ⟨a0, us, v, rfl, rfl, g4, by rw [g5.len]; exact hz, hn _ c σ F1 _ s1 (mem_eq w1) (ok1.ownUpd e1 (g5.app (.cons r1 .nil)))⟩
/-- x.extend(e), e a list -/
theorem ds_extend {call : Expr} {spos : Pos} (hm : ∀ t, PA X [e] t → PE X call (tBM X.K "list" rExtend (tVar i) t)) (hst : starEach [e] X.env = (false, eval e X.env) :: starEach [] X.env) (hs : swapsWith call none spos.line X.env = pure false)
    (h0 : ownAt ρ i fun _ _ => True) (h : DE X T A ρ e (fun d ρ1 => ownAt ρ1 i fun a ds => ∃ fs, d = .lst fs ∧ ds.length + fs.length ≤ sizeLine ∧ O.nx (ρ1.put i (.own a (ds ++ fs))))) : DS X T A ρ (.Expr call spos) O :=
  DS.of (ps_expr (hm _ (pa_cons pe_go pa_nil hst)) hs) fun E σ H ⟨F, ok, hn, _⟩ => by
    obtain ⟨a0, ds0, e0, _⟩ := ownAt_ok h0
    obtain ⟨f1, f2, f3, vs, f4, f5⟩ := ok.ownL e0
    refine ⟨.ref a0, ok.ownSL e0, .inl ⟨rfl, _, .of f4⟩, ρ, _, h, F, ok, fun d ρ1 h1 v F1 H1 s1 w1 ok1 r1 => ?_⟩
    obtain ⟨a, ds, e1, fs, rfl, hz, c⟩ := ownAt_ok h1
    have e2 := ok1.ownSL e1
    rw [ok.ownSL e0] at e2
    cases e2
    obtain ⟨g1, g2, g3, us, g4, g5⟩ := ok1.ownL e1
    cases r1 with
    | lst hb t =>
      exact ⟨a0, _, us, _, rfl, rfl, g4, ok1.sub _ _ hb, by rw [g5.len, t.len]; exact hz, hn _ c σ F1 _ s1 (mem_eq w1) (ok1.ownUpd e1 (g5.app t))⟩
/-- x[k] read, x one's own list: an item -/
theorem de_ixOwn (h0 : ownAt ρ i fun _ _ => True) (h : DE X T A ρ b (fun d ρ1 => ownAt ρ1 i fun _ ds => ∃ k e, d = .int k ∧ atI ds k = some e ∧ C e ρ1)) (hi : slotOf X.N x = some i := by rfl)
    (hv : Vis X.env.scope x := by first | exact Or.inl rfl | exact Or.inr (Or.inl rfl) | exact Or.inr (Or.inr rfl)) (hd : (x == ("__debug__" : Str)) = false := by decide) (hcd : (x == ("__classdict__" : Str)) = false := by decide)
    (hs : PlainIx b := by exact fun _ _ => rfl) : DE X T A ρ (.Subscript (.Name x p) b pos) C :=
  DE.of (pe_ix ix_list (pe_var (slotOf_ok hi) hv hd hcd) pe_go hs) fun σ H Q F ok q => by
    obtain ⟨a0, ds0, e0, _⟩ := ownAt_ok h0
    refine ⟨.ref a0, ok.ownSL e0, ρ, _, h, F, ok, fun d ρ1 h1 v F1 H1 s1 w1 ok1 r1 => ?_⟩
    obtain ⟨a, ds, e1, k, el, rfl, e3, c⟩ := ownAt_ok h1
    have e2 := ok1.ownSL e1
    rw [ok.ownSL e0] at e2
    cases e2
    obtain ⟨g1, g2, g3, us, g4, g5⟩ := ok1.ownL e1
    cases r1
    obtain ⟨u, e4, r4⟩ := atI_of g5 e3
    exact ⟨a0, us, k, u, rfl, rfl, .of g4, e4, q _ _ c u F1 H1 s1 w1 ok1 r4⟩
/-- x[k] as a target, x one's own list -/
theorem dg_own {vs : List Nat} {d : D} {C : Ev → Prop} (h0 : ownAt ρ i fun _ _ => True) (h : DE X T A ρ b (fun d2 ρ1 => ownAt ρ1 i fun a ds => ∃ k j, d2 = .int k ∧ ixN ds.length k = some j ∧ C (ρ1.put i (.own a (ds.set j d))))) (hi : slotOf X.N x = some i := by rfl)
    (hv : Vis X.env.scope x := by first | exact Or.inl rfl | exact Or.inr (Or.inl rfl) | exact Or.inr (Or.inr rfl)) (hd : (x == ("__debug__" : Str)) = false := by decide) (hcd : (x == ("__classdict__" : Str)) = false := by decide)
    (ha : ∀ v, assign (.Subscript (.Name x p) b pos) X.env v = (do
      let ov ← holding [v] (eval (.Name x p) X.env)
      let iv ← holding [v, ov] (eval b X.env)
      standAt pos
      holding [v, ov, iv] (setItem ov iv v)
      release [v, ov, iv] []) := by intro _; rfl) : DG X T A vs ρ (.Subscript (.Name x p) b pos) d C :=
  ⟨⟨fun pins s σ H v u Q I r ⟨F, ok, rr, q⟩ => (pg_sub (pe_var (slotOf_ok hi) hv hd hcd) (pe_go (T := T) (A := A)) set_list ha).run pins s σ H v u Q I r (by
    obtain ⟨a0, ds0, e0, _⟩ := ownAt_ok h0
    refine ⟨.ref a0, ok.ownSL e0, ρ, _, h, F, ok, fun d2 ρ1 h1 v2 F1 H1 s1 w1 ok1 r1 => ?_⟩
    obtain ⟨a, ds, e1, k, j, rfl, e3, c⟩ := ownAt_ok h1
    have e2 := ok1.ownSL e1
    rw [ok.ownSL e0] at e2
    cases e2
    obtain ⟨g1, g2, g3, us, g4, g5⟩ := ok1.ownL e1
    cases r1
    refine ⟨a0, us, k, j, rfl, rfl, g4, by rw [g5.len]; exact e3, q _ c σ F1 _ s1 w1 rfl (ok1.ownUpd e1 (g5.set (by rw [w1]; exact rr.mo s1) j))⟩)⟩⟩
/-- x[k] = e -/
theorem ds_store {tg : Expr} (h : DE X T A ρ e (fun d ρ1 => DG X T A [] ρ1 tg d O.nx)) (hs : swapsWithSole [tg] e pos.line X.env = pure false := by rfl) (hw : swappedStores [tg] e X.env = pure none := by rfl)
    (h1 : (assignEach [tg] X.env).map (·.2) = [assign tg X.env] := by rfl) : DS X T A ρ (.Assign [tg] e pos) O :=
  ds_unp (DE.of h.pe fun σ H Q F ok q => ⟨F, ok, fun d ρ1 c v F' H' s w ok' r => q d ρ1 ⟨[], c⟩ v F' H' s w ok' r⟩) hs hw h1
/-- a, b = e1, e2, both plain local names -/
theorem ds_par {y : Str} {j : Nat} {px py pt : Pos} {kt k2 pt2} (hc : X.calm = true) (hN : X.N.Nodup) (h : DV X T A ρ a (fun r1 ρ1 => ∃ d1, r1 = .v d1 ∧ DE X T A ρ1 b (fun d2 ρ2 => O.nx ((ρ2.put i (.dat d1)).put j (.dat d2))))) (hi : slotOf X.N x = some i := by rfl) (hj : slotOf X.N y = some j := by rfl) (hij : i ≠ j := by decide)
    (hx : X.env.scope.names.lookup x = some .local := by rfl) (hy : X.env.scope.names.lookup y = some .local := by rfl) (hst : starEach [a, b] X.env = (false, eval a X.env) :: starEach [b] X.env := by rfl) (hst2 : starEach [b] X.env = (false, eval b X.env) :: starEach [] X.env := by rfl)
    (hw : swappedStores [.Tuple [.Name x px, .Name y py] kt pt] (.Tuple [a, b] k2 pt2) X.env = pure (some [x, y]) := by rfl)
    (hs : swapsWithSole [.Tuple [.Name x px, .Name y py] kt pt] (.Tuple [a, b] k2 pt2) pos.line X.env = pure false := by rfl) :
    DS X T A ρ (.Assign [.Tuple [.Name x px, .Name y py] kt pt] (.Tuple [a, b] k2 pt2) pos) O :=
  DS.of (ps_par hc hN (slotOf_ok hi) (slotOf_ok hj) hij hx hy (pa_cons pv_go (pa_cons pe_go pa_nil hst2) hst) hw hs) fun E σ H ⟨F, ok, hn, _⟩ =>
    ⟨ρ, _, h, F, ok, fun r1 ρ1 ⟨d1, e1, h1⟩ v1 F1 H1 s1 w1 ok1 g1 => ⟨ρ1, _, h1, F1, ok1, fun d2 ρ2 h2 v2 F2 H2 s2 w2 ok2 r2 => ⟨_, _, rfl, by
      subst e1
      have r1 : R X.K F1 ρ1.ws v1 d1 := g1
      have ok3 := ok2.put (i := i) (v := v1) (r := .v d1) (show R X.K F2 ρ2.ws v1 d1 by rw [w2]; exact r1.mo s2)
      have ok4 := ok3.put (i := j) (v := v2) (r := .v d2) r2
      exact hn _ h2 _ F2 H2 (s1.trans s2) (mem_eq (w2.trans w1)) ok4⟩⟩⟩
end own
/-! ### streams of drawn numbers -/
section strm
variable {X : Cx} {T : List (Addr × Str)} {A : Anc} {ρ : Ev} {a b c e : Expr} {pos p : Pos} {O : DO} {C : CD} {x : Str} {i : Nat}
/-- what each place of a stream may hold -/
def StP (g : Nat) (k : Int) (n : Int) : Prop := 0 ≤ n ∧ (k = 1 → n < (big : Int)) ∧ (k = 2 → n + (g : Int) ≤ (big : Int))
def strmD : D → D → CD → Ev → Prop
  | .strm, .int k, C, ρ => (k = 0 ∨ k = 1 ∨ k = 2) ∧ ∀ n, StP ρ.g k n → C (.int n) ρ
  | _, _, _, _ => False
theorem lk_strm : Lk X T A (rIx X.K) strmD := by
  intro d1 d2 C F H σ ρ x y Q h ok r1 r2 q
  unfold strmD at h
  split at h
  · cases r2
    cases r1 with
    | strm m =>
      obtain ⟨hk, h⟩ := h
      obtain ⟨⟨c, m1, n, e, h1, h2, h3, h4, h5⟩, _⟩ := ok.strm _ m
      rcases hk with rfl | rfl | rfl
      · exact .inl ⟨_, _, _, .int c, rfl, rfl, .of e, rfl, q _ _ (h c ⟨h1, by omega, by omega⟩) _ F H (Same.refl _) rfl ok (.int _)⟩
      · exact .inl ⟨_, _, _, .int m1, rfl, rfl, .of e, rfl, q _ _ (h m1 ⟨h2, by omega, by omega⟩) _ F H (Same.refl _) rfl ok (.int _)⟩
      · exact .inl ⟨_, _, _, .int n, rfl, rfl, .of e, rfl, q _ _ (h n ⟨h4, by omega, by omega⟩) _ F H (Same.refl _) rfl ok (.int _)⟩
  · exact h.elim
theorem de_strm (h : In2 X T A ρ a b strmD C) (hs : PlainIx b := by exact fun _ _ => rfl) : DE X T A ρ (.Subscript a b pos) C := DE.of (pe_ix ix_seq pe_go pe_go hs) (go2 lk_strm h)
/-- the stream at ad is written: fuel g' is left -/
theorem Ok.strmUpd {K : PySem.W.Frag} {F H : Hp} {σ : L2.St} {ad : Addr} {xs : List V} {g' : Nat} (ok : Ok K T A F H σ ρ) (m : ad ∈ ρ.ws) (hg : g' ≤ ρ.g) (e0 : ∃ ys, H ad = some (.lst ys)) (st : Strm (upd H ad (.lst xs)) g' ad) : Ok K T A F (upd H ad (.lst xs)) σ (ρ.gas g') := by
  obtain ⟨ys, e0⟩ := e0
  have hF := (ok.strm ad m).2
  refine ⟨ok.sub0, fun b x q => ?_, fun b o q n w => ?_, ok.apart, fun b n => ?_, ⟨fun p hp => ?_, ok.tabs.2⟩, ok.wsub, ok.wnew, fun b w => ?_, ok.slots, ok.ownS, fun p b bs q => ?_, ok.dist, ok.len⟩
  · rw [upd_ne (ne_of_none q hF)]
    exact ok.sub _ _ q
  · have hb : b ≠ ad := fun z => by
      rcases ok.wnew ad m with h | h
      · exact w (by rw [z]; exact h)
      · rw [z, h] at q; cases q
    rw [upd_ne hb]
    exact ok.keep b o q n w
  · by_cases hb : b = ad
    · rw [hb, upd_same]; simp
    · rw [upd_ne hb]; exact ok.there b n
  · obtain ⟨ps, e1, e2, e3⟩ := ok.tabs.1 p hp
    refine ⟨ps, ?_, e2, fun pos cv q => ?_⟩
    · rw [upd_ne (ne_of e1 e0 (by intro z; cases z))]
      exact e1
    · obtain ⟨c, e4, e5⟩ := e3 pos cv q
      refine ⟨c, e4, ?_⟩
      rw [upd_ne (ne_of e5 e0 (by intro z; cases z))]
      exact e5
  · by_cases hb : b = ad
    · rw [hb]
      exact ⟨st, hF⟩
    · obtain ⟨⟨c, m1, n, q, z1, z2, z3, z4, z5⟩, n2⟩ := ok.strm b w
      refine ⟨⟨c, m1, n, ?_, z1, z2, z3, z4, ?_⟩, n2⟩
      · rw [upd_ne hb]; exact q
      · show n + (g' : Int) ≤ _
        omega
  · obtain ⟨q1, q2, q3, us, q4, q5⟩ := ok.owns p b bs q
    refine ⟨q1, q2, q3, us, ?_, q5⟩
    rw [upd_ne (fun z : b = ad => q2 (by rw [z]; exact m))]
    exact q4
/-- stream[k] = a number -/
def stGo (C : Ev → Prop) (d : D) : D → Ev → Prop
  | .int k, ρ => ∃ n g', d = .int n ∧ (k = 0 ∨ k = 1 ∨ k = 2) ∧ g' ≤ ρ.g ∧ StP g' k n ∧ C (ρ.gas g')
  | _, _ => False
theorem dg_strm {vs : List Nat} {d : D} {C : Ev → Prop} (h : DE X T A ρ a (fun d1 ρ1 => d1 = .strm ∧ DE X T A ρ1 b (fun d2 ρ2 => stGo C d d2 ρ2)))
    (ha : ∀ v, assign (.Subscript a b pos) X.env v = (do
      let ov ← holding [v] (eval a X.env)
      let iv ← holding [v, ov] (eval b X.env)
      standAt pos
      holding [v, ov, iv] (setItem ov iv v)
      release [v, ov, iv] []) := by intro _; rfl) : DG X T A vs ρ (.Subscript a b pos) d C :=
  ⟨⟨fun pins s σ H v u Q I r ⟨F, ok, rr, q⟩ => (pg_sub (pe_go (T := T) (A := A)) (pe_go (T := T) (A := A)) set_list ha).run pins s σ H v u Q I r (by
    refine ⟨ρ, _, h, F, ok, fun d1 ρ1 ⟨e1, h1⟩ v1 F1 H1 s1 w1 ok1 r1 => ⟨ρ1, _, h1, F1, ok1, fun d2 ρ2 h2 v2 F2 H2 s2 w2 ok2 r2 => ?_⟩⟩
    subst e1
    cases r1 with
    | strm m =>
      rename_i ad
      replace h2 : stGo C d d2 ρ2 := h2
      unfold stGo at h2
      split at h2
      · cases r2
        rename_i k
        obtain ⟨n, g', rfl, hk, hg, sp, c⟩ := h2
        cases rr
        have m2 : ad ∈ ρ2.ws := by rw [w2]; exact m
        obtain ⟨⟨c0, m1, n1, e, h1, h2, h3, h4, h5⟩, _⟩ := ok2.strm ad m2
        obtain ⟨p1, p2, p3⟩ := sp
        rcases hk with rfl | rfl | rfl
        · refine ⟨ad, _, 0, 0, rfl, rfl, e, rfl, q _ c σ F2 _ (s1.trans s2) (w2.trans w1) rfl (ok2.strmUpd m2 hg ⟨_, e⟩ ⟨n, m1, n1, upd_same, p1, h2, h3, h4, by omega⟩)⟩
        · refine ⟨ad, _, 1, 1, rfl, rfl, e, rfl, q _ c σ F2 _ (s1.trans s2) (w2.trans w1) rfl (ok2.strmUpd m2 hg ⟨_, e⟩ ⟨c0, n, n1, upd_same, h1, p1, p2 rfl, h4, by omega⟩)⟩
        · refine ⟨ad, _, 2, 2, rfl, rfl, e, rfl, q _ c σ F2 _ (s1.trans s2) (w2.trans w1) rfl (ok2.strmUpd m2 hg ⟨_, e⟩ ⟨c0, m1, n, upd_same, h1, h2, h3, p1, p3 rfl⟩)⟩
      · exact h2.elim)⟩⟩
end strm
/-! ### a def, by its body -/
def bodyO (ws : List Addr) (C : Out → Prop) : DO where
  nx := fun ρ => C (.ret .non ρ.g)
  rt := fun r ρ => match r with
    | .v d => (ρ.ws = ws ∨ ∃ b, d = .bl b) ∧ C (.ret d ρ.g)
    | .l _ ds => ρ.ws = ws ∧ C (.new ds ρ.g)
    | .b _ c => ρ.ws = ws ∧ C (.newB c ρ.g)
def excO (C : Out → Prop) : XC := fun c fs g => C (.exc c fs g)
def pad (ds : List D) (n : Nat) : List Sl := ds.map .dat ++ List.replicate n .non
theorem pad_slots {K : PySem.W.Frag} {F : Hp} {ws : List Addr} {vs : List V} {ds : List D} (r : Rs K F ws vs ds) {i : Nat} {d : D} {n : Nat} {l : L2.St} (h : (pad ds n)[i]? = some (.dat d)) : ∃ v, (vs.map some ++ l)[i]? = some (some v) ∧ R K F ws v d := by
  unfold pad at h
  by_cases hi : i < ds.length
  · rw [List.getElem?_append_left (by rw [List.length_map]; exact hi), List.getElem?_map] at h
    obtain ⟨d', e, q⟩ := Option.map_eq_some_iff.mp h
    cases q
    obtain ⟨v, e1, r1⟩ := r.get e
    refine ⟨v, ?_, r1⟩
    rw [List.getElem?_append_left (by rw [List.length_map, r.len]; exact hi), List.getElem?_map, e1]
    rfl
  · rw [List.getElem?_append_right (by rw [List.length_map]; omega), List.getElem?_replicate] at h
    split at h <;> cases h
theorem pad_own {ds : List D} {i n : Nat} {a : Addr} {es : List D} : (pad ds n)[i]? ≠ some (.own a es) := by
  intro h
  unfold pad at h
  by_cases hi : i < ds.length
  · rw [List.getElem?_append_left (by rw [List.length_map]; exact hi), List.getElem?_map] at h
    obtain ⟨d', e, q⟩ := Option.map_eq_some_iff.mp h
    cases q
  · rw [List.getElem?_append_right (by rw [List.length_map]; omega), List.getElem?_replicate] at h
    split at h <;> cases h
theorem pad_bx {ds : List D} {i n : Nat} {x : Addr × Con} : ownOf (pad ds n)[i]? ≠ some x := by
  intro h
  obtain ⟨s, h, e⟩ := ownOf_bx (a := x.1) (c := x.2) h
  unfold pad at h
  by_cases hi : i < ds.length
  · rw [List.getElem?_append_left (by rw [List.length_map]; exact hi), List.getElem?_map] at h
    obtain ⟨d', e', q⟩ := Option.map_eq_some_iff.mp h
    cases q
    cases e
  · rw [List.getElem?_append_right (by rw [List.length_map]; omega), List.getElem?_replicate] at h
    split at h
    · cases h
      cases e
    · cases h
theorem pad_len {K : PySem.W.Frag} {F : Hp} {ws : List Addr} {vs : List V} {ds : List D} {N : List Str} (r : Rs K F ws vs ds) : (pad ds (N.length - ds.length)).length ≤ (L2.start N vs).length := by
  have := r.len
  unfold pad L2.start
  rw [List.length_append, List.length_append, List.length_map, List.length_map, List.length_replicate, List.length_replicate]
  omega
theorem Ok.padded {K : PySem.W.Frag} {T : List (Addr × Str)} {A : Anc} {F H : Hp} {ws : List Addr} {g : Nat} {vs : List V} {ds : List D} {N : List Str} (ok : Ok K T A F H [] (.bare ws g)) (r : Rs K F ws vs ds) : Ok K T A F H (L2.start N vs) ⟨pad ds (N.length - ds.length), [], ws, g⟩ := by
  refine ⟨ok.sub0, ok.sub, ok.keep, ok.apart, ok.there, ok.tabs, ok.wsub, ok.wnew, ok.strm, fun i d e => pad_slots r e, fun i a c e => absurd e pad_bx, fun p a es e => ?_, fun p q a es es' e => ?_, pad_len r⟩
  · cases p with
    | inl i => exact absurd e pad_bx
    | inr j => cases e
  · cases p with
    | inl i => exact absurd e pad_bx
    | inr j => cases e
section okd
variable {P : Program} {w : World} {K : PySem.W.Frag} {mg : Str → Option Value} {base : Heap} {T : List (Addr × Str)}
abbrev bodyCx (P : Program) (w : World) (K : PySem.W.Frag) (mg : Str → Option Value) (base : Heap) (N : List Str) (qual : Str) (st : Stmt) (f : Addr) (cdv : Value) (A : Around) (outer : List Env) (s : Shared) (H : Hp) (E : XK) : Cx :=
  cxOf (L2.CX P w) P w K mg base N qual (defScope st) f cdv A outer s H E
theorem okD {x qual : Str} {st : Stmt} {f : Addr} {fd : FuncData} {N ps : List Str} {k : Nat} {M : DF} (F : Fun K x qual st f fd) (S : FnScope N ps (defScope st)) (len : ∀ ds g C, M ds g C → ds.length = ps.length)
    (hbody : ∀ (cdv : Value) (A : Around) (outer : List Env) (s : Shared) (H : Hp) (E : XK) (An : Anc) (ds : List D) (g : Nat) (C : Out → Prop), Room k (A.deeper (PyProof.Rows.envOfC qual (defScope st) s.heap.objs.size f cdv)) →
      Takes (bodyCx P w K mg base N qual st f cdv A outer s H E) (WD K T An (excO C)) → M ds g C →
      DSs (bodyCx P w K mg base N qual st f cdv A outer s H E) T An ⟨pad ds (N.length - ds.length), [], An.ws, g⟩ (defBody st) (bodyO An.ws C)) : FnOk P w K mg base (L2.CX P w) (k + 1) f fd ps (spD K T M) := by
  refine F.okX S (fun vs H Q E h => ?_) (fun cdv A outer s H vs Q E hr h => ?_)
  · obtain ⟨F', ws, ds, g, C, ok, r, h, _⟩ := h
    rw [r.len]
    exact len _ _ _ h
  · obtain ⟨F', ws, ds, g, C, ok, r, h, h1, h2, h2b, h3⟩ := h
    have tk : Takes (bodyCx P w K mg base N qual st f cdv A outer s H E) (WD K T ⟨F', H, ws⟩ (excO C)) :=
      (takes_of rfl rfl rfl rfl).imp fun cls d σ H' ⟨c, dx, fs, xs, g', F2, e1, e2, ok2, hx, rf, hc⟩ => by
        subst e1
        subst e2
        exact h3 c fs g' hc dx xs F2 H' ok2 hx rf
    have hb := hbody cdv A outer s H E ⟨F', H, ws⟩ ds g C hr tk h
    refine ⟨_, hb.pe, F', ?_, fun ρ' c σ' F2 H2 s2 w2 ok2 => ?_, fun rv ρ' c v σ' F2 H2 ok2 gv => ?_, fun ρ' c => c.elim, fun ρ' c => c.elim⟩
    · exact ok.padded r
    · exact h1 _ _ c .non F2 H2 ok2.drop .non
    · cases rv with
      | v d =>
        obtain ⟨hw, c⟩ := c
        refine h1 _ _ c v F2 H2 ok2.drop ?_
        rcases hw with hw | ⟨b, rfl⟩
        · have gv' : R K F2 ρ'.ws v d := gv
          rw [hw] at gv'
          exact gv'
        · cases (show R K F2 ρ'.ws v (.bl b) from gv)
          exact .bl _
      | l a es =>
        obtain ⟨hw, c⟩ := c
        obtain ⟨rfl, _⟩ := id gv
        exact h2 _ _ c a F2 H2 ok2.drop (gv.bare hw)
      | b a cc =>
        obtain ⟨hw, c⟩ := c
        obtain ⟨rfl, _⟩ := id gv
        exact h2b _ _ c a F2 H2 ok2.drop (gv.bare hw)
end okd
end DL
end

section
/-! isinstance of a function of the text. -/
namespace PySem
open Sem (wp)
namespace FnT
theorem slot_ga : Slot "function" "__getattribute__" "object.__getattribute__" :=
  .of (owner := "object") (n := "__getattribute__") (by rw [typeLookup_type, builtinLookup_eq_fast]; kernel_rfl) (by decide +kernel) (by decide +kernel) (by decide +kernel)
    (by first | exact .inl (by decide +kernel) | exact .inr (by decide +kernel)) (by rw [isSubtype_type]; kernel_rfl)
theorem lk_class : typeLookup (.type "function") "__class__" = pure (some (.builtin "object.__class__")) := by rw [typeLookup_type, builtinLookup_eq_fast]; kernel_rfl
theorem sub_class_owner : isSubtype (.type "function") (.type (".".intercalate ("object.__class__".cutAt '.').dropLast)) = pure true := by
  rw [F.owner_object_class, isSubtype_type]; kernel_rfl
section
variable {prog : Program} {w : World} {A : Around} {E : Value → Shared → Prop} {h : Heap} {g : Array GenState} {d : Drawn} {t : Nat} {os : OsState} {a : Addr} {o : Obj}
theorem class_get {R : Result → Shared → Prop} (hx : h.get? a = some o) (hc : o.cls = .type "function") (hq : R (.ok (.ret (.type "function"))) ⟨h, g, d, t, os⟩) :
    codeAny (model prog w) A (.call (.builtin "getset_descriptor.__get__") ⟨[.builtin "object.__class__", .ref a, .type "function"], []⟩) R ⟨h, g, d, t, os⟩ := by
  have hT : (⟨h, g, d, t, os⟩ : Shared).TypeIs (.ref a) "function" := ⟨_, hx, hc⟩
  have hT5 : (⟨h, g, d, t, os⟩ : Shared).TypeIs (.builtin "object.__class__") "getset_descriptor" := F.typeOf_object_class
  have f8 := sub_class_owner
  refine codeAny_call_builtin F.slot_gs_get.plain F.entry_gs_get (F.slot_gs_get.check _ _ _ _ _ _ _ _ hT5 (F.args_gs_get _ _ _) ?_)
  repeat (any_goals (first | assumption | wp_step))
  refine ⟨Code.quiet_builtin _ (by decide +kernel), codeAny_builtin F.entry_object_class ?_⟩
  repeat (any_goals (first | assumption | wp_step))
theorem class_entry {tk : Tok} {Q : Fin → Shared → Prop} (hx : h.get? a = some o) (hc : o.cls = .type "function") (hq : Q (.done (.ret (.type "function"))) ⟨h, g, d, t, os⟩) :
    wpAny (model prog w) A (Builtin.«object.__getattribute__» ⟨[.ref a, .str "__class__" tk], []⟩) Q E ⟨h, g, d, t, os⟩ := by
  have hT : (⟨h, g, d, t, os⟩ : Shared).TypeIs (.ref a) "function" := ⟨_, hx, hc⟩
  have hT5 : (⟨h, g, d, t, os⟩ : Shared).TypeIs (.builtin "object.__class__") "getset_descriptor" := F.typeOf_object_class
  have f4 := lk_class
  have f5 := F.typeOf_object_class
  have f6 := F.slot_gs_get.lookup
  have f7 := F.slot_gs_set.lookup
  repeat (any_goals (first | assumption | wp_step))
  refine class_get hx hc ?_
  repeat (any_goals (first | assumption | wp_step))
theorem class_call {tk : Tok} {R : Result → Shared → Prop} (hx : h.get? a = some o) (hc : o.cls = .type "function") (hq : R (.ok (.ret (.type "function"))) ⟨h, g, d, t, os⟩) :
    codeAny (model prog w) A (.call (.builtin "object.__getattribute__") ⟨[.ref a, .str "__class__" tk], []⟩) R ⟨h, g, d, t, os⟩ :=
  codeAny_call_builtin slot_ga.plain F.entry_object_getattribute (slot_ga.check _ _ _ _ _ _ _ _ (show (⟨h, g, d, t, os⟩ : Shared).TypeIs (.ref a) "function" from ⟨_, hx, hc⟩) (F.args_object_getattribute_2 _ _) (class_entry hx hc hq))
theorem class_by {tk : Tok} {Q : Value → Shared → Prop} (hx : h.get? a = some o) (hc : o.cls = .type "function") (hq : Q (.type "function") ⟨h, g, d, t, os⟩) : wpAny (model prog w) A (getAttrBy (.ref a) (.str "__class__" tk) false) Q E ⟨h, g, d, t, os⟩ := by
  have hT : (⟨h, g, d, t, os⟩ : Shared).TypeIs (.ref a) "function" := ⟨_, hx, hc⟩
  have f2 := slot_ga.lookup
  have f3 := slot_ga.bind (.ref a)
  repeat (any_goals (first | assumption | wp_step))
  refine class_call hx hc ?_
  repeat (any_goals (first | assumption | wp_step))
theorem class_attr {Q : Option Value → Shared → Prop} (hx : h.get? a = some o) (hc : o.cls = .type "function") (hq : Q (some (.type "function")) ⟨h, g, d, t + 1, os⟩) : wpAny (model prog w) A (getAttr? (.ref a) "__class__") Q E ⟨h, g, d, t, os⟩ := by
  unfold getAttr? getAttrBy?
  repeat (any_goals (first | assumption | with_reducible apply class_by hx hc | wp_step))
end
theorem kitx_fn {K : W.Frag} {a : Addr} : W.KitX K (.ref a) (.type "function") (W.KitAt a "function") := W.kitx_of W.kitAt_ty (fun {_ _ _ _ _ s} p k => by obtain ⟨h, g, d, t, os⟩ := s; obtain ⟨o, h1, h2⟩ := p; exact class_attr h1 h2 k)
end FnT
end PySem

namespace DL
open PySem PySem.Spec L2
/-- a value's type, functions of the text too -/
def TyZ (K : PySem.W.Frag) (H : Hp) (x : V) (t : Value) : Prop := TyX K H x t ∨ ∃ (a : Addr) (o : Obj), x = .ref a ∧ t = .type "function" ∧ K.lookup a = some o ∧ o.cls = .type "function"
theorem kit_ofZ {X : Cx} {pins : List (Addr × Obj)} {σ : L2.St} {H : Hp} {s : Shared} {x : V} {u t : Value} (I : Inv X pins σ H s) (rx : RelV x u) (ty : TyZ X.K H x t) : ∃ P : Heap → Prop, PySem.W.KitX X.K u t P ∧ P s.heap ∧ u ≠ .builtin "__main__.__loader__#opaque" := by
  rcases ty with ty | ⟨a, o, rfl, rfl, e, c⟩
  · exact kit_of I rx ty
  · obtain rfl : u = Value.ref a := rx
    exact ⟨_, PySem.FnT.kitx_fn, ⟨o, I.kIn a o e, c⟩, fun z => nomatch z⟩
def rIsiZ (K : PySem.W.Frag) : List V → Hp → VK → Prop := fun xs H Q => ∃ (x c : V) (t u : Value) (b : Bool), xs = [x, c] ∧ ClsV c u ∧ TyZ K H x t ∧ PySem.W.kitOne K t u = some b ∧ Q (.bl b) H
def rIsiTZ (K : PySem.W.Frag) : List V → Hp → VK → Prop := fun xs H Q => ∃ (x : V) (tp : Addr) (cs : List V) (t : Value) (us : List Value) (b : Bool), xs = [x, .ref tp] ∧ H tp = some (.tup cs) ∧ Paired ClsV cs us ∧ TyZ K H x t ∧ PySem.W.kitAny K t us = some b ∧ Q (.bl b) H
theorem call_isiZ {X : Cx} : CallR X (.builtin "isinstance") (rIsiZ X.K) := by
  intro pins s σ H xs us Q I r h
  obtain ⟨x, c, t, u, b, rfl, k, ty, e, q⟩ := h
  obtain ⟨u1, u2, rfl, r1, r2⟩ := vals2 r
  have e2 := k.eq r2
  subst e2
  obtain ⟨P, Z, p, hx⟩ := kit_ofZ I r1 ty
  exact PySem.W.kia_one Z I.kIn p e hx fun tk => ⟨.bl b, H, I.tok tk, rfl, q⟩
theorem call_isiTZ {X : Cx} : CallR X (.builtin "isinstance") (rIsiTZ X.K) := by
  intro pins s σ H xs us Q I r h
  obtain ⟨x, tp, cs, t, ws, b, rfl, hT, k, ty, e, q⟩ := h
  obtain ⟨u1, u2, rfl, r1, r2⟩ := vals2 r
  cases (show u2 = Value.ref tp from r2)
  obtain ⟨P, Z, p, hx⟩ := kit_ofZ I r1 ty
  obtain ⟨_, its, rv, o, h1, h2, n, h3⟩ := (show ObjOk X.prog X.w H s.heap tp (.tup cs) from I.hok tp _ hT)
  have e3 := ClsV.all k rv
  subst e3
  obtain ⟨oc, od, dt, sl⟩ := o
  simp only at h2 h3
  subst h2 h3
  exact PySem.W.kia_tup Z I.kIn p h1 e hx fun tk => ⟨.bl b, H, I.tok tk, rfl, q⟩
end DL
end

section
namespace DL
open PySem PySem.Spec L2
section blt
variable {X : Cx} {T : List (Addr × Str)} {A : Anc} {ρ : Ev} {a b c e : Expr} {es rest : List Expr} {pos p : Pos} {C : CV}
/-- len of a dict, locked or not -/
theorem call_lenR : CallR X (.builtin "len") (fun xs H Q => ∃ a kvs, xs = [V.ref a] ∧ Rd H a (.dK kvs) ∧ Q (.int kvs.length) H) := by
  intro pins s σ H xs us Q I r h
  obtain ⟨a, kvs, rfl, ha, q⟩ := h
  obtain ⟨u, rfl, ru⟩ := vals1 r
  cases ru
  exact d_len I ha fun t s' I' => ⟨.int kvs.length, H, I', ⟨t, rfl⟩, q⟩
theorem lkc_len : LkC X T A (fun xs H Q => (∃ x n, xs = [x] ∧ LenV X.K x H n ∧ Q (.int n) H) ∨ ∃ a kvs, xs = [V.ref a] ∧ Rd H a (.dK kvs) ∧ Q (.int kvs.length) H) lenD := by
  intro ds C F H σ ρ xs Q h ok r0 q
  unfold lenD at h
  split at h
  · obtain ⟨v, rfl, r⟩ := r0.one
    cases r
    exact .inl ⟨_, _, rfl, ⟨h.1, rfl⟩, q _ _ h.2 _ F H (Same.refl _) rfl ok (.int _)⟩
  · obtain ⟨v, rfl, r⟩ := r0.one
    cases r with
    | dK h1 t => exact .inr ⟨_, _, rfl, .inr ⟨_, ok.sub _ _ h1⟩, q _ _ h _ F H (Same.refl _) rfl ok (by rw [t.len]; exact .int _)⟩
  · obtain ⟨v, rfl, r⟩ := r0.one
    obtain ⟨ds, e, h⟩ := h
    obtain ⟨p, us, rfl, hs, t⟩ := seq_of ok.sub r e
    rcases hs with hs | hs
    · exact .inl ⟨_, us.length, rfl, .inl ⟨us, hs, rfl⟩, q _ _ h _ F H (Same.refl _) rfl ok (by rw [t.len]; exact .int _)⟩
    · exact .inl ⟨_, us.length, rfl, .inr ⟨us, hs, rfl⟩, q _ _ h _ F H (Same.refl _) rfl ok (by rw [t.len]; exact .int _)⟩
  · exact h.elim
theorem dv_len (hm : X.mg "len" = none) (h : DA X T A ρ (e :: es) (fun ds ρ1 => lenD ds C ρ1)) (hg : Gl X "len" := by rfl) (he : starEach (e :: es) X.env = (false, eval e X.env) :: starEach es X.env := by rfl) (hpl : (backTo pos (starEach es X.env)).any (·.1) = false := by rfl) : DV X T A ρ (.Call (.Name "len" p) (e :: es) [] pos) C :=
  dv_callB (call_len.or call_lenR) lkc_len hm PySem.boot_len h hg (by decide) (by decide) he hpl
def absD : List D → CV → Ev → Prop
  | [.int i], C, ρ => C (.v (.int (if i < 0 then -i else i))) ρ
  | _, _, _ => False
theorem dv_abs (hm : X.mg "abs" = none) (h : DA X T A ρ (e :: es) (fun ds ρ1 => absD ds C ρ1)) (hg : Gl X "abs" := by rfl) (he : starEach (e :: es) X.env = (false, eval e X.env) :: starEach es X.env := by rfl) (hpl : (backTo pos (starEach es X.env)).any (·.1) = false := by rfl) : DV X T A ρ (.Call (.Name "abs" p) (e :: es) [] pos) C :=
  dv_callB call_abs (by
    intro ds C F H σ ρ xs Q h ok r0 q
    unfold absD at h
    split at h
    · obtain ⟨v, rfl, r⟩ := r0.one
      cases r
      exact ⟨_, rfl, q _ _ h _ F H (Same.refl _) rfl ok (.int _)⟩
    · exact h.elim) hm (by decide +kernel) h hg (by decide) (by decide) he hpl
def intD : List D → CV → Ev → Prop
  | [.int i], C, ρ => C (.v (.int i)) ρ
  | [.bl k], C, ρ => C (.v (.int (if k then 1 else 0))) ρ
  | _, _, _ => False
theorem dv_int (hm : X.mg "int" = none) (h : DA X T A ρ (e :: es) (fun ds ρ1 => intD ds C ρ1)) (hg : Gl X "int" := by rfl) (he : starEach (e :: es) X.env = (false, eval e X.env) :: starEach es X.env := by rfl) (hpl : (backTo pos (starEach es X.env)).any (·.1) = false := by rfl) : DV X T A ρ (.Call (.Name "int" p) (e :: es) [] pos) C :=
  dv_callTy call_int1 (by
    intro ds C F H σ ρ xs Q h ok r0 q
    unfold intD at h
    split at h
    · obtain ⟨v, rfl, r⟩ := r0.one
      cases r
      exact .inl ⟨_, rfl, q _ _ h _ F H (Same.refl _) rfl ok (.int _)⟩
    · obtain ⟨v, rfl, r⟩ := r0.one
      cases r
      exact .inr ⟨_, rfl, q _ _ h _ F H (Same.refl _) rfl ok (.int _)⟩
    · exact h.elim) hm (by decide +kernel) h hg (by decide) (by decide) he hpl
def boolD : List D → CV → Ev → Prop
  | [.int i], C, ρ => C (.v (.bl (i != 0))) ρ
  | [.bl k], C, ρ => C (.v (.bl k)) ρ
  | _, _, _ => False
theorem dv_bool (hm : X.mg "bool" = none) (h : DA X T A ρ (e :: es) (fun ds ρ1 => boolD ds C ρ1)) (hg : Gl X "bool" := by rfl) (he : starEach (e :: es) X.env = (false, eval e X.env) :: starEach es X.env := by rfl) (hpl : (backTo pos (starEach es X.env)).any (·.1) = false := by rfl) : DV X T A ρ (.Call (.Name "bool" p) (e :: es) [] pos) C :=
  dv_callTy call_bool1 (by
    intro ds C F H σ ρ xs Q h ok r0 q
    unfold boolD at h
    split at h
    · obtain ⟨v, rfl, r⟩ := r0.one
      cases r
      exact .inl ⟨_, rfl, q _ _ h _ F H (Same.refl _) rfl ok (.bl _)⟩
    · obtain ⟨v, rfl, r⟩ := r0.one
      cases r
      exact .inr ⟨_, rfl, q _ _ h _ F H (Same.refl _) rfl ok (.bl _)⟩
    · exact h.elim) hm (by decide +kernel) h hg (by decide) (by decide) he hpl
/-- max, min: of two ints, of a list of ints -/
def maxD : List D → CV → Ev → Prop
  | [.int i, .int j], C, ρ => C (.v (.int (if j > i then j else i))) ρ
  | [d], C, ρ => ∃ ns : List Int, seqL d = some (ns.map D.int) ∧ 0 < ns.length ∧ ∀ m, m ∈ ns → (∀ y, y ∈ ns → y ≤ m) → C (.v (.int m)) ρ
  | _, _, _ => False
def minD : List D → CV → Ev → Prop
  | [.int i, .int j], C, ρ => C (.v (.int (if j < i then j else i))) ρ
  | [d], C, ρ => ∃ ns : List Int, seqL d = some (ns.map D.int) ∧ 0 < ns.length ∧ ∀ m, m ∈ ns → (∀ y, y ∈ ns → m ≤ y) → C (.v (.int m)) ρ
  | _, _, _ => False
theorem dv_max (hc : X.calm = true) (hm : X.mg "max" = none) (h : DA X T A ρ (e :: es) (fun ds ρ1 => maxD ds C ρ1)) (hg : Gl X "max" := by rfl) (he : starEach (e :: es) X.env = (false, eval e X.env) :: starEach es X.env := by rfl) (hpl : (backTo pos (starEach es X.env)).any (·.1) = false := by rfl) : DV X T A ρ (.Call (.Name "max" p) (e :: es) [] pos) C :=
  dv_callB ((call_max2 hc).or (cr_max hc)) (by
    intro ds C F H σ ρ xs Q h ok r0 q
    unfold maxD at h
    split at h
    · obtain ⟨v, u, rfl, r1, r2⟩ := r0.two
      cases r1
      cases r2
      exact .inl ⟨_, _, rfl, q _ _ h _ F H (Same.refl _) rfl ok (.int _)⟩
    · obtain ⟨v, rfl, r⟩ := r0.one
      obtain ⟨ns, e, h1, h2⟩ := h
      obtain ⟨p, us, rfl, hs, t⟩ := seqL_of ok.sub r e
      have e2 := t.ints
      subst e2
      exact .inr ⟨p, ns, rfl, hs, h1, fun m m1 m2 => q _ _ (h2 m m1 m2) _ F H (Same.refl _) rfl ok (.int _)⟩
    · exact h.elim) hm (by decide +kernel) h hg (by decide) (by decide) he hpl
theorem dv_min (hc : X.calm = true) (hm : X.mg "min" = none) (h : DA X T A ρ (e :: es) (fun ds ρ1 => minD ds C ρ1)) (hg : Gl X "min" := by rfl) (he : starEach (e :: es) X.env = (false, eval e X.env) :: starEach es X.env := by rfl) (hpl : (backTo pos (starEach es X.env)).any (·.1) = false := by rfl) : DV X T A ρ (.Call (.Name "min" p) (e :: es) [] pos) C :=
  dv_callB ((call_min2 hc).or (cr_min hc)) (by
    intro ds C F H σ ρ xs Q h ok r0 q
    unfold minD at h
    split at h
    · obtain ⟨v, u, rfl, r1, r2⟩ := r0.two
      cases r1
      cases r2
      exact .inl ⟨_, _, rfl, q _ _ h _ F H (Same.refl _) rfl ok (.int _)⟩
    · obtain ⟨v, rfl, r⟩ := r0.one
      obtain ⟨ns, e, h1, h2⟩ := h
      obtain ⟨p, us, rfl, hs, t⟩ := seqL_of ok.sub r e
      have e2 := t.ints
      subst e2
      exact .inr ⟨p, ns, rfl, hs, h1, fun m m1 m2 => q _ _ (h2 m m1 m2) _ F H (Same.refl _) rfl ok (.int _)⟩
    · exact h.elim) hm (by decide +kernel) h hg (by decide) (by decide) he hpl
def sumD : List D → CV → Ev → Prop
  | [d], C, ρ => ∃ ns : List Int, seqL d = some (ns.map D.int) ∧ C (.v (.int ns.sum)) ρ
  | _, _, _ => False
theorem dv_sum (hc : X.calm = true) (hm : X.mg "sum" = none) (h : DA X T A ρ (e :: es) (fun ds ρ1 => sumD ds C ρ1)) (hg : Gl X "sum" := by rfl) (he : starEach (e :: es) X.env = (false, eval e X.env) :: starEach es X.env := by rfl) (hpl : (backTo pos (starEach es X.env)).any (·.1) = false := by rfl) : DV X T A ρ (.Call (.Name "sum" p) (e :: es) [] pos) C :=
  dv_callB (cr_sum hc) (by
    intro ds C F H σ ρ xs Q h ok r0 q
    unfold sumD at h
    split at h
    · obtain ⟨v, rfl, r⟩ := r0.one
      obtain ⟨ns, e, h2⟩ := h
      obtain ⟨p, us, rfl, hs, t⟩ := seqL_of ok.sub r e
      have e2 := t.ints
      subst e2
      exact ⟨p, ns, rfl, hs, q _ _ h2 _ F H (Same.refl _) rfl ok (.int _)⟩
    · exact h.elim) hm (by decide +kernel) h hg (by decide) (by decide) he hpl
def allD : List D → CV → Ev → Prop
  | [d], C, ρ => ∃ bs : List Bool, seqL d = some (bs.map D.bl) ∧ C (.v (.bl (bs.all id))) ρ
  | _, _, _ => False
def anyD : List D → CV → Ev → Prop
  | [d], C, ρ => ∃ bs : List Bool, seqL d = some (bs.map D.bl) ∧ C (.v (.bl (bs.any id))) ρ
  | _, _, _ => False
theorem dv_all (hc : X.calm = true) (hm : X.mg "all" = none) (h : DA X T A ρ (e :: es) (fun ds ρ1 => allD ds C ρ1)) (hg : Gl X "all" := by rfl) (he : starEach (e :: es) X.env = (false, eval e X.env) :: starEach es X.env := by rfl) (hpl : (backTo pos (starEach es X.env)).any (·.1) = false := by rfl) : DV X T A ρ (.Call (.Name "all" p) (e :: es) [] pos) C :=
  dv_callB (cr_all hc) (by
    intro ds C F H σ ρ xs Q h ok r0 q
    unfold allD at h
    split at h
    · obtain ⟨v, rfl, r⟩ := r0.one
      obtain ⟨ns, e, h2⟩ := h
      obtain ⟨p, us, rfl, hs, t⟩ := seqL_of ok.sub r e
      have e2 := t.bls
      subst e2
      exact ⟨p, ns, rfl, hs, q _ _ h2 _ F H (Same.refl _) rfl ok (.bl _)⟩
    · exact h.elim) hm (by decide +kernel) h hg (by decide) (by decide) he hpl
theorem dv_any (hc : X.calm = true) (hm : X.mg "any" = none) (h : DA X T A ρ (e :: es) (fun ds ρ1 => anyD ds C ρ1)) (hg : Gl X "any" := by rfl) (he : starEach (e :: es) X.env = (false, eval e X.env) :: starEach es X.env := by rfl) (hpl : (backTo pos (starEach es X.env)).any (·.1) = false := by rfl) : DV X T A ρ (.Call (.Name "any" p) (e :: es) [] pos) C :=
  dv_callB (cr_any hc) (by
    intro ds C F H σ ρ xs Q h ok r0 q
    unfold anyD at h
    split at h
    · obtain ⟨v, rfl, r⟩ := r0.one
      obtain ⟨ns, e, h2⟩ := h
      obtain ⟨p, us, rfl, hs, t⟩ := seqL_of ok.sub r e
      have e2 := t.bls
      subst e2
      exact ⟨p, ns, rfl, hs, q _ _ h2 _ F H (Same.refl _) rfl ok (.bl _)⟩
    · exact h.elim) hm (by decide +kernel) h hg (by decide) (by decide) he hpl
/-- tuple(xs), list(xs) -/
def tupD : List D → CV → Ev → Prop
  | [d], C, ρ => ∃ ds, seqD d = some ds ∧ C (.v (.tup ds)) ρ
  | _, _, _ => False
def lstD : List D → CV → Ev → Prop
  | [d], C, ρ => ∃ ds, seqD d = some ds ∧ ∀ a, C (.l a ds) ρ
  | _, _, _ => False
theorem dv_tuple (hm : X.mg "tuple" = none) (h : DA X T A ρ (e :: es) (fun ds ρ1 => tupD ds C ρ1)) (hg : Gl X "tuple" := by rfl) (he : starEach (e :: es) X.env = (false, eval e X.env) :: starEach es X.env := by rfl) (hpl : (backTo pos (starEach es X.env)).any (·.1) = false := by rfl) : DV X T A ρ (.Call (.Name "tuple" p) (e :: es) [] pos) C :=
  dv_callTy call_tuple_of (by
    intro ds C F H σ ρ xs Q h ok r0 q
    unfold tupD at h
    split at h
    · obtain ⟨v, rfl, r⟩ := r0.one
      obtain ⟨ds, e, h2⟩ := h
      cases r with
      | lst h t =>
        cases e
        refine ⟨_, _, rfl, .inl ⟨.of (ok.sub _ _ h), fun l hl => ?_⟩⟩
        obtain ⟨F2, s2, ok2, r2⟩ := ok.newT t hl
        exact q _ _ h2 _ F2 _ s2 rfl ok2 r2
      | kl h t =>
        cases e
        refine ⟨_, _, rfl, .inl ⟨sqL_mono ok.sub h, fun l hl => ?_⟩⟩
        obtain ⟨F2, s2, ok2, r2⟩ := ok.newT t hl
        exact q _ _ h2 _ F2 _ s2 rfl ok2 r2
      | tup h t => cases e; exact ⟨_, _, rfl, .inr ⟨sqT_mono ok.sub h, q _ _ h2 _ F H (Same.refl _) rfl ok (.tup h t)⟩⟩
      | _ => cases e
    · exact h.elim) hm (by decide +kernel) h hg (by decide) (by decide) he hpl
theorem dv_lst (hm : X.mg "list" = none) (h : DA X T A ρ (e :: es) (fun ds ρ1 => lstD ds C ρ1)) (hg : Gl X "list" := by rfl) (he : starEach (e :: es) X.env = (false, eval e X.env) :: starEach es X.env := by rfl) (hpl : (backTo pos (starEach es X.env)).any (·.1) = false := by rfl) : DV X T A ρ (.Call (.Name "list" p) (e :: es) [] pos) C :=
  dv_callTy call_list_of (by
    intro ds C F H σ ρ xs Q h ok r0 q
    unfold lstD at h
    split at h
    · obtain ⟨v, rfl, r⟩ := r0.one
      obtain ⟨ds, e, h2⟩ := h
      obtain ⟨p, us, rfl, hs, t⟩ := seq_of ok.sub r e
      refine ⟨p, us, rfl, hs, fun l hl => ?_⟩
      obtain ⟨ok2, g2⟩ := ok.mine hl t
      exact q _ _ (h2 l) _ F _ (Same.refl _) rfl ok2 g2
    · exact h.elim) hm (by decide +kernel) h hg (by decide) (by decide) he hpl
/-! ### isinstance -/
def tyN : D → Option String
  | .non => some "NoneType"
  | .bl _ => some "bool"
  | .int _ => some "int"
  | .str _ => some "str"
  | .lst _ => some "list"
  | .kl _ => some "list"
  | .tup _ => some "tuple"
  | .dK _ => some "dict"
  | .fn _ => some "function"
  | .obj _ _ => some "object"
  | _ => none
theorem kitB_obj : ∀ n ∈ blts, kitB "object" n = some false := by decide +kernel
theorem ty_of {K : PySem.W.Frag} {F H : Hp} {ws : List Addr} {v : V} {d : D} {m : String} (s : Same F H) (r : R K F ws v d) (e : tyN d = some m) : ∃ t, TyZ K H v t ∧ ∀ n b, n ∈ blts → kitB m n = some b → PySem.W.kitOne K t (.type n) = some b := by
  have ty : ∀ {m : String}, TyZ K H v (.type m) → ∃ t, TyZ K H v t ∧ ∀ n b, n ∈ blts → kitB m n = some b → PySem.W.kitOne K t (.type n) = some b := fun {m} h => ⟨_, h, fun n b _ e => kit_ty e⟩
  cases r with
  | non => cases e; exact ty <| .inl <| .base .non
  | bl b => cases e; exact ty <| .inl <| .base (.bl _)
  | int i => cases e; exact ty <| .inl <| .base (.int _)
  | str x => cases e; exact ty <| .inl <| .base (.str _)
  | lst h t => cases e; exact ty <| .inl <| .base (.lst (s _ _ h))
  | kl h t =>
    cases e
    rcases h with (h | ⟨o, h⟩) | ⟨o, its, n, h1, h2, h3⟩
    · exact ty <| .inl <| .base (.lst (s _ _ h))
    · exact ty <| .inl <| .base (.frz (s _ _ h))
    · exact ty <| .inl (.kList h1 h2)
  | tup h t =>
    cases e
    rcases h with (h | ⟨o, h⟩) | ⟨o, its, n, h1, h2, h3⟩
    · exact ty <| .inl <| .base (.tup (s _ _ h))
    · exact ty <| .inl (.fTuple (s _ _ h))
    · exact ty <| .inl (.kTuple h1 h2)
  | dK h t => cases e; exact ty <| .inl (.fDict (s _ _ h))
  | dT h t => cases e
  | obj hc h t =>
    cases e
    refine ⟨_, .inl (.base (.ins (s _ _ h) hc.cl hc.ha hc.hn hc.htk hc.hm)), fun n b hn e => ?_⟩
    rw [kitB_obj n hn] at e
    cases e
    exact hc.no n hn
  | @fn a h =>
    cases e
    have h1 : (K.lookup a).map (·.cls) = some (.type "function") := beq_iff_eq.mp h.1
    obtain ⟨o, h2, h3⟩ := Option.map_eq_some_iff.mp h1
    exact ty <| .inr ⟨a, o, rfl, rfl, h2, h3⟩
  | strm h => cases e
  | exc h t => cases e
  | ref => cases e
def isTy (d : D) (n : String) : Option Bool := (tyN d).bind fun m => kitB m n
def isTys (d : D) : List String → Option Bool
  | [] => some false
  | n :: ns => match isTy d n with
    | some true => some true
    | some false => isTys d ns
    | none => none
theorem isTy_kit {K : PySem.W.Frag} {d : D} {m n : String} {b : Bool} {t : Value} (h : isTy d n = some b) (e : tyN d = some m) (hn : n ∈ blts) (ht : ∀ n b, n ∈ blts → kitB m n = some b → PySem.W.kitOne K t (.type n) = some b) : PySem.W.kitOne K t (.type n) = some b := by
  unfold isTy at h
  rw [e] at h
  exact ht n b hn h
theorem isTys_kit {K : PySem.W.Frag} {d : D} {m : String} {t : Value} (e : tyN d = some m) (ht : ∀ n b, n ∈ blts → kitB m n = some b → PySem.W.kitOne K t (.type n) = some b) : ∀ {ns : List String} {b : Bool}, (∀ n ∈ ns, n ∈ blts) → isTys d ns = some b → PySem.W.kitAny K t (ns.map Value.type) = some b
  | [], b, _, h => by cases h; exact kitAny_nil
  | n :: ns, b, hn, h => by
    have h0 := hn n (List.mem_cons_self ..)
    have h1 : ∀ n ∈ ns, n ∈ blts := fun x m => hn x (List.mem_cons_of_mem _ m)
    unfold isTys at h
    split at h
    · cases h
      exact kitAny_cons (isTy_kit (by assumption) e h0 ht) (fun z => by cases z) fun _ => rfl
    · exact kitAny_cons (isTy_kit (by assumption) e h0 ht) (fun _ => isTys_kit e ht h1 h) fun z => by cases z
    · cases h
/-- the names of built-in types -/
inductive TyEs (X : Cx) : List Expr → List String → Prop where
  | nil : TyEs X [] []
  | cons {x : Str} {n : String} {p : Pos} {es : List Expr} {ns : List String} (hg : Gl X x) (hm : X.mg x = none) (hv : bootBuiltins x = some (.type n)) (hn : x ≠ "__name__") (hd : (x == ("__debug__" : Str)) = false) (hs : starEach (.Name x p :: es) X.env = (false, eval (.Name x p) X.env) :: starEach es X.env) (t : TyEs X es ns) : TyEs X (.Name x p :: es) (n :: ns)
theorem TyEs.pa : ∀ {es : List Expr} {ns : List String}, TyEs X es ns → PA X es (fun _ H Q => Q (ns.map V.ty) H)
  | _, _, .nil => pa_nil
  | _, _, .cons hg hm hv hn hd hs t => pa_cons (pe_bltn (v := .ty _) hg hm hv rfl hn hd) (TyEs.pa t) hs
theorem cls_all : ∀ ns : List String, Paired ClsV (ns.map V.ty) (ns.map Value.type)
  | [] => .nil
  | n :: ns => .cons (.ty n) (cls_all ns)
def isD1 (n : String) (C : CD) (d : D) (ρ : Ev) : Prop := ∃ b, isTy d n = some b ∧ C (.bl b) ρ
def isDs (ns : List String) (C : CD) (d : D) (ρ : Ev) : Prop := ∃ b, isTys d ns = some b ∧ C (.bl b) ρ
variable {D' : CD}
theorem tyN_of {d : D} {n : String} {b : Bool} (h : isTy d n = some b) : ∃ m, tyN d = some m := by
  unfold isTy at h
  cases e : tyN d with
  | none => rw [e] at h; cases h
  | some m => exact ⟨m, rfl⟩
theorem bt_int : bootBuiltins "int" = some (.type "int") := by decide +kernel
theorem bt_bool : bootBuiltins "bool" = some (.type "bool") := by decide +kernel
theorem bt_str : bootBuiltins "str" = some (.type "str") := by decide +kernel
theorem bt_list : bootBuiltins "list" = some (.type "list") := by decide +kernel
theorem bt_tuple : bootBuiltins "tuple" = some (.type "tuple") := by decide +kernel
theorem bt_dict : bootBuiltins "dict" = some (.type "dict") := by decide +kernel
theorem de_isi {x : Str} {n : String} {p1 : Pos} (hv : bootBuiltins x = some (.type n)) (hmi : X.mg "isinstance" = none) (hm : X.mg x = none) (h : DE X T A ρ e (fun d ρ1 => isD1 n D' d ρ1)) (hg : Gl X x := by rfl) (hgi : Gl X "isinstance" := by rfl) (hn : x ≠ "__name__" := by decide) (hd : (x == ("__debug__" : Str)) = false := by decide) (hbl : n ∈ blts := by decide)
    (he : starEach [e, .Name x p1] X.env = (false, eval e X.env) :: starEach [.Name x p1] X.env := by rfl) (he2 : starEach [.Name x p1] X.env = (false, eval (.Name x p1) X.env) :: starEach [] X.env := by rfl) (hpl : (backTo pos (starEach [.Name x p1] X.env)).any (·.1) = false := by rfl) : DE X T A ρ (.Call (.Name "isinstance" p) [e, .Name x p1] [] pos) D' :=
  DE.of (pe_callB call_isiZ hgi hmi (by decide +kernel) (pa_cons pe_go (pa_cons (pe_bltn (v := .ty n) hg hm hv rfl hn hd) pa_nil he2) he) (by decide) (by decide) he hpl) fun σ H Q F ok q => ⟨ρ, _, h, F, ok, fun d ρ1 ⟨b, e1, c⟩ v F1 H1 s1 w1 ok1 r1 => by
    obtain ⟨m, e2⟩ := tyN_of e1
    obtain ⟨t, h1, h2⟩ := ty_of ok1.sub r1 e2
    exact ⟨v, .ty n, t, .type n, b, rfl, .ty n, h1, isTy_kit e1 e2 hbl h2, q _ _ c _ F1 H1 s1 w1 ok1 (.bl _)⟩⟩
theorem de_isis {tys : List Expr} {ns : List String} {k : Nat} {p1 : Pos} (hmi : X.mg "isinstance" = none) (ht : TyEs X tys ns) (hz : ns.length ≤ sizeLine) (hne : ns ≠ []) (h : DE X T A ρ e (fun d ρ1 => isDs ns D' d ρ1)) (hgi : Gl X "isinstance" := by rfl) (hbl : ∀ n ∈ ns, n ∈ blts := by decide)
    (he : starEach [e, .Tuple tys k p1] X.env = (false, eval e X.env) :: starEach [.Tuple tys k p1] X.env := by rfl) (he2 : starEach [.Tuple tys k p1] X.env = (false, eval (.Tuple tys k p1) X.env) :: starEach [] X.env := by rfl) (hpl : (backTo pos (starEach [.Tuple tys k p1] X.env)).any (·.1) = false := by rfl) : DE X T A ρ (.Call (.Name "isinstance" p) [e, .Tuple tys k p1] [] pos) D' :=
  DE.of (pe_callB call_isiTZ hgi hmi (by decide +kernel) (pa_cons pe_go (pa_cons (pe_tup ht.pa) pa_nil he2) he) (by decide) (by decide) he hpl) fun σ H Q F ok q => ⟨ρ, _, h, F, ok, fun d ρ1 ⟨b, e1, c⟩ v F1 H1 s1 w1 ok1 r1 => ⟨by rw [List.length_map]; exact hz, fun tp htp => by
    have e2 : ∃ m, tyN d = some m := by
      cases ns with
      | nil => exact absurd rfl hne
      | cons n ns =>
        unfold isTys at e1
        split at e1
        · exact tyN_of (by assumption)
        · exact tyN_of (by assumption)
        · cases e1
    obtain ⟨m, e2⟩ := e2
    have ok2 := ok1.grow (same_upd (o := .tup (ns.map V.ty)) htp)
    obtain ⟨t, h1, h2⟩ := ty_of (fun b o z => same_upd (o := .tup (ns.map V.ty)) htp _ _ (ok1.sub _ _ z)) r1 e2
    exact ⟨v, tp, ns.map V.ty, t, ns.map Value.type, b, rfl, upd_same, cls_all ns, h1, isTys_kit e2 h2 hbl e1, q _ _ c _ F1 _ s1 w1 ok2 (.bl _)⟩⟩⟩
/-! ### calls of a def that a slot holds; calls with keywords -/
structure KnA (P : Program) (w : World) (K : PySem.W.Frag) (mg : Str → Option Value) (base : Heap) (T : List (Addr × Str)) (f : Addr) (k : Nat) (N : DF) : Prop where
  ex : ∃ (fd : FuncData) (ps : List Str), FnOk P w K mg base (L2.CX P w) k f fd ps (spD K T N) ∧ PySem.W.keepIn K (.ref f) = true ∧ Binds K fd ps []
theorem dv_callL {x : Str} {i k : Nat} {N : DF} {xc : XC} {f : Addr} (F : KnA X.prog X.w X.K X.mg X.base T f k N) (e0 : ρ.sl[i]? = some (.dat (.fn f))) (hr : Room k X.A) (tk : Takes X (WD X.K T A xc)) (h : DA X T A ρ (e :: es) (fun ds ρ1 => N ds ρ1.g (outD A xc C ρ1)))
    (hi : slotOf X.N x = some i := by rfl) (hv : Vis X.env.scope x := by first | exact Or.inl rfl | exact Or.inr (Or.inl rfl) | exact Or.inr (Or.inr rfl)) (hdb : (x == ("__debug__" : Str)) = false := by decide) (hcd : (x == ("__classdict__" : Str)) = false := by decide)
    (he : starEach (e :: es) X.env = (false, eval e X.env) :: starEach es X.env := by rfl) (hpl : (backTo pos (starEach es X.env)).any (·.1) = false := by rfl) : DV X T A ρ (.Call (.Name x p) (e :: es) [] pos) C := by
  obtain ⟨fd, ps, F, hk, hb⟩ := F.ex
  refine DV.of (pe_callL F hr (slotOf_ok hi) hv hk hb .nil (E := fun cls d H => WD X.K T A xc cls d [] H) (passes_call tk fun _ _ _ _ z => z) pa_go hdb hcd he hpl) fun σ H Q F ok q => ⟨?_, ρ, _, h, F, ok, fun ds ρ1 h1 vs F1 H1 s1 w1 ok1 r1 => ?_⟩
  · obtain ⟨v, e1, r⟩ := ok.slots i _ e0
    cases r
    exact e1
  · show spD X.K T N (vs ++ []) H1 Q _
    rw [List.append_nil]
    exact call_sp ok1 r1 h1 (fun d ρ' c v F' H' s' w' ok' r' => q d ρ' c v F' H' (s1.trans s') (w'.trans w1) ok' r') fun _ _ _ z => z
end blt
/-- names of built-ins that the text leaves as they are -/
structure Bi (mg : Str → Option Value) : Prop where
  isinstance : mg "isinstance" = none
  len : mg "len" = none
  all : mg "all" = none
  any : mg "any" = none
  int : mg "int" = none
  bool : mg "bool" = none
  str : mg "str" = none
  list : mg "list" = none
  tuple : mg "tuple" = none
  dict : mg "dict" = none
  abs : mg "abs" = none
  max : mg "max" = none
  min : mg "min" = none
  sum : mg "sum" = none
  range : mg "range" = none
  enumerate : mg "enumerate" = none
  zip : mg "zip" = none
  sorted : mg "sorted" = none
  set : mg "set" = none
  repr : mg "repr" = none
end DL
end

section
/-! enumerate of a tuple -/
namespace DL
open PySem
theorem new_enumT (t : Addr) (items : Array Value) : Meets (Builtin.«enumerate.__new__» ⟨[.type "enumerate", .ref t], []⟩) (fun _ R s => s.heap.IsTuple t items ∧
      R (.ok (.ret (.ref (s.heap.push { cls := .type "tuple_iterator", data := .fields #[.ref t, .int 0 0] }).objs.size)))
        { s with heap := (s.heap.push { cls := .type "tuple_iterator", data := .fields #[.ref t, .int 0 0] }).push { cls := .type "enumerate", data := .fields #[.none, .bool false, .ref s.heap.objs.size, rawInt 0, .none, .none] } }) :=
  .of_wp fun prog w A R s h => by
    obtain ⟨hp, g, d, tk, os⟩ := s
    obtain ⟨hl, h⟩ := h
    have hs := sub_enumerate
    have go : ∀ {A' : Around} {E : Value → Shared → Prop} {Q : Value → Shared → Prop}, Q (.ref hp.objs.size) ⟨hp.push { cls := .type "tuple_iterator", data := .fields #[.ref t, .int 0 0] }, g, d, tk, os⟩ → wpAny (model prog w) A' (pyIter (.ref t)) Q E ⟨hp, g, d, tk, os⟩ :=
      fun q => (begins_tuple t items).iter prog w _ _ ⟨hp, g, d, tk, os⟩ _ hl q
    wp_walk using go
    refine wpAny_stack_any fun st => wpAny_pure ?_
    split
    · rename_i c _ _ _ _ _
      cases (c == Value.type "enumerate") <;> (wp_walk using go; exact ⟨_, rfl, h⟩)
    · wp_walk using go
      exact ⟨_, rfl, h⟩
section
variable {prog : Program} {w : World} {A : Around} {E : Value → Shared → Prop} {s : Shared}
theorem call_enumT {t : Addr} {items : Array Value} {Q : Value → Shared → Prop} (hL : s.heap.IsTuple t items)
    (h : ∀ h', IsEnum h' (s.heap.objs.size + 1) s.heap.objs.size 0 .none → h'.IsTupleIter s.heap.objs.size t 0 → (∀ b o, s.heap.get? b = some o → h'.get? b = some o) → Q (.ref (s.heap.objs.size + 1)) { s with heap := h' }) :
    wpAny (model prog w) A (call (.type "enumerate") [.ref t]) Q E s := by
  refine callType_new F.called_enumerate (by decide) (F.typeCall_enumerate_1 _) (F.newCall_enumerate_1 _) (fun obj => F.args_object_init_2 obj _) F.entry_enumerate_new (new_enumT t items) ⟨hL, ?_⟩
  have hz : (s.heap.push { cls := .type "tuple_iterator", data := .fields #[.ref t, .int 0 0] }).objs.size = s.heap.objs.size + 1 := Heap.size_push ..
  show _ ∧ _
  rw [hz]
  have he : IsEnum ((s.heap.push { cls := .type "tuple_iterator", data := .fields #[.ref t, .int 0 0] }).push
      { cls := .type "enumerate", data := .fields #[.none, .bool false, .ref s.heap.objs.size, rawInt 0, .none, .none] }) (s.heap.objs.size + 1) s.heap.objs.size 0 .none := by
    have z := Heap.get?_push_size (s.heap.push { cls := .type "tuple_iterator", data := .fields #[.ref t, .int 0 0] }) (o := { cls := .type "enumerate", data := .fields #[.none, .bool false, .ref s.heap.objs.size, rawInt 0, .none, .none] }) rfl
    rw [hz] at z
    exact z
  exact ⟨⟨_, he, rfl⟩, h _ he ⟨_, Heap.get?_push_of_some _ (Heap.get?_push_size _ rfl), rfl, rfl⟩ fun b o x => Heap.get?_push_of_some _ (Heap.get?_push_of_some _ x)⟩
end
end DL
namespace DL
open PySem PySem.Spec L2
def Iet (K : PySem.W.Frag) (a : Addr) : It :=
  ⟨fun i H => ∃ (xs : List V) (x : V), SqT K H a xs ∧ xs[i]? = some x, fun i H v H' => ∃ T x, v = .ref T ∧ H T = none ∧ H' = upd H T (.tup [.int (i : Nat), x]) ∧ ∀ xs, SqT K H a xs → xs[i]? = some x, fun i H => ∃ xs : List V, SqT K H a xs ∧ xs.length = i⟩
theorem turn_enumT {P : Program} {w : World} {K : PySem.W.Frag} {elts : List Expr} {kk : Nat} {tpos : Pos} (a e it : Addr) :
    Turn P w K (.Tuple elts kk tpos) (Iet K a) [e, it] e (fun i h => (∃ old, IsEnum h e it ((i : Nat) : Int) old) ∧ h.IsTupleIter it a i ∧ e ≠ it ∧ a ≠ it ∧ a ≠ e) where
  mem := by simp
  obj := fun i h ⟨⟨old, he⟩, hit, _⟩ b hb => by
    have hb' : b = e ∨ b = it := by simpa using hb
    rcases hb' with rfl | rfl
    · exact ⟨_, he, fun v z => by cases z⟩
    · obtain ⟨o, q, _, d⟩ := hit
      exact ⟨o, q, fun v z => by rw [d] at z; cases z⟩
  keep := fun i h h' ⟨⟨old, he⟩, hit, hne⟩ k => ⟨⟨old, k e (by simp) _ he⟩, hit.at fun o q => k it (by simp) o q, hne⟩
  item := by
    intro X hP hw hK hc i pins s σ H E I hf st hg
    subst hP hw hK
    obtain ⟨⟨old, he⟩, hit, hne, hai, hae⟩ := st
    obtain ⟨xs, x, hq, hx⟩ := hg
    obtain ⟨its, rv, p, hz⟩ := I.tuple hq
    obtain ⟨u, hu, ru⟩ := rv.get hx
    have hel : e < s.heap.objs.size := Heap.lt_size he
    have hil : it < s.heap.objs.size := by obtain ⟨_, q, _⟩ := hit; exact Heap.lt_size q
    have hlt : i < its.toArray.size := by
      rw [List.size_toArray]
      exact (List.getElem?_eq_some_iff.mp hu).1
    have Dr := Draws.tuple (prog := X.prog) (w := X.w) (A := X.A.in1) (I.ok.hd hc) it a hai its.toArray
    refine wpAny_pyNext_enum_itemD Dr he ⟨hit, p⟩ hlt hne (by simp [hne, Ne.symm hae]) fun y h' tk hy ho hst hT hsz hk => ?_
    have ey : y = u := by
      rw [show its.toArray[i]? = its[i]? by simp, hu] at hy
      exact (Option.some.inj hy).symm
    subst ey
    refine ⟨_, rfl, wpAny_letOwnedTupleGo_enum (s := { s with heap := h', toks := tk + 1 }) ho fun h'' he' sb => ?_⟩
    have hT2 : h''.get? s.heap.objs.size = some { cls := .type "tuple", data := .seq #[.int i tk, y] } := (sb.2 _ (Nat.ne_of_gt hel)).trans hT
    have new : ObjOk X.prog X.w (upd H s.heap.objs.size (.tup [.int (i : Nat), x])) h'' s.heap.objs.size (.tup [.int (i : Nat), x]) :=
      ⟨by show 2 ≤ sizeLine; decide, [.int i tk, y], .cons ⟨_, rfl⟩ (.cons ru .nil), ⟨_, hT2, rfl, _, rfl⟩⟩
    have I1 : L2.Inv X pins σ (upd H s.heap.objs.size (.tup [.int (i : Nat), x])) { s with heap := h'', toks := tk + 1 } :=
      I.turnedNew (ch := [e, it]) (fun b ob hb q => (sb.2 b (fun z => hb (by simp [z]))).trans (hk b ob (fun z => hb (by simp [z])) (fun z => hb (by simp [z])) q)) hf (Nat.le_refl _) new
    refine ⟨.ref s.heap.objs.size, _, I1, rfl, ⟨_, x, rfl, I.hok.fresh (Nat.le_refl _), rfl, fun ys hy => by rw [I.tuple_inj hy hq]; exact hx⟩, ⟨⟨y, ?_⟩, hst.1.at fun o q => (sb.2 it (Ne.symm hne)).trans q, hne, hai, hae⟩, fun b hb => ?_⟩
    · have e1 : ((i + 1 : Nat) : Int) = (i : Int) + 1 := by omega
      rw [e1]; exact he'
    · have hb' : b < s.heap.objs.size := by
        have e' : b = e ∨ b = it := by simpa using hb
        rcases e' with z | z
        · rw [z]; exact hel
        · rw [z]; exact hil
      rw [upd_ne (Nat.ne_of_lt hb')]
      exact (hf b hb).1
  done := by
    intro X hP hw hK hc i pins s σ H E I hf st hg
    subst hP hw hK
    obtain ⟨⟨old, he⟩, hit, hne, hai, hae⟩ := st
    obtain ⟨xs, hq, hx⟩ := hg
    obtain ⟨its, rv, p, hz⟩ := I.tuple hq
    obtain ⟨f0, f1, f2, f3, f4, f5⟩ := hf it (by simp)
    have hl := rv.length
    have Dr := Draws.tuple (prog := X.prog) (w := X.w) (A := X.A.in1) (I.ok.hd hc) it a hai its.toArray
    have hi : i = its.length := by omega
    subst hi
    have sz : its.toArray.size = its.length := by simp
    exact wpAny_pyNext_enum_endD Dr he (by rw [sz]; exact ⟨hit, p⟩) fun h' eb => ⟨rfl, I.turned (t' := s.toks) (fun b o hb q => eb b o hb q) f0 f1 f3 f4 f5⟩
  self := fun A i s Q E st h => let ⟨⟨_, he⟩, _⟩ := st; wpAny_pyIter_enum he h
/-- enumerate of a list or of a tuple -/
def iEnumS (K : PySem.W.Frag) (ta : TA) : TI := fun σ H R => ta σ H fun vs H1 => ∃ a, vs = [.ref a] ∧ ((∃ xs, SqL K H1 a xs ∧ R (Ite K a) H1) ∨ ∃ xs, SqT K H1 a xs ∧ R (Iet K a) H1)
theorem pi_enumS {X : Cx} {e : Expr} {ta : TA} {p pos tpos : Pos} {elts : List Expr} {kk : Nat} (hg : Gl X "enumerate") (hm : X.mg "enumerate" = none) (ha : PA X [e] ta) (hs : starEach [e] X.env = [(false, eval e X.env)] := by rfl) :
    PI X (.Tuple elts kk tpos) (.Call (.Name "enumerate" p) [e] [] pos) (iEnumS X.K ta) := by
  refine ⟨fun pins s σ H R I h => ?_⟩
  refine PyProof.Rows.Call_ (ld_blt I hg hm PyProof.Rows.boot_enumerate (PyProof.Rows.callWith_type1 (thn (ha.run pos pins s σ H _ I h) fun us s1 ⟨vs, H1, I1, r1, q1⟩ => ?_) hs rfl))
  obtain ⟨a, rfl, q⟩ := q1
  cases r1 with
  | cons r rr =>
    cases rr
    cases r
    rcases q with ⟨xs, hq, q⟩ | ⟨xs, hq, q⟩
    · obtain ⟨its, rv, p', hz⟩ := I1.list hq
      refine call_enumerate_list p'.isList fun h' he hit hsz hk => wpAny_pyIter_enum he ?_
      have I2 : L2.Inv X pins σ H1 { s1 with heap := h' } := I1.kept (t' := s1.toks) hk
      refine ⟨s1.heap.objs.size + 1, [s1.heap.objs.size + 1, s1.heap.objs.size], _, _, H1, rfl, I2, turn_enum a (s1.heap.objs.size + 1) s1.heap.objs.size, ⟨⟨.none, he⟩, hit, Nat.succ_ne_self _⟩, fun b hb => ?_, q⟩
      have e' : b = s1.heap.objs.size + 1 ∨ b = s1.heap.objs.size := by simpa using hb
      have hle : s1.heap.objs.size ≤ b := by rcases e' with z | z <;> (rw [z]; omega)
      exact I1.fpOk hle (I1.hok.fresh hle)
    · obtain ⟨its, rv, p', hz⟩ := I1.tuple hq
      have hl : a < s1.heap.objs.size := p'.lt
      refine call_enumT p' fun h' he hit hk => wpAny_pyIter_enum he ?_
      have I2 : L2.Inv X pins σ H1 { s1 with heap := h' } := I1.kept (t' := s1.toks) hk
      refine ⟨s1.heap.objs.size + 1, [s1.heap.objs.size + 1, s1.heap.objs.size], _, _, H1, rfl, I2, turn_enumT a (s1.heap.objs.size + 1) s1.heap.objs.size, ⟨⟨.none, he⟩, hit, Nat.succ_ne_self _, Nat.ne_of_lt hl, Nat.ne_of_lt (Nat.lt_succ_of_lt hl)⟩, fun b hb => ?_, q⟩
      have e' : b = s1.heap.objs.size + 1 ∨ b = s1.heap.objs.size := by simpa using hb
      have hle : s1.heap.objs.size ≤ b := by rcases e' with z | z <;> (rw [z]; omega)
      exact I1.fpOk hle (I1.hok.fresh hle)
def enumOf (i : Nat) : List D → List D
  | [] => []
  | d :: ds => .tup [.int (i : Int), d] :: enumOf (i + 1) ds
theorem enumOf_len : ∀ (i : Nat) (ds : List D), (enumOf i ds).length = ds.length
  | _, [] => rfl
  | i, d :: ds => by rw [enumOf, List.length_cons, List.length_cons, enumOf_len]
theorem enumOf_get : ∀ (ds : List D) (i j : Nat), (enumOf i ds)[j]? = ds[j]?.map fun d => .tup [.int ((i + j : Nat) : Int), d]
  | [], _, j => by simp [enumOf]
  | d :: ds, i, 0 => by simp [enumOf]
  | d :: ds, i, j + 1 => by
    rw [enumOf, List.getElem?_cons_succ, List.getElem?_cons_succ, enumOf_get ds (i + 1) j, show i + 1 + j = i + (j + 1) by omega]
section
variable {X : Cx} {T : List (Addr × Str)} {A : Anc} {ρ : Ev} {e : Expr} {pos p tpos : Pos}
theorem yields_enumL {F : Hp} {ws : List Addr} {q : Addr} {xs : List V} {ds : List D} (h : SqL X.K F q xs) (t : Rs X.K F ws xs ds) : Yields X T A (Ite X.K q) F ws (enumOf 0 ds) := by
  refine ⟨fun i F1 H1 s1 s2 l => ?_, fun i F1 H1 s1 s2 l => ?_, fun i d F1 H1 σ ρ x H2 e s1 ok w y => ?_⟩
  · have hl : i < xs.length := by rw [t.len, ← enumOf_len 0 ds]; exact l
    exact ⟨xs, xs[i], sqL_mono (s1.trans s2) h, List.getElem?_eq_getElem hl⟩
  · exact ⟨xs, sqL_mono (s1.trans s2) h, by rw [t.len, ← enumOf_len 0 ds]; exact Nat.le_of_eq l⟩
  · obtain ⟨tp, v, rfl, hn, rfl, y⟩ := y
    rw [enumOf_get] at e
    obtain ⟨d', e1, rfl⟩ := Option.map_eq_some_iff.mp e
    obtain ⟨v', e2, r⟩ := t.get e1
    have e3 := y xs (sqL_mono (s1.trans ok.sub) h)
    rw [e2] at e3
    have e4 : v' = v := Option.some.inj e3
    subst e4
    have r' := R.mono s1 w _ _ r
    obtain ⟨F2, s2, ok2, r2⟩ := ok.newT (vs := [.int (i : Nat), v']) (ds := [.int (i : Nat), d']) (.cons (.int _) (.cons r' .nil)) hn
    refine ⟨F2, s2, ok2, ?_⟩
    rw [Nat.zero_add]
    exact r2
theorem yields_enumT {F : Hp} {ws : List Addr} {q : Addr} {xs : List V} {ds : List D} (h : SqT X.K F q xs) (t : Rs X.K F ws xs ds) : Yields X T A (Iet X.K q) F ws (enumOf 0 ds) := by
  refine ⟨fun i F1 H1 s1 s2 l => ?_, fun i F1 H1 s1 s2 l => ?_, fun i d F1 H1 σ ρ x H2 e s1 ok w y => ?_⟩
  · have hl : i < xs.length := by rw [t.len, ← enumOf_len 0 ds]; exact l
    exact ⟨xs, xs[i], sqT_mono (s1.trans s2) h, List.getElem?_eq_getElem hl⟩
  · exact ⟨xs, sqT_mono (s1.trans s2) h, by rw [t.len, ← enumOf_len 0 ds]; exact l⟩
  · obtain ⟨tp, v, rfl, hn, rfl, y⟩ := y
    rw [enumOf_get] at e
    obtain ⟨d', e1, rfl⟩ := Option.map_eq_some_iff.mp e
    obtain ⟨v', e2, r⟩ := t.get e1
    have e3 := y xs (sqT_mono (s1.trans ok.sub) h)
    rw [e2] at e3
    have e4 : v' = v := Option.some.inj e3
    subst e4
    have r' := R.mono s1 w _ _ r
    obtain ⟨F2, s2, ok2, r2⟩ := ok.newT (vs := [.int (i : Nat), v']) (ds := [.int (i : Nat), d']) (.cons (.int _) (.cons r' .nil)) hn
    refine ⟨F2, s2, ok2, ?_⟩
    rw [Nat.zero_add]
    exact r2
def enumD (C : CL) : List D → Ev → Prop
  | [d], ρ => ∃ ds, seqD d = some ds ∧ C (enumOf 0 ds) ρ
  | _, _ => False
theorem di_enum {C : CL} {elts : List Expr} {kk : Nat} (hm : X.mg "enumerate" = none) (h : DA X T A ρ [e] (fun ds ρ1 => enumD C ds ρ1)) (hg : Gl X "enumerate" := by rfl) (hs : starEach [e] X.env = [(false, eval e X.env)] := by rfl) : DI X T A ρ (.Tuple elts kk tpos) (.Call (.Name "enumerate" p) [e] [] pos) C :=
  ⟨⟨fun pins s σ H R I ⟨F, ok, q⟩ => (pi_enumS hg hm (pa_go (T := T) (A := A)) hs).run pins s σ H R I ⟨ρ, _, h, F, ok, fun ds ρ1 c vs F1 H1 s1 w1 ok1 r1 => by
    replace c : enumD C ds ρ1 := c
    unfold enumD at c
    split at c
    · obtain ⟨v, rfl, r⟩ := r1.one
      obtain ⟨ds, e1, c⟩ := c
      cases r with
      | lst h t => cases e1; exact ⟨_, rfl, .inl ⟨_, .of (ok1.sub _ _ h), q _ _ c _ F1 H1 s1 w1 ok1 (yields_enumL (.of h) t)⟩⟩
      | kl h t => cases e1; exact ⟨_, rfl, .inl ⟨_, sqL_mono ok1.sub h, q _ _ c _ F1 H1 s1 w1 ok1 (yields_enumL h t)⟩⟩
      | tup h t => cases e1; exact ⟨_, rfl, .inr ⟨_, sqT_mono ok1.sub h, q _ _ c _ F1 H1 s1 w1 ok1 (yields_enumT h t)⟩⟩
      | _ => cases e1
    · exact c.elim⟩⟩⟩
end
end DL
end

section
/-! The __init__ of an own exception class that says super().__init__(x); self.f = x. -/
namespace DL
open PySem PySem.Spec L2
section
variable {P : Program} {w : World} {K : PySem.W.Frag} {mg : Str → Option Value} {base : Heap}
def iniCx (P : Program) (w : World) (K : PySem.W.Frag) (mg : Str → Option Value) (base : Heap) (N : List Str) (qual : Str) (scope : Scope) (f cda cc : Addr) (A : Around) (outer : List Env) (s : Shared) (H : Hp) (E : XK) : Cx where
  prog := P
  w := w
  K := K
  mg := mg
  base := base
  A := A.deeper (PySem.W.ksEnv qual scope s.heap.objs.size f (.ref cda) cc)
  N := N
  s_0 := s
  H_0 := H
  env := PySem.W.ksEnv qual scope s.heap.objs.size f (.ref cda) cc
  outer := outer
  stack := PySem.W.ksEnv qual scope s.heap.objs.size f (.ref cda) cc :: outer
  ex := []
  calm := true
  fn := fun _ => false
  pn := []
  xe := fun e s' => wpAny (model P w) (A.deeper (PySem.W.ksEnv qual scope s.heap.objs.size f (.ref cda) cc)) (leaving (PySem.W.ksEnv qual scope s.heap.objs.size f (.ref cda) cc) e) (fun _ s'' => L2.CX P w outer H s E e s'') (fun e' s'' => L2.CX P w outer H s E e' s'') s'
/-- the names of such an __init__ -/
structure IniS (x : Str) (scope : Scope) : Prop where
  kind : scope.kind = .function
  co : scope.isCoroutine = false
  gen : scope.isGenerator = false
  cell : ∀ y ∈ scope.names, y.2 ≠ .cell
  free : ∀ y ∈ scope.names, y.2 = .free → y.1 = "__class__"
  cls : scope.names.lookup ("__class__" : Str) = some .free
  sup : scope.names.lookup ("super" : Str) = some .globalImplicit
  self : scope.names.lookup ("self" : Str) = some .local
  par : scope.names.lookup x = some .local
  ne : x ≠ "self"
  db : (x == ("__debug__" : Str)) = false
  cd : (x == ("__classdict__" : Str)) = false
def iniSB (x : Str) (scope : Scope) : Bool :=
  decide (scope.kind = .function) && !scope.isCoroutine && !scope.isGenerator && (scope.names.all fun y => !decide (y.2 = .cell) && (!decide (y.2 = .free) || y.1 == "__class__")) && decide (scope.names.lookup ("__class__" : Str) = some .free) &&
  decide (scope.names.lookup ("super" : Str) = some .globalImplicit) && decide (scope.names.lookup ("self" : Str) = some .local) && decide (scope.names.lookup x = some .local) && !(x == "self") && !(x == ("__debug__" : Str)) && !(x == ("__classdict__" : Str))
theorem iniS_by {x : Str} {scope : Scope} (h : iniSB x scope = true) : IniS x scope := by
  unfold iniSB at h
  simp only [Bool.and_eq_true, Bool.or_eq_true, Bool.not_eq_true', decide_eq_true_eq, decide_eq_false_iff_not, List.all_eq_true, beq_iff_eq] at h
  obtain ⟨⟨⟨⟨⟨⟨⟨⟨⟨⟨h1, h2⟩, h3⟩, h4⟩, h5⟩, h6⟩, h7⟩, h8⟩, h9⟩, h10⟩, h11⟩ := h
  refine ⟨h1, h2, h3, fun y hy => (h4 y hy).1, fun y hy e => ?_, h5, h6, h7, h8, fun z => ?_, h10, h11⟩
  · rcases (h4 y hy).2 with z | z
    · exact absurd e z
    · exact z
  · rw [z] at h9
    simp at h9
theorem ini_start {x qual : Str} {scope : Scope} {f cda cc C : Addr} {A : Around} {outer : List Env} {s : Shared} {H : Hp} {E : XK} {a : Addr} {v : V} {u cl : Value} {cld : Option Addr} {csl : Array (Option Value)} {h₀ : Heap} {tk : Nat} (S : IniS x scope) (e0 : Env0 P w K mg base A outer s H) (hd : A.handled = none)
    (hcc : K.lookup cc = some ⟨cl, cld, .cell (some (.ref C)), csl⟩) (hns : h₀.Ns s.heap.objs.size (fun y => [(("self" : Str), Value.ref a), (x, u)].reverse.lookup y)) (kp : ∀ b o, s.heap.get? b = some o → h₀.get? b = some o) (r : RelV v u) :
    Inv (iniCx P w K mg base ["self", x] qual scope f cda cc A outer s H E) [] [some (.ref a), some v] H { s with heap := h₀, toks := tk } := by
  have noA : ∀ b : Addr, b ∉ (iniCx P w K mg base ["self", x] qual scope f cda cc A outer s H E).ex := fun b z => absurd (show b ∈ ([] : List Addr) from z) (by simp)
  have one : ∀ {y : Str} {c : Addr}, [(("__class__" : Str), cc)].lookup y = some c → y = "__class__" ∧ c = cc := fun {y c} h => by
    have m := PySem.mem_of_lookup h
    simp only [List.mem_singleton, Prod.mk.injEq] at m
    exact m
  have bcc := e0.bs cc _ (e0.mod.kin _ _ hcc)
  refine ⟨⟨e0.mod, S.kind, rfl, rfl, Nat.le_refl _, fun y z c h1 h2 => ?_, fun y hy => ?_, fun y c z _ => (by cases z), fun _ => hd, Around.frames_deeper e0.frames, .inr ⟨rfl, rfl⟩, fun b z => absurd z (noA b), e0.bs, e0.bsz, fun b _ _ => noA b, fun b z => absurd z (noA b), e0.funs, e0.frf⟩,
    rfl, e0.bare, Un.kept kp, ⟨_, hns, fun i y z h1 h2 h3 => ?_⟩, fun y c h => ?_, e0.hok.fresh (Nat.le_refl _), fun y c h => ?_, fun p hp => absurd (show p ∈ ([] : List (Addr × Obj)) from hp) (by simp), e0.hok.kept kp, rfl⟩
  · exact (one h1).1.trans (one h2).1.symm
  · have hy : scope.names.lookup y = some .cell ∨ scope.names.lookup y = some .free := hy
    rcases hy with hy | hy
    · exact absurd rfl (S.cell _ (PySem.mem_of_lookup hy))
    · have e := S.free _ (PySem.mem_of_lookup hy) rfl
      dsimp only at e
      subst e
      exact ⟨cc, rfl⟩
  · have h1 : (["self", x] : List Str)[i]? = some y := h1
    match i with
    | 0 =>
      cases h1
      cases h2
      refine ⟨.ref a, rfl, .inl ⟨S.self, ?_⟩⟩
      show ([(x, u), (("self" : Str), Value.ref a)] : List (Str × Value)).lookup ("self" : Str) = _
      rw [List.lookup_cons, show (("self" : Str) == x) = false from by simpa using Ne.symm S.ne]
      rfl
    | 1 =>
      cases h1
      cases h2
      refine ⟨u, r, .inl ⟨S.par, ?_⟩⟩
      show ([(x, u), (("self" : Str), Value.ref a)] : List (Str × Value)).lookup x = _
      rw [List.lookup_cons, beq_self_eq_true]
    | i + 2 => simp at h1
  · obtain ⟨_, rfl⟩ := one h
    exact ⟨_, _, kp _ _ bcc.1, rfl⟩
  · obtain ⟨_, rfl⟩ := one h
    exact bcc.2

/-- what such an __init__ promises -/
def spIni (C : Addr) (fn : Str) : Sp := fun vs H Q _ => ∃ (a : Addr) (v : V), vs = [.ref a, v] ∧ H a = some (exo a C none) ∧ ∀ dx, H dx = none → dx ≠ a → Q .non (upd (upd H dx (exd dx [(fn, v)])) a (exo a C (some dx)))
/-- super().__init__(..) over ValueError: the wrapper called -/
theorem mw_call {X : Cx} {pins : List (Addr × Obj)} {σ : L2.St} {H : Hp} {s : Shared} {a C q : Addr} {us : List Value} {Q : Value → Shared → Prop} {E : Value → Shared → Prop} {A : Around} (T : OexC X.K C) (I : Inv X pins σ H s) (e : H a = some (exo a C none)) (hu : s.heap.get? q = some (PySem.W.kxs_mw "ValueError.__init__" a)) (hl : us.length ≤ sizeLine) (h : ∀ s', Inv X pins σ H s' → Q .none s') :
    wpAny (model X.prog X.w) A (call (.ref q) us) Q E s := by
  obtain ⟨nm, qq, N, bs, bm, sn, sub, ab, col, dd, k0, k1, k2, k3, k5, hC, hbm⟩ := T.cls
  obtain ⟨t1, ho⟩ := exo_at I.hok e
  obtain ⟨hp, g, d, t, os⟩ := s
  refine wpAny_call (codeAny_of_tree ?_)
  show wpAny _ A.in1 (callAny (.ref q) ⟨us, []⟩) _ _ _
  simp only [callAny]
  refine wpAny_bind (wpAny_load hu ?_)
  simp only [PySem.W.kxs_mw, show (Value.type "method-wrapper" == Value.type "method" || Value.type "method-wrapper" == Value.type "builtin_function_or_method" || Value.type "method-wrapper" == Value.type "method-wrapper") = true by decide, if_true]
  refine PySem.W.KFB.if_so (by decide) ?_
  refine wpAny_bind (PySem.W.check_bound_init PySem.F.excBase_ValueError.toExcCallFacts (I.kIn _ _ hC) ho rfl ?_)
  refine wpAny_bind (wpAny_pure (wpAny_pure ?_))
  refine ⟨plainId_quiet PySem.F.excBase_ValueError.init.plain _, codeAny_builtin PySem.F.excBase_ValueError.initEntry ?_⟩
  refine PySem.W.exc_init_tree (cls := .ref C) (t0 := t1) (dv := none) (c2 := .none) (c3 := .none) (b4 := .bool false) ho hl fun h' k hx _ => ?_
  have J := I.write (t' := t) (x := a) (e := a) (o := exo a C none) (by rw [e]; exact True.intro) (.inl rfl) k ⟨_, hx⟩ (exo_ok hx)
  have eu : upd H a (exo a C none) = H := by
    funext b
    by_cases hb : b = a
    · rw [hb, upd_same, e]
    · rw [upd_ne hb]
  rw [eu] at J
  exact h _ J
/-- what the written part says of such an __init__ -/
structure IniFn (P : Program) (K : PySem.W.Frag) (mg : Str → Option Value) (C fI : Addr) (x fn : Str) (fd : FuncData) : Prop where
  fd : ∃ (oc cl ccl : Value) (od cdd cld : Option Addr) (osl ccs csl : Array (Option Value)) (qual file : Str) (tf : Tok) (params : Arguments) (scope : Scope) (dV kV doc pm ct : Value) (an : Option Addr) (cda cc : Addr) (vs : Array Value) (p0 p1 p2 p3 p4 p5 p6 p7 p8 p9 : Pos),
    fd = PySem.W.ksFn "__init__" qual params [.Expr (.Call (.Attribute (.Call (.Name "super" p0) [] [] p1) "__init__" p2) [.Name x p3] [] p4) p5, .Assign [.Attribute (.Name "self" p6) fn p7] (.Name x p8) p9] scope dV kV doc pm an (.ref cda) ct cc ∧
    K.lookup fI = some ⟨oc, od, .func fd, osl⟩ ∧ PySem.W.codeIn K (.ref cda) qual = true ∧ K.lookup cda = some ⟨ccl, cdd, .fields vs, ccs⟩ ∧ vs[2]? = some (.str file tf) ∧ ((P.main.file : Str) == file) = true ∧
    K.lookup cc = some ⟨cl, cld, .cell (some (.ref C)), csl⟩ ∧ ((params.posonlyargs ++ params.args).head?.map (·.arg)) = some "self" ∧ IniS x scope ∧
    ∀ env : Env, ∃ pl : Sem Bool, eval (.Call (.Attribute (.Call (.Name "super" p0) [] [] p1) "__init__" p2) [.Name x p3] [] p4) env = (do
      let ov ← attributeBase (.Call (.Name "super" p0) [] [] p1) "__init__" env (eval (.Call (.Name "super" p0) [] [] p1) env)
      standAt p2.atName
      let (f, first) ← holding [ov] (getMethod ov "__init__" pl)
      callWith p4 f first (backTo p4 (starEach [.Name x p3] env)) [])
  sup : PySem.W.ks_superIn K C C "__init__" = some (some (.builtin "ValueError.__init__"))
  sub : PySem.W.subIn K (.ref C) (.type "ValueError") = some true
  own : PySem.W.mroIn K C (.ref C) = some true
  cls : ∃ cd, PySem.W.clsIn K C = some cd
  no : PySem.W.findIn K (.ref C) fn = some none
  oex : OexC K C
structure SupM (P : Program) (K : PySem.W.Frag) (mg : Str → Option Value) : Prop where
  sup : mg "super" = none
  top : (P.main.scope.names.lookup ("super" : Str)).isSome = false
  any : PySem.W.nsIn K cStatics "thirdparty.any" = some none
theorem ini_ok {C fI : Addr} {x fn : Str} {fd : FuncData} (S : SupM P K mg) (F : IniFn P K mg C fI x fn fd) : FnOk P w K mg base (L2.CX P w) 1 fI fd ["self", x] (spIni C fn) := by
  obtain ⟨oc, cl, ccl, od, cdd, cld, osl, ccs, csl, qual, file, tf, params, scope, dV, kV, doc, pm, ct, an, cda, cc, vs, p0, p1, p2, p3, p4, p5, p6, p7, p8, p9, rfl, lk, hcd, lcd, hvs, hfile, lcc, hpar, Sc, hmc⟩ := F.fd
  refine ⟨fun vs H Q E ⟨a, v, e, _⟩ => by rw [e] <;> rfl, fun A outer s H args us vs' Q E hr e0 hb rv hs => ?_⟩
  obtain ⟨a, v, rfl, ea, q⟩ := hs
  cases rv with
  | cons ra rr =>
  cases rr with
  | cons rx rn =>
  cases rn
  rename_i u0 u1
  obtain rfl : u0 = Value.ref a := ra
  have KX : K.In s.heap := e0.mod.kin.keeps fun b o e => (e0.bs b o e).1
  have lim : s.heap.NoLimit := e0.mod.nolimit.keeps fun b o e => (e0.bs b o e).1
  refine ks_codeAny_call_defAt hr.depth (KX _ _ lk) rfl lim (PySem.W.codeRec_of KX hcd) rfl hb Sc.cell ?_ (fun h₀ hns kp => ?_) Sc.co Sc.gen Sc.kind
  · intro y hy
    have hy : y ∈ [(("self" : Str), Value.ref a), (x, u1)] := hy
    simp only [List.mem_cons, List.not_mem_nil, or_false] at hy
    rcases hy with rfl | rfl
    · exact Sc.self
    · exact Sc.par
  have J := ini_start (tk := s.toks + ([(("self" : Str), Value.ref a), (x, u1)] : List (Str × Value)).length) (qual := qual) (f := fI) (cda := cda) (E := E) Sc e0 hr.hd lcc hns kp rx
  have gself : (fun y => ([(("self" : Str), Value.ref a), (x, u1)] : List (Str × Value)).reverse.lookup y) "self" = some (.ref a) := by
    show ([(x, u1), (("self" : Str), Value.ref a)] : List (Str × Value)).lookup ("self" : Str) = _
    rw [List.lookup_cons, show (("self" : Str) == x) = false from by simpa using Ne.symm Sc.ne]
    rfl
  show wpAt (model P w) (A.deeper (PySem.W.ksEnv qual scope s.heap.objs.size fI (.ref cda) cc)) (.func _ (PySem.W.ksEnv qual scope s.heap.objs.size fI (.ref cda) cc)) (execs _ (PySem.W.ksEnv qual scope s.heap.objs.size fI (.ref cda) cc)) _ _ _
  obtain ⟨cdC, hcls⟩ := F.cls
  obtain ⟨t1, ho⟩ := exo_at J.hok ea
  obtain ⟨ar, har, hself⟩ : ∃ ar : Arg, (params.posonlyargs ++ params.args).head? = some ar ∧ ar.arg = "self" := by
    cases h : (params.posonlyargs ++ params.args).head? with
    | none => rw [h] at hpar; cases hpar
    | some ar => rw [h] at hpar; exact ⟨ar, rfl, Option.some.inj hpar⟩
  have X1 : K.In h₀ := fun b o e => kp _ _ (KX _ _ e)
  obtain ⟨oD, hD1, hD2⟩ : ∃ oD, h₀.get? C = some oD ∧ oD.data = .cls cdC := by
    have hD := hcls
    unfold PySem.W.clsIn at hD
    split at hD
    · rename_i c d cd' sl ho
      cases hD
      exact ⟨_, X1 _ _ ho, rfl⟩
    · cases hD
  obtain ⟨mb, hb1, hb2⟩ := e0.mod.blt
  have bk : ∀ b o, base.get? b = some o → h₀.get? b = some o := fun b o e => kp _ _ (e0.bs b o e).1
  obtain ⟨pl, hmc⟩ := hmc (PySem.W.ksEnv qual scope s.heap.objs.size fI (.ref cda) cc)
  refine ks_wpAt_execs_cons (ks_wpAt_Expr_any (ks_wpAt_MethodCall ?_ hmc) (by show (scope.kind == .module && _) = false; rw [Sc.kind]; rfl))
  refine ks_wpAt_super_base (env := PySem.W.ksEnv qual scope s.heap.objs.size fI (.ref cda) cc) Sc.sup Sc.cls (by decide) rfl (X1 _ _ lk) rfl har rfl (X1 _ _ lcd) rfl hvs hfile S.top ?_
  have hboot : mb "super" = some (.type "super") := (hb2 _ (by decide)).trans PyProof.Rows.Boot.«super»
  refine PySem.W.ks_loadName_global Sc.kind Sc.sup (PySem.Calls.loadGlobal_builtin (env := PySem.W.ksEnv qual scope s.heap.objs.size fI (.ref cda) cc) (e0.mod.glob.keeps bk) S.sup (hb1.keeps bk) hboot ⟨rfl, ?_⟩)
  refine wpAny_loadName_free Sc.kind Sc.cls rfl ⟨_, X1 _ _ lcc, rfl⟩ ?_
  rw [hself]
  refine wpAny_loadName_local Sc.kind Sc.self hns gself ?_
  refine ks_wpAny_isType_cls hD1 hD2 ⟨rfl, ?_⟩
  refine ks_wpAny_call_super hD1 hD2 ho rfl (fun c e => by cases e) (PySem.W.looks_mroIn X1 F.own) (fun h1 e1 k1 => ?_)
  have J1 := J.kept (t' := s.toks + 2) k1
  have ne : a ≠ C := by
    rintro rfl
    rw [hD1] at ho
    cases ho
    cases hD2
  have hm := F.sup
  unfold PySem.W.ks_superIn at hm
  rw [hcls] at hm
  have X2 : K.In h1 := fun b o e => k1 _ _ (X1 _ _ e)
  have hI : PySem.W.Looks (model P w) h1 (isInstance (.ref a) (.type "ValueError")) true := by
    have I : PySem.W.InstAt h1 a _ C none := ⟨k1 _ _ ho, rfl, rfl, trivial⟩
    exact I.type.andThen (PySem.W.looks_subIn X2 F.sub)
  refine PySem.W.kxs_getMethod PySem.W.kxs_ValueError e1 (PySem.W.looks_opaque X2 S.any) (l₀ := cdC.mro) (fun A Q E s k q => wpAny_bind ((PySem.W.looks_clsIn X2 hcls) A _ E s k (wpAny_pure q))) rfl X2 hm hI ne (by decide) ?_
  have k2 : ∀ b o, h1.get? b = some o → (h1.push (PySem.W.kxs_mw "ValueError.__init__" a)).get? b = some o := fun b o e => Heap.get?_push_of_some _ e
  have J2 := J1.kept (t' := s.toks + ([(("self" : Str), Value.ref a), (x, u1)] : List (Str × Value)).length + 1) k2
  have hq : (h1.push (PySem.W.kxs_mw "ValueError.__init__" a)).get? h1.objs.size = some (PySem.W.kxs_mw "ValueError.__init__" a) := Heap.get?_push_size _ rfl
  show wpAny _ _ (callWith p4 (.ref h1.objs.size) [] _ []) _ _ _
  have vx : Vis scope x := .inl Sc.par
  have vs0 : Vis scope "self" := .inl Sc.self
  have px := pe_var (X := iniCx P w K mg base ["self", x] qual scope fI cda cc A outer s H E) (i := 1) (pos := p3) rfl vx Sc.db Sc.cd
  have nL : h1.objs.size ≠ s.heap.objs.size := fun z => by
    have z2 : s.heap.objs.size < h1.objs.size := J1.lt
    exact absurd z2 (by rw [z]; exact Nat.lt_irrefl _)
  have J3 : Inv (iniCx P w K mg base ["self", x] qual scope fI cda cc A outer s H E) [(h1.objs.size, PySem.W.kxs_mw "ValueError.__init__" a)] [some (.ref a), some v] H _ := J2.pins_of fun p hp => by
    simp only [List.mem_singleton] at hp
    subst hp
    exact ⟨hq, J1.hok.fresh (Nat.le_refl _), nL, fun z => J1.nofs (Nat.le_refl _) z, fun v z => by cases z⟩
  refine PySem.W.kxs_callWith (i := "ValueError.__init__") (x := a) (by rfl) (PySem.Calls.evalArgs_plain (PySem.Calls.spliced_cons ?_))
  refine thn (px.run _ _ _ H (fun y H' => y = v ∧ H' = H) J3 ⟨v, rfl, rfl, rfl⟩) fun u2 s2 ⟨y, H2, J4, r4, ey, eH⟩ => ?_
  subst ey
  subst eH
  refine PySem.Calls.spliced_nil ⟨(J4.pin (h1.objs.size, PySem.W.kxs_mw "ValueError.__init__" a) (by simp)).1, ?_⟩
  refine mw_call (X := iniCx P w K mg base ["self", x] qual scope fI cda cc A outer s H2 E) F.oex J4 ea (J4.pin (h1.objs.size, PySem.W.kxs_mw "ValueError.__init__" a) (by simp)).1 (by show 1 ≤ sizeLine; decide) fun s3 J5 => ?_
  refine ks_wpAt_execs_cons (wpAt_of_wpAny ?_)
  refine plainObj_wpAny_Assign_Attribute (thn ((pe_var (X := iniCx P w K mg base ["self", x] qual scope fI cda cc A outer s H2 E) (i := 1) (pos := p8) rfl vx Sc.db Sc.cd).run _ _ _ H2 (fun z H' => z = y ∧ H' = H2) J5 ⟨y, rfl, rfl, rfl⟩) fun u4 s4 ⟨y4, H4, J6, r6, ey, eH⟩ => ?_) (by rfl)
  subst ey
  subst eH
  refine thn ((pe_var (X := iniCx P w K mg base ["self", x] qual scope fI cda cc A outer s H4 E) (i := 0) (pos := p6) rfl vs0 (by decide) (by decide)).run _ _ _ H4 (fun z H' => z = .ref a ∧ H' = H4) J6 ⟨.ref a, rfl, rfl, rfl⟩) fun u5 s5 ⟨y5, H5, J7, r7, ey, eH⟩ => ?_
  subst ey
  subst eH
  obtain rfl : u5 = Value.ref a := r7
  refine ost_new F.oex J7 ea F.no r6 fun dx s6 dn dne J8 => ?_
  show wpAt _ _ _ (execs [] _) _ _ _
  rw [execs_nil]
  refine wpAt_of_wpAny (wpAny_pure ?_)
  exact ⟨.non, _, J8.os, J8.bare, J8.base, J8.hok, rfl, q dx dn dne⟩
end
end DL
end

section
/-! raise C(x); try with several clauses, each with the same name. -/
namespace DL
open PySem PySem.Spec L2
/-- an own exception class over ValueError, one field -/
structure KnE (P : Program) (w : World) (K : PySem.W.Frag) (mg : Str → Option Value) (base : Heap) (x : Str) (C : Addr) (fn : Str) : Prop where
  cl : mg x = some (.ref C)
  oex : OexC K C
  xf : XfC K C
  no : PySem.W.findIn K (.ref C) fn = some none
  ex : ∃ (fI : Addr) (fd : FuncData) (px : Str), PySem.W.findIn K (.ref C) "__init__" = some (some (.ref fI)) ∧ PySem.W.typeIn K (.ref fI) = some (.type "function") ∧ FnOk P w K mg base (L2.CX P w) 1 fI fd ["self", px] (spIni C fn) ∧ Binds K fd ["self", px] []
section
variable {X : Cx} {T : List (Addr × Str)} {A : Anc} {ρ : Ev} {a b c e : Expr} {es rest : List Expr} {pos p pos' : Pos} {O : DO}
theorem ds_raise {x : Str} {C : Addr} {fn : Str} {xc : XC} (E : KnE X.prog X.w X.K X.mg X.base x C fn) (hr : Room 2 X.A) (tk : Takes X (WD X.K T A xc)) (h : DE X T A ρ e (fun d ρ1 => ρ1.ws = A.ws ∧ xc C [(fn, d)] ρ1.g)) (hc : X.calm = true := by rfl)
    (hg : Gl X x := by rfl) (hdb : (x == ("__debug__" : Str)) = false := by decide) (he : starEach [e] X.env = (false, eval e X.env) :: starEach [] X.env := by rfl) (hpl : (backTo pos (starEach [] X.env)).any (·.1) = false := by rfl) : DS X T A ρ (.Raise (some (.Call (.Name x p) [e] [] pos)) none pos') O := by
  obtain ⟨fI, fd, px, hi, ht, F, hb⟩ := E.ex
  refine DS.of (ps_raise hc tk (pmk_oex (dvs := []) E.oex hi ht F hr hb .nil (passes_call (W := WD X.K T A xc) tk fun _ _ _ _ z => z.elim) hg E.cl (pa_cons (pe_go (T := T) (A := A)) pa_nil he) hdb he hpl)) fun En σ H ⟨F, ok, _⟩ => ?_
  refine ⟨ρ, _, h, F, ok, fun d ρ1 h1 v F1 H1 s1 w1 ok1 r1 => ?_⟩
  refine ⟨by show 1 ≤ 1000; decide, fun a ha => ?_⟩
  refine ⟨a, v, rfl, upd_same, fun dx hdx hne => ?_⟩
  have hdx1 : H1 dx = none := by
    rw [upd_ne hne] at hdx
    exact hdx
  refine ⟨rfl, dx, [(fn, v)], upd_same, ?_, hdx1, ?_⟩
  · rw [upd_ne hne, upd_same]
  · have eH : upd (del (upd (upd (upd H1 a (exo a C none)) dx (exd dx [(fn, v)])) a (exo a C (some dx))) a) dx (.xd [(fn, v)]) = upd H1 dx (.xd [(fn, v)]) := by
      funext b
      by_cases h1 : b = dx
      · rw [h1, upd_same, upd_same]
      · rw [upd_ne h1, upd_ne h1]
        by_cases h2 : b = a
        · rw [h2, del_same, ha]
        · rw [del_ne h2, upd_ne h2, upd_ne h1, upd_ne h2]
    rw [eH]
    obtain ⟨ok2, s2⟩ := ok1.alloc (o := .xd [(fn, v)]) hdx1
    obtain ⟨hw, hx⟩ := h1
    refine ⟨C, dx, [(fn, d)], [(fn, v)], ρ1.g, _, rfl, rfl, ok2.drop, upd_same, ?_, hx⟩
    rw [← hw]
    exact .cons (r1.mo s2) .nil
end
/-! ### try: .. except c1 as n: .. except c2 as n: .. -/
def wManyAs (K : PySem.W.Frag) (Wout : WX) (D : Ends) (i : Nat) : List (Value × (Addr → Value → Option Addr → TS)) → WX
  | [] => Wout
  | (c, ts) :: r => fun cls d σ H => ∃ b, PySem.W.exmOne K cls c = some b ∧
    (b = true → ∀ a, H a = none → ts a cls d { nx := fun σ' H' => D.nx (σ'.set i none) H', rt := D.rt, bk := fun σ' H' => D.bk (σ'.set i none) H', ct := fun σ' H' => D.ct (σ'.set i none) H' } (σ.set i (some (.ref a))) H) ∧ (b = false → wManyAs K Wout D i r cls d σ H)
inductive HdsAs (X : Cx) (n : Str) : List ExceptHandler → List (Value × (Addr → Value → Option Addr → TS)) → Prop
  | nil : HdsAs X n [] []
  | cons {x : Str} {c : Value} {ts : Addr → Value → Option Addr → TS} {b₀ : Stmt} {suite : List Stmt} {np pos' : Pos} {hds : List ExceptHandler} {l : List (Value × (Addr → Value → Option Addr → TS))} (hc : Names X x c)
      (hsu : ∀ (a : Addr) (oe : Obj) (cls : Value) (d : Option Addr) (pn : List (Addr × Obj)), Zc cls d oe → (∃ vs, oe.data = .fields vs) → PSs (X.suite a ((a, oe) :: pn)) (b₀ :: suite) (ts a cls d)) (r : HdsAs X n hds l) :
      HdsAs X n (.ExceptHandler (some (.Name x np)) (some n) (b₀ :: suite) pos' :: hds) ((c, ts) :: l)
section
variable {X : Cx} {body : List Stmt} {h₀ : ExceptHandler} {hds : List ExceptHandler} {l : List (Value × (Addr → Value → Option Addr → TS))} {pos : Pos} {tb : WX → TS} {Wout : WX} {n : Str} {i : Nat}
theorem ps_try_manyAs (hs : X.stack = X.env :: X.outer) (hf : X.env.frame = some X.env.locals) (hN : X.N.Nodup) (hi : X.N[i]? = some n) (hln : X.env.kindOf n = some .local) (tk : Takes X Wout)
    (hb : ∀ (W : WX) (pn : List (Addr × Obj)) (xe : Value → Shared → Prop), Takes (X.tr pn xe) W → PassesOwn (model X.prog X.w) X.A X.env xe → PSs (X.tr pn xe) body (tb W))
    (hh : HdsAs X n (h₀ :: hds) l) : PS X (.Try body (h₀ :: hds) [] [] pos) (fun D σ H => tb (wManyAs X.K Wout D i l) D σ H) := by
  refine ⟨fun pins s σ H D I h => ?_⟩
  have ok := I.ok
  have hfr : X.A.frames = some (X.env :: X.outer) := by rw [ok.frames, hs]
  have hloc : Loc X.env.scope n := .inl hln
  refine wpAny_Try_except ?_
  refine wpAny_mono ((hb (wManyAs X.K Wout D i l) (X.pn ++ pins) (fun e s₁ => wpAny (model X.prog X.w) X.A (noteFrame e X.env) (fun _ s₂ => wpAny (model X.prog X.w) X.A (setFlight e none) (fun _ s₃ =>
    wpAny (model X.prog X.w) X.A (handleBy e X.env (h₀ :: hds)) (SP X pins D) X.xe s₃) X.xe s₂) X.xe s₁) (fun u s' xx => ?_) PassesOwn.looking).run [] s σ H D (I.toTry _) h) (fun f s1 hsp => ?_) (fun e s1 he => he)
  · obtain ⟨a, B, sI, pins', σ', H', cls, d, rfl, J', nb, up, sky, na, os, ag, w⟩ := xx
    have J : Inv X pins σ' H' sI := J'.ofTry ok
    have sky' : Sky B (X.env :: X.outer) a (Zc cls d) X.env.locals s'.heap := by rw [← hs]; exact sky
    show wpAny (model X.prog X.w) X.A (noteFrame (.ref a) X.env) _ _ _
    refine Sky.land Zc.steady hfr hf sky' fun h3 fl3 up3 => ?_
    have J3 : Inv X pins σ' H' { s' with heap := h3 } := J.landed nb fl3.1 (up.trans up3) os ag
    obtain ⟨oe3, vs3, he3, hz3, hd3⟩ := fl3.there
    have notFr : ∀ {h : Heap} {o : Obj} {vs : Array Value}, h.FunFrames B (X.env :: X.outer) → h.get? a = some o → o.data = .fields vs → a ∉ frs (X.env :: X.outer) := fun {h o vs} ff e dd hm => by
      obtain ⟨_, o', e', hnf⟩ := ff.mem hm
      rw [e] at e'; cases e'
      exact hnf _ dd
    have nfr := notFr fl3.2.2.1 he3 hd3
    have nL : a ≠ X.env.locals := fun z => nfr (List.mem_filterMap.mpr ⟨X.env, List.mem_cons_self, by rw [hf, z]⟩)
    have nF : a ∉ X.fs := fun hm => by
      obtain ⟨e, he, q⟩ := List.mem_filterMap.mp hm
      exact nfr (List.mem_filterMap.mpr ⟨e, List.mem_cons_of_mem _ he, q⟩)
    have S3 := J3.suite he3 hd3 na nL nF
    have go : ∀ {hds' : List ExceptHandler} {l' : List (Value × (Addr → Value → Option Addr → TS))}, HdsAs X n hds' l' → wManyAs X.K Wout D i l' cls d σ' H' →
        wpAny (model X.prog X.w) X.A (handleBy (.ref a) X.env hds') (SP X pins D) X.xe { s' with heap := h3 } := by
      intro hds' l' hk
      induction hk with
      | nil =>
        intro w
        refine wpAny_handleBy_nil ?_
        obtain ⟨k1, k2, k3, oe, vs, T, oT, ts', he, hz, hd, h1, hr⟩ := id fl3
        unfold PySem.passOn
        refine wpAny_bind (wpAny_field he hd h1 ?_)
        rw [if_neg (show ¬ ((Value.ref T == Value.none) = true) from by simp)]
        have fin : wpAny (model X.prog X.w) X.A (setFlight (.ref a) X.env.frame) (fun _ s4 => wpAny (model X.prog X.w) X.A (throw (.ref a) : Sem Flow) (SP X pins D) X.xe s4) X.xe { s' with heap := h3 } := by
          rw [hf]
          refine HandSPX.setFlight_upZ fl3 fun h4 hh4 up4 => wpAny_throw (tk _ _ ?_)
          exact ⟨a, B, sI, pins, σ', H', cls, d, rfl, J, nb, (up.trans up3).trans up4, .inr (.inr (by rw [hs]; exact hh4)), na, os, ag, w⟩
        first
          | exact wpAny_bind (wpAny_pure (wpAny_bind fin))
          | exact wpAny_bind fin
      | @cons x c ts b₀ suite np pos' hds2 l2 hc hsu r ih =>
        intro w
        obtain ⟨b, hb1, hyes, hno⟩ := w
        refine wpAny_handleBy_cons (codeAny_handlers_test ?_) (by intro q; cases q)
        have LT : PySem.W.Looks (model X.prog X.w) h3 (typeOf (.ref a)) cls := fun A Q E s k q => wpAny_typeOf_ref (k _ _ he3) (by rw [hz3.1]; exact q)
        have LM := PySem.W.exm_one (M := model X.prog X.w) (J3.kIn) LT hb1
        have test : ∀ {Q : Value → Shared → Prop} {E : Value → Shared → Prop}, Q c { s' with heap := h3 } → wpAny (model X.prog X.w) (X.A.mark (some (.ref a))) (eval (.Name x np) X.env) Q E { s' with heap := h3 } := fun {Q E} q => by
          obtain ⟨hg, hdbg, hm | ⟨hm, hv, hnn⟩⟩ := hc
          · exact ld_glob (X := X.suite a ((a, oe3) :: (X.pn ++ pins))) S3 hg hm q hdbg
          · exact ld_blt (X := X.suite a ((a, oe3) :: (X.pn ++ pins))) S3 hg hm hv q hnn hdbg
        refine test (LM.here ?_)
        cases b with
        | true =>
          refine codeAny_handlers_suite_as ?_
          refine HandSPX.lands_againZ fl3 fun h4 fl4 up4 => ?_
          have J4 : Inv X pins σ' H' { s' with heap := h4 } := J.landed nb fl4.1 ((up.trans up3).trans up4) os ag
          obtain ⟨oe4, vs4, he4, hz4, hd4⟩ := fl4.there
          have S4 := J4.suite he4 hd4 na nL nF
          refine store_ok (X := X.suite a ((a, oe4) :: (X.pn ++ pins))) (v := .ref a) S4 hN hi hloc rfl (fun s5 S5 => ?_) (.inr hln)
          refine wpAny_mono ((hsu a oe4 cls d (X.pn ++ pins) hz4 ⟨_, hd4⟩).run [] s5 _ H' _ S5 (hyes rfl a na)) (fun f s6 hsp => ?_) (fun _ _ z => False.elim z)
          have end_ : ∀ {σ6 : L2.St} {H6 : Hp} {Q : Shared → Prop}, Inv (X.suite a ((a, oe4) :: (X.pn ++ pins))) [] σ6 H6 s6 → (∀ s7, Inv X pins (σ6.set i none) H6 s7 → Q s7) →
              wpAny (model X.prog X.w) X.A (do bindName X.env n .none; unbindBehindTheSuite X.env n pos') (fun _ s7 => Q s7) X.xe s6 := fun {σ6 H6 Q} S6 hq => gone_ok (S6.unsuite ok) hN hi hln hq
          cases f with
          | next =>
            obtain ⟨σ6, H6, S6, q6⟩ := hsp
            exact end_ S6 fun s7 J7 => ⟨_, _, J7, q6⟩
          | brk =>
            obtain ⟨σ6, H6, S6, q6⟩ := hsp
            exact end_ S6 fun s7 J7 => ⟨_, _, J7, q6⟩
          | cont =>
            obtain ⟨σ6, H6, S6, q6⟩ := hsp
            exact end_ S6 fun s7 J7 => ⟨_, _, J7, q6⟩
          | ret u =>
            obtain ⟨v6, σ6, H6, S6, r6, q6⟩ := hsp
            exact end_ S6 fun s7 J7 => ⟨_, _, _, J7, r6, q6⟩
        | false =>
          show wpAny _ X.A (handleBy (.ref a) X.env hds2) _ _ _
          exact ih (hno rfl)
    exact go hh w
  · cases f with
    | next =>
      obtain ⟨σ', H', J', q⟩ := hsp
      exact wpAny_execs_nil ⟨σ', H', J'.ofTry ok, q⟩
    | brk =>
      obtain ⟨σ', H', J', q⟩ := hsp
      exact ⟨σ', H', J'.ofTry ok, q⟩
    | cont =>
      obtain ⟨σ', H', J', q⟩ := hsp
      exact ⟨σ', H', J'.ofTry ok, q⟩
    | ret u =>
      obtain ⟨v, σ', H', J', r, q⟩ := hsp
      exact ⟨v, σ', H', J'.ofTry ok, r, q⟩
end
end DL
end

section
/-! try with several clauses, over data. -/
namespace DL
open PySem PySem.Spec L2
theorem Takes.impI {X : Cx} {W W' : WX} (t : Takes X W) (h : ∀ c d σ H, σ.length = X.N.length → W' c d σ H → W c d σ H) : Takes X W' := fun u s' ⟨a, B, sI, pins, σ, H, cls, d, e, I, nb, up, sky, na, os, ag, w⟩ =>
  t u s' ⟨a, B, sI, pins, σ, H, cls, d, e, I, nb, up, sky, na, os, ag, h _ _ _ _ I.len w⟩
section
variable {K : PySem.W.Frag} {T : List (Addr × Str)} {A : Anc} {F H : Hp} {σ : L2.St}
theorem Ok.wake {ws : List Addr} {g : Nat} {sl : List Sl} (ok : Ok K T A F H [] (.bare ws g)) (hl : sl.length ≤ σ.length) (no : ∀ (i : Nat) x, ownOf sl[i]? ≠ some x) (h : ∀ (i : Nat) d, sl[i]? = some (.dat d) → ∃ v, σ[i]? = some (some v) ∧ R K F ws v d) : Ok K T A F H σ ⟨sl, [], ws, g⟩ := by
  refine ⟨ok.sub0, ok.sub, ok.keep, ok.apart, ok.there, ok.tabs, ok.wsub, ok.wnew, ok.strm, h, fun i a ds e => absurd e (no i (a, ds)), fun p a ds e => ?_, fun p q a ds es e => ?_, hl⟩
  · cases p with
    | inl i => exact absurd e (no i (a, ds))
    | inr j => cases e
  · cases p with
    | inl i => exact absurd e (no i (a, ds))
    | inr j => cases e
theorem Rf.get {ws : List Addr} {f : Str} {d : D} : ∀ {ds : List (Str × D)} {xs : List (Str × V)}, Rf K F ws xs ds → ds.lookup f = some d → ∃ v, xs.lookup f = some v ∧ R K F ws v d
  | [], _, _, e => by cases e
  | (k, d') :: ds, _, h, e => by
    cases h with
    | cons h t =>
      rw [List.lookup_cons] at e ⊢
      cases hk : f == k with
      | true =>
        rw [hk] at e
        cases e
        exact ⟨_, rfl, h⟩
      | false =>
        rw [hk] at e
        exact Rf.get t e
end
section
variable (X : Cx) (T : List (Addr × Str)) (A : Anc)
abbrev hdSl (N i : Nat) (d : D) : List Sl := (List.replicate N .non).set i (.dat d)
def SuiteJ (rt : CV) (i : Nat) (st : List Stmt) (c : Addr) (fs : List (Str × D)) (g : Nat) (a dx : Addr) : Prop :=
  ∀ (oe : Obj) (pn : List (Addr × Obj)), Zc (.ref c) (some dx) oe → (∃ vs, oe.data = .fields vs) → DSs (X.suite a ((a, oe) :: pn)) T A ⟨hdSl X.N.length i (.exc a dx fs), [], A.ws, g⟩ st { nx := fun _ => False, rt := rt }
def tsD (st : List Stmt) (a : Addr) (cls : Value) (d : Option Addr) : TS := fun E σ H => ∃ ρ O, (∀ (oe : Obj) (pn : List (Addr × Obj)), Zc cls d oe → (∃ vs, oe.data = .fields vs) → DSs (X.suite a ((a, oe) :: pn)) T A ρ st O) ∧ tS X T A ρ O E σ H
/-- clauses: what they make of an exception -/
inductive HdsD (rt : CV) (n : Str) (i : Nat) (xc : XC) : List ExceptHandler → List (Value × (Addr → Value → Option Addr → TS)) → XC → Prop
  | nil : HdsD rt n i xc [] [] xc
  | cons {x : Str} {C0 : Addr} {b₀ : Stmt} {suite : List Stmt} {np pos' : Pos} {hds : List ExceptHandler} {l : List (Value × (Addr → Value → Option Addr → TS))} {xr : XC} (hm : X.mg x = some (.ref C0)) (hg : Gl X x) (hd : (x == ("__debug__" : Str)) = false) (r : HdsD rt n i xc hds l xr) :
      HdsD rt n i xc (.ExceptHandler (some (.Name x np)) (some n) (b₀ :: suite) pos' :: hds) ((.ref C0, tsD X T A (b₀ :: suite)) :: l)
        (fun c fs g => ∃ b, PySem.W.exmOne X.K (.ref c) (.ref C0) = some b ∧ (b = true → ∀ a dx, SuiteJ X T A rt i (b₀ :: suite) c fs g a dx) ∧ (b = false → xr c fs g))
end
section
variable {X : Cx} {T : List (Addr × Str)} {A : Anc} {ρ : Ev} {O : DO} {xc xt : XC} {n : Str} {i : Nat} {hds : List ExceptHandler} {l : List (Value × (Addr → Value → Option Addr → TS))}
theorem HdsD.as (h : HdsD X T A O.rt n i xc hds l xt) : HdsAs X n hds l := by
  induction h with
  | nil => exact .nil
  | cons hm hg hd r ih => exact .cons ⟨hg, hd, .inl hm⟩ (fun a oe cls d pn hz hf => ⟨fun pins s σ H E I ⟨ρ, O, h, q⟩ => (h oe pn hz hf).pe.run pins s σ H E I q⟩) ih
theorem hdSl_get {N i j : Nat} {d : D} {u : Sl} (h : (hdSl N i d)[j]? = some u) : (j = i ∧ u = .dat d) ∨ u = .non := by
  unfold hdSl at h
  rcases put_get h with ⟨h1, h2, _⟩ | ⟨_, h2⟩
  · exact .inl ⟨h1, h2⟩
  · rw [List.getElem?_replicate] at h2
    split at h2
    · cases h2
      exact .inr rfl
    · cases h2
theorem HdsD.wish {D : Ends} (h : HdsD X T A O.rt n i xc hds l xt) (hi : i < X.N.length) (hrt : ∀ r ρ', O.rt r ρ' → ∀ v σ' F' H', Ok X.K T A F' H' σ' ρ' → Gv X.K A F' H' ρ' v r → D.rt v H') :
    ∀ (cls : Value) (d : Option Addr) (σ : L2.St) (H : Hp), σ.length = X.N.length → WD X.K T A xt cls d σ H → wManyAs X.K (WD X.K T A xc) D i l cls d σ H := by
  induction h with
  | nil => exact fun _ _ _ _ _ w => w
  | @cons x C0 b₀ suite np pos' hds l xr hm hg hd r ih =>
    intro cls d σ H hl w
    obtain ⟨c, dx, fs, xs, g, F, rfl, rfl, ok, hx, rf, b, eb, hy, hn⟩ := w
    refine ⟨b, eb, fun e a ha => ?_, fun e => ih _ _ _ _ hl ⟨c, dx, fs, xs, g, F, rfl, rfl, ok, hx, rf, hn e⟩⟩
    refine ⟨_, _, hy e a dx, F, ok.wake ?_ (fun j x q => ?_) (fun j d' q => ?_), fun ρ' z => z.elim, fun r ρ' c v σ' F' H' ok' g' => hrt r ρ' c v σ' F' H' ok' g', fun ρ' z => z.elim, fun ρ' z => z.elim⟩
    · rw [List.length_set, List.length_set, List.length_replicate, hl]
      exact Nat.le_refl _
    · obtain ⟨s, q, qb⟩ := ownOf_bx (a := x.1) (c := x.2) q
      rcases hdSl_get q with ⟨_, q⟩ | q <;> (subst q; cases qb)
    · rcases hdSl_get q with ⟨rfl, q2⟩ | q2
      · cases q2
        exact ⟨.ref a, List.getElem?_set_self (by rw [hl]; exact hi), .exc hx rf⟩
      · cases q2
theorem ds_try {body : List Stmt} {h₀ : ExceptHandler} {pos : Pos} (hs : X.stack = X.env :: X.outer) (hf : X.env.frame = some X.env.locals) (hN : X.N.Nodup) (hi : slotOf X.N n = some i) (hln : X.env.kindOf n = some .local) (tk : Takes X (WD X.K T A xc)) (hh : HdsD X T A O.rt n i xc (h₀ :: hds) l xt)
    (hb : ∀ (pn : List (Addr × Obj)) (xe : Value → Shared → Prop), Takes (X.tr pn xe) (WD X.K T A xt) → PassesOwn (model X.prog X.w) X.A X.env xe → DSs (X.tr pn xe) T A ρ body O) : DS X T A ρ (.Try body (h₀ :: hds) [] [] pos) O := by
  have hi' := slotOf_ok hi
  refine DS.of (ps_try_manyAs (tb := fun W D σ H => (∀ (cls : Value) (d : Option Addr) (σ : L2.St) (H : Hp), σ.length = X.N.length → WD X.K T A xt cls d σ H → W cls d σ H) ∧ tS X T A ρ O D σ H) hs hf hN hi' hln tk (fun W pn xe tw po => ⟨fun pins s σ H E I ⟨w, q⟩ => ?_⟩) hh.as) fun E σ H q => ⟨hh.wish (List.getElem?_eq_some_iff.mp hi').1 q.choose_spec.2.2.1, q⟩
  exact (hb pn xe (Takes.impI tw w) po).pe.run pins s σ H E I q
/-- e.f in an except suite -/
def excFD (f : Str) (C : CD) : D → Ev → Prop
  | .exc _ _ fs, ρ => ∃ d, fs.lookup f = some d ∧ C d ρ
  | _, _ => False
theorem de_xf {a Cc dx : Addr} {oe : Obj} {fs : List (Str × D)} {pn : List (Addr × Obj)} {f x fn : Str} {C : CD} {pos p1 : Pos} {w : World} (E : KnE X.prog X.w X.K X.mg X.base x Cc f) (hz : Zc (.ref Cc) (some dx) oe) (hf : ∃ vs, oe.data = .fields vs) (hi : slotOf X.N n = some i) (e0 : ρ.sl[i]? = some (.dat (.exc a dx fs))) {d : D} (hd : fs.lookup f = some d) (h : C d ρ)
    (hv : Vis X.env.scope n := by first | exact Or.inl rfl | exact Or.inr (Or.inl rfl) | exact Or.inr (Or.inr rfl)) (hdb : (n == ("__debug__" : Str)) = false := by decide) (hcd : (n == ("__classdict__" : Str)) = false := by decide)
    (hb : attributeBase (.Name n p1) f X.env (eval (.Name n p1) X.env) = eval (.Name n p1) X.env := by rfl) : DE (X.suite a ((a, oe) :: pn)) T A ρ (.Attribute (.Name n p1) f pos) C :=
  DE.of (pe_xf (X := X) E.xf E.no hz hf (pe_var (X := X.suite a ((a, oe) :: pn)) (slotOf_ok hi) hv hdb hcd) hb) fun σ H Q F ok q => by
    obtain ⟨v, e1, r⟩ := ok.slots i _ e0
    cases r with
    | exc hF t =>
      obtain ⟨v, e2, r2⟩ := Rf.get t hd
      exact ⟨_, e1, rfl, rfl, dx, _, v, rfl, ok.sub _ _ hF, e2, q _ _ h v F H (Same.refl _) rfl ok r2⟩
end
end DL
end

section
/-! a lambda handed to a def: as HandS.Lambda has it, told more: nothing that was tracked is gone. -/
namespace DL
open PySem PySem.Spec L2 LamX
open PyProof.Rows
section
variable {X : Cx} {pins : List (Addr × Obj)} {σ : L2.St} {H : Hp} {s : Shared}
/-- the lambda is made: its code object is new, or found in the table -/
theorem lam_make3 {T : List (Addr × Str)} {c P : Addr} {params : Arguments} {body : Expr} {scope : Scope} {pos : Pos} {E : Value → Shared → Prop} {Q : Value → Shared → Prop} (I : Inv X pins σ H s) (TB : TabB X.base X.mg c P) (hcode : X.env.code = .ref c)
    (hm : (P, X.env.qual ++ "<lambda>") ∈ T) (hu : ∀ p ∈ T, p.1 = P → p.2 = X.env.qual ++ "<lambda>") (hT : Tabs T H) (hdef : defaultsOf params X.env = ([], [])) (hfree : ∀ y ∈ scope.names, y.2 = .free → ∃ c, X.env.cells.lookup y.1 = some c)
    (h : ∀ (f c' : Addr) (pm ctv : Value) (H1 : Hp) (s' : Shared), Inv X pins σ H1 s' → ExtN H H1 → (∀ b, H1 b = Option.none → H b = Option.none) → Tabs T H1 →
      s'.heap.get? f = some (PySem.W.kla_obj "<lambda>" (X.env.qual ++ "<lambda>") params body scope (cloFrom X.env.cells scope.names []) pm c' ctv) → H1 f = none → f ∉ frs X.stack → H1 c' = some (CodeO c' (X.env.qual ++ "<lambda>")) → Q (.ref f) s') :
    wpAny (model X.prog X.w) X.A (eval (.Lambda params body scope pos) X.env) Q E s := by
  obtain ⟨ps, hP, ht, ha⟩ := hT _ hm
  refine PySem.W.kla_eval hdef ?_
  have bP : s.heap.BuiltinsAt X.mg P := TB.bm.keeps I.bk
  have hP' : s.heap.get? P = some { cls := .none, data := .fields ps } := I.hok P _ hP
  have nofr : ∀ f, s.heap.objs.size ≤ f → f ∉ frs X.stack := fun f hf z => by
    rcases List.mem_cons.mp (I.stkSub _ z) with e | e
    · have h1 := I.lt
      rw [← e] at h1
      exact Nat.lt_irrefl _ (Nat.lt_of_lt_of_le h1 hf)
    · exact I.nofs hf e
  cases hc : codeAmong pos ps.toList with
  | none =>
    refine PySem.W.kla_makeFunction (mg := X.mg) (c := c) (P := P) (ps := ps) (closure_ok hfree) I.ok.glob (I.mod.glob.keeps I.bk) hcode (TB.code.keeps I.bk) hP' ht hc TB.gP bP fun c' ctv h' tk hx hge hlt hrec htb => ?_
    obtain ⟨c2, oc, vs, t, e2, hoc, hd, hv⟩ := hrec
    cases e2
    have hsz : s.heap.objs.size ≤ h'.objs.size := Nat.le_trans hge (Nat.le_of_lt hlt)
    have nC : H c' = none := I.hok.fresh hge
    have I1 := inv_table (t' := tk) (more := #[rawInt pos.line, rawInt pos.col, .ref c']) (h' := h'.push (PySem.W.kla_obj "<lambda>" (X.env.qual ++ "<lambda>") params body scope (cloFrom X.env.cells scope.names []) ((X.mg "__name__").getD .none) c' ctv)) I hP
      (fun b o hb e => Heap.get?_push_of_some _ (hx b o hb e)) (Heap.get?_push_of_some _ htb) hge ⟨oc, vs, t, Heap.get?_push_of_some _ hoc, hd, hv⟩
    have hE : ExtN H (upd (upd H P (.tbl (ps ++ #[rawInt pos.line, rawInt pos.col, .ref c']))) c' (CodeO c' (X.env.qual ++ "<lambda>"))) := fun b o e n => by
      rw [upd_ne (ne_of_none e nC), upd_ne (fun z => n ps (Option.some.inj (e.symm.trans (by rw [z]; exact hP))))]
      exact e
    have eL : (ps ++ #[rawInt pos.line, rawInt pos.col, .ref c']).toList = ps.toList ++ [rawInt pos.line, rawInt pos.col, .ref c'] := by simp
    refine h h'.objs.size c' ((X.mg "__name__").getD .none) ctv _ _ I1 hE (fun b e => NdefX.upd_none (NdefX.upd_none e)) (fun p hp => ?_) (Heap.get?_push_size _ rfl) ?_ (nofr _ hsz) upd_same
    · by_cases hb : p.1 = P
      · rw [hu p hp hb, hb]
        refine ⟨_, by rw [upd_ne (ne_of_none hP nC), upd_same], by rw [eL]; exact PySem.TriplesOk_snoc _ _ _ _ ht, fun p' cv hcv => ?_⟩
        rw [eL] at hcv
        rcases among_app _ ht hcv with z | z
        · obtain ⟨c0, e1, e2⟩ := ha p' cv z
          exact ⟨c0, e1, hE _ _ e2 codeO_ne⟩
        · exact ⟨c', z, upd_same⟩
      · obtain ⟨ps', a1, a2, a3⟩ := hT p hp
        refine ⟨ps', by rw [upd_ne (ne_of_none a1 nC), upd_ne hb]; exact a1, a2, fun p' cv hcv => ?_⟩
        obtain ⟨c0, e1, e2⟩ := a3 p' cv hcv
        exact ⟨c0, e1, hE _ _ e2 codeO_ne⟩
    · have n1 : h'.objs.size ≠ c' := Nat.ne_of_gt hlt
      have n2 : h'.objs.size ≠ P := Nat.ne_of_gt (Nat.lt_of_lt_of_le (Heap.lt_size hP') hsz)
      rw [upd_ne n1, upd_ne n2]
      exact I.hok.fresh hsz
  | some cv =>
    obtain ⟨c', e, hco⟩ := ha pos cv hc
    subst e
    refine PySem.W.kla_makeFunctionHit (mg := X.mg) (c := c) (P := P) (ps := ps) (closure_ok hfree) I.ok.glob (I.mod.glob.keeps I.bk) hcode (TB.code.keeps I.bk) hP' ht hc bP fun ctv h' tk hx hsz => ?_
    have I1 : Inv X pins σ H { s with heap := h'.push (PySem.W.kla_obj "<lambda>" (X.env.qual ++ "<lambda>") params body scope (cloFrom X.env.cells scope.names []) ((X.mg "__name__").getD .none) c' ctv), toks := tk } := I.kept fun b o e => Heap.get?_push_of_some _ (hx b o e)
    exact h h'.objs.size c' ((X.mg "__name__").getD .none) ctv H _ I1 (ExtN.refl H) (fun _ e => e) hT (Heap.get?_push_size _ rfl) (I.hok.fresh hsz) (nofr _ hsz) hco
end
def tLamM (T : List (Addr × Str)) (TT : (XK → Hp → VK → Prop) → Hp → VK → Prop) (t : XK → TE) : TE := fun σ H Q => Tabs T H ∧ ∀ H1, ExtN H H1 → (∀ b, H1 b = Option.none → H b = Option.none) → Tabs T H1 → TT (fun E H' Q' => t E σ H' Q') H1 Q
section
variable {X : Cx}
/-- x(lambda: body) -/
theorem pe_lamcallM {T : List (Addr × Str)} {TT : (XK → Hp → VK → Prop) → Hp → VK → Prop} {x a : Str} {g c P : Addr} {k : Nat} {pg : Arguments} {bg : List Stmt} {sg : Scope} {dV kV doc pm cdv ct oc : Value} {an od : Option Addr} {osl : Array (Option Value)} {Ng : List Str}
    {params : Arguments} {body : Expr} {scope : Scope} {t : XK → TE} {p lpos pos : Pos} (hg : Gl X x) (hm : X.mg x = some (.ref g)) (hk : PySem.W.keepIn X.K (.ref g) = true)
    (lk : X.K.lookup g = some ⟨oc, od, .func (PySem.W.fnOf x x pg bg sg dV kV doc pm an cdv ct), osl⟩) (hcg : PySem.W.codeIn X.K cdv x = true) (hb : L2.Binds X.K (PySem.W.fnOf x x pg bg sg dV kV doc pm an cdv ct) [a] []) (Sg : FnScope Ng [a] sg) (hNg : Ng[0]? = some a) (hva : Vis sg a)
    (hG : GivesTo X Ng x sg g cdv bg a (X.env.qual ++ "<lambda>") TT)
    (TB : TabB X.base X.mg c P) (hcode : X.env.code = .ref c) (hmT : (P, X.env.qual ++ "<lambda>") ∈ T) (hu : ∀ p ∈ T, p.1 = P → p.2 = X.env.qual ++ "<lambda>") (hr : Room (k + 2) X.A) (L : LamS X.env.scope scope) (hdef : defaultsOf params X.env = ([], []))
    (hbind : ∀ (q : Str) (cl : List (Str × Addr)) (pm cv ctv : Value), bindArgs (PySem.W.kla_fn "<lambda>" q params body scope cl pm cv ctv) ⟨[], []⟩ = pure [])
    (hbody : ∀ (A : Around) (outer : List Env) (s : Shared) (H : Hp) (E : XK) (f c' : Addr), Room k (A.deeper (lamEnv X scope s.heap.objs.size f c')) → PE (lamCx X A outer s H E scope f c') body (t E))
    (hdb : (x == ("__debug__" : Str)) = false := by decide) (hd : (a == ("__debug__" : Str)) = false := by decide) (hcd : (a == ("__classdict__" : Str)) = false := by decide) :
    PE X (.Call (.Name x p) [.Lambda params body scope lpos] [] pos) (tLamM T TT t) := by
  refine ⟨fun pins s σ H Q I h => ?_⟩
  obtain ⟨hT, h⟩ := h
  refine wpAny_Call_Name_kw (ld_glob I hg hm ?_ hdb)
  refine PySem.W.callWith_K (h₀ := X.base) I.ok.mod.kin hk ?_ (by rfl) (by rfl)
  show wpAny _ _ (spliced ((false, eval (.Lambda params body scope lpos) X.env) :: backTo pos (starEach [] X.env))) _ _ s
  refine Calls.spliced_cons (lam_make3 I TB hcode hmT hu hT hdef (L.has I.ok) fun f c' pm' ctv H1 s' I1 eN nn T1 hf hfn hfr hco => ?_)
  refine Calls.spliced_nil ⟨I1.kIn, ?_⟩
  have rc : codeAny (model X.prog X.w) X.A (.call (.ref g) ⟨[.ref f], []⟩) (CR C8.CX0 X.stack X.prog X.w H1 s' Q C8.E0) s' := by
    refine run_ofS (N := Ng) (ps := [a]) (us := [.ref f]) (vs := [.ref f]) lk hcg Sg hr I1.env0 (hb s' [.ref f] I1.kIn rfl) (.cons rfl .nil) rfl fun hr' => ?_
    obtain ⟨t', ht', hq'⟩ := hG f c' s' H1 Q (fun E H' Q' => t E σ H' Q') (fun W pn xe E p1 p2 tk hW => pe_act (i := 0) I1 L hf hfn hfr (hbind _ _ _ _ _) tk hW hr' (fun A outer s H hr2 => hbody A outer s H E f c' hr2) hNg hva hd hcd) hco (h H1 eN nn T1)
    exact ⟨t', ht'.nox, hq'⟩
  refine wpAny_call (codeAny_mono rc fun r s2 hq => ?_)
  cases r with
  | error e => exact (show False from hq).elim
  | ok fl =>
    cases fl with
    | ret u => exact I1.after hq
    | next => exact False.elim hq
    | brk => exact False.elim hq
    | cont => exact False.elim hq
end
end DL
end

section
/-! a lambda handed to a def that calls it in a try, over data. -/
namespace DL
open PySem PySem.Spec L2 LamX
section
variable {K : PySem.W.Frag} {T : List (Addr × Str)} {A : Anc} {F F' H H1 H' : Hp} {σ : L2.St} {ρ : Ev} {g : Nat}
theorem Ok.extN (ok : Ok K T A F H σ ρ) (e : ExtN H H1) (n : ∀ b, H1 b = none → H b = none) (t : Tabs T H1) : Ok K T A F H1 σ ρ := by
  refine ⟨ok.sub0, fun b o q => e _ _ (ok.sub _ _ q) (ok.tabs.2 b o q), fun a o q nt w => e _ _ (ok.keep a o q nt w) nt, ok.apart, fun a h z => ok.there a h (n a z), ⟨t, ok.tabs.2⟩, ok.wsub, ok.wnew, fun a m => ?_, ok.slots, ok.ownS, fun p a ds q => ?_, ok.dist, ok.len⟩
  · obtain ⟨⟨c, m1, n1, h, r⟩, h2⟩ := ok.strm a m
    exact ⟨⟨c, m1, n1, e _ _ h (by intro ps z; cases z), r⟩, h2⟩
  · obtain ⟨h1, h2, h3, vs, h4, h5⟩ := ok.owns p a ds q
    exact ⟨h1, h2, h3, vs, e _ _ h4 h5.noTbl, h5⟩
def starS (sl : List Sl) : List Sl := sl.map fun | .dat d => .dat d | _ => .non
theorem starS_get {sl : List Sl} {i : Nat} {u : Sl} (h : (starS sl)[i]? = some u) : (∃ d, u = .dat d ∧ sl[i]? = some (.dat d)) ∨ u = .non := by
  unfold starS at h
  rw [List.getElem?_map] at h
  obtain ⟨x, e, q⟩ := Option.map_eq_some_iff.mp h
  cases x with
  | non => exact .inr q.symm
  | dat d => exact .inl ⟨d, q.symm, e⟩
  | own a ds => exact .inr q.symm
  | box a c => exact .inr q.symm
theorem Ok.star (ok : Ok K T A F H σ ρ) (ok' : Ok K T ⟨F, H, ρ.ws⟩ F' H' [] (.bare ρ.ws g)) : Ok K T ⟨F, H, ρ.ws⟩ F' H' σ ⟨starS ρ.sl, [], ρ.ws, g⟩ := by
  refine ok'.wake ?_ (fun i x e => ?_) fun i d e => ?_
  · unfold starS
    rw [List.length_map]
    exact ok.len
  · obtain ⟨s, e, eb⟩ := ownOf_bx (a := x.1) (c := x.2) e
    rcases starS_get e with ⟨d, q, _⟩ | q <;> (subst q; cases eb)
  · rcases starS_get e with ⟨d', q, e2⟩ | q
    · cases q
      obtain ⟨v, h1, h2⟩ := ok.slots i _ e2
      exact ⟨v, h1, h2.mo ok'.sub0⟩
    · cases q
end
/-- what a def that calls its argument in a try makes of it: R1 what the call tells, M what it raises -/
def TTmet (K : PySem.W.Frag) (T : List (Addr × Str)) (R1 : D → Nat → Out) (M : (Out → Prop) → XC) : (XK → Hp → VK → Prop) → Hp → VK → Prop := fun tl H Q => ∃ (F : Hp) (ws : List Addr) (g : Nat) (Cr : RV → Nat → Prop) (xm : XC) (C : Out → Prop),
  Ok K T ⟨F, H, ws⟩ F H [] (.bare ws g) ∧ (∀ r g', Cr r g' → C (R1 r.toD g')) ∧ (∀ c fs g', xm c fs g' → M C c fs g') ∧
  (∀ d g', C (.ret d g') → ∀ v F' H', Ok K T ⟨F, H, ws⟩ F' H' [] (.bare ws g') → R K F' ws v d → Q v H') ∧
  (∀ ds g', C (.new ds g') → ∀ a F' H', Ok K T ⟨F, H, ws⟩ F' H' [] (.bare ws g') → Gv K ⟨F, H, ws⟩ F' H' (.bare ws g') (.ref a) (.l a ds) → Q (.ref a) H') ∧
  (∀ c g', C (.newB c g') → ∀ a F' H', Ok K T ⟨F, H, ws⟩ F' H' [] (.bare ws g') → GvB K ⟨F, H, ws⟩ F' H' (.bare ws g') (.ref a) a c → Q (.ref a) H') ∧
  ∀ F' H', Ok K T ⟨F, H, ws⟩ F' H' [] (.bare ws g) → ∀ (E' : XK) (Q' : VK), (∀ cls d H2, WD K T ⟨F, H, ws⟩ xm cls d [] H2 → E' cls d H2) →
    (∀ v r g' F2 H2, Cr r g' → Same F' F2 → Ok K T ⟨F, H, ws⟩ F2 H2 [] (.bare ws g') → Gv K ⟨F, H, ws⟩ F2 H2 (.bare ws g') v r → Q' v H2) → tl E' H' Q'
section
variable {X : Cx} {T : List (Addr × Str)} {A : Anc} {ρ : Ev} {C : CV}
/-- the reading of the lambda's body -/
def tBody (X : Cx) (T : List (Addr × Str)) (k : Nat) (scope : Scope) (body : Expr) (E : XK) : TE := fun σ H Q => ∃ (An : Anc) (ρl : Ev) (Cv : CV) (xm : XC),
  (∀ (A1 : Around) (outer : List Env) (s : Shared) (H : Hp) (E : XK) (f c' : Addr), Room k (A1.deeper (lamEnv X scope s.heap.objs.size f c')) → Takes (lamCx X A1 outer s H E scope f c') (WD X.K T An xm) → DV (lamCx X A1 outer s H E scope f c') T An ρl body Cv) ∧
  (∀ cls d H', WD X.K T An xm cls d [] H' → E cls d H') ∧ tV X T An ρl Cv σ H Q
theorem dv_met {x a : Str} {g c P : Addr} {k : Nat} {pg : Arguments} {bg : List Stmt} {sg : Scope} {dV kV doc pm cdv ct oc : Value} {an od : Option Addr} {osl : Array (Option Value)} {Ng : List Str} {R1 : D → Nat → Out} {M : (Out → Prop) → XC}
    {params : Arguments} {body : Expr} {scope : Scope} {p lpos pos : Pos} (Cr : RV → Nat → Prop) (xm : XC)
    (h : ∀ (F H : Hp) (A1 : Around) (outer : List Env) (s : Shared) (H2 : Hp) (E : XK) (f c' : Addr), Room k (A1.deeper (lamEnv X scope s.heap.objs.size f c')) → Takes (lamCx X A1 outer s H2 E scope f c') (WD X.K T ⟨F, H, ρ.ws⟩ xm) →
      DV (lamCx X A1 outer s H2 E scope f c') T ⟨F, H, ρ.ws⟩ ⟨starS ρ.sl, [], ρ.ws, ρ.g⟩ body (fun r ρ' => Cr r ρ'.g))
    (h1 : ∀ r g', Cr r g' → outD A (fun _ _ _ => False) C ρ (R1 r.toD g')) (h2 : ∀ c fs g', xm c fs g' → M (outD A (fun _ _ _ => False) C ρ) c fs g')
    (hG : GivesTo X Ng x sg g cdv bg a (X.env.qual ++ "<lambda>") (TTmet X.K T R1 M))
    (hm : X.mg x = some (.ref g)) (hk : PySem.W.keepIn X.K (.ref g) = true)
    (lk : X.K.lookup g = some ⟨oc, od, .func (PySem.W.fnOf x x pg bg sg dV kV doc pm an cdv ct), osl⟩) (hcg : PySem.W.codeIn X.K cdv x = true) (hb : L2.Binds X.K (PySem.W.fnOf x x pg bg sg dV kV doc pm an cdv ct) [a] []) (Sg : FnScope Ng [a] sg) (hNg : Ng[0]? = some a) (hva : Vis sg a)
    (TB : TabB X.base X.mg c P) (hcode : X.env.code = .ref c) (hmT : (P, X.env.qual ++ "<lambda>") ∈ T) (hu : ∀ p ∈ T, p.1 = P → p.2 = X.env.qual ++ "<lambda>") (hr : Room (k + 2) X.A) (L : LamS X.env.scope scope)
    (hg : Gl X x := by rfl) (hdef : defaultsOf params X.env = ([], []) := by rfl)
    (hbind : ∀ (q : Str) (cl : List (Str × Addr)) (pm cv ctv : Value), bindArgs (PySem.W.kla_fn "<lambda>" q params body scope cl pm cv ctv) ⟨[], []⟩ = pure [] := by intro _ _ _ _ _; rfl)
    (hdb : (x == ("__debug__" : Str)) = false := by decide) (hd : (a == ("__debug__" : Str)) = false := by decide) (hcd : (a == ("__classdict__" : Str)) = false := by decide) : DV X T A ρ (.Call (.Name x p) [.Lambda params body scope lpos] [] pos) C := by
  refine DV.of (pe_lamcallM (t := tBody X T k scope body) hg hm hk lk hcg hb Sg hNg hva hG TB hcode hmT hu hr L hdef hbind (fun A1 outer s H E f c' hr2 => ?_) hdb hd hcd) fun σ H Q F ok q => ⟨ok.tabs.1, fun H1 eN nn T1 => ?_⟩
  · refine ⟨fun pins s' σ H' Q I ⟨An, ρl, Cv, xm, hd, hE, q⟩ => (hd A1 outer s H E f c' hr2 ?_).pe.run pins s' σ H' Q I q⟩
    exact (takes_of rfl rfl rfl rfl).imp fun cls d σ H w => hE cls d H w
  · have ok1 := ok.extN eN nn T1
    refine ⟨F, ρ.ws, ρ.g, Cr, xm, outD A (fun _ _ _ => False) C ρ, ok1.bare, h1, h2, fun d g' c v F' H' ok' r' => ?_, fun es g' c a F' H' ok' g' => q _ _ (c a) (.ref a) F' H' ok'.sub0 rfl (ok1.back ok') (ok1.backB ok' g'), fun cc g' c a F' H' ok' g' => q _ _ (c a) (.ref a) F' H' ok'.sub0 rfl (ok1.back ok') (ok1.backB ok' g'), fun F' H' ok' E' Q' hE hQ => ?_⟩
    · exact q _ _ c v F' H' ok'.sub0 rfl (ok1.back ok') r'
    · exact ⟨_, _, _, xm, h F H1, hE, F', ok1.star ok', fun r ρ' c v F2 H2 s2 w2 ok2 g2 => hQ v r ρ'.g F2 H2 c s2 ok2.drop (g2.bare w2)⟩
end
end DL
end

section
/-! the def that calls its argument in a try, by its body. -/
namespace DL
open PySem PySem.Spec L2 LamX
abbrev metCx (X : Cx) (Ng : List Str) (x : Str) (sg : Scope) (g : Addr) (cdg : Value) (s : Shared) (H : Hp) : Cx := cxOf C8.CX0 X.prog X.w X.K X.mg X.base Ng x sg g cdg X.A X.stack s H C8.E0
theorem gives_D {X : Cx} {T : List (Addr × Str)} {Ng : List Str} {x a q : Str} {sg : Scope} {g : Addr} {cdg : Value} {bg : List Stmt} {R1 : D → Nat → Out} {M : (Out → Prop) → XC} (Sg : FnScope Ng [a] sg)
    (hw : ∀ (s : Shared) (H : Hp) (An : Anc) (f : Addr) (gas : Nat) (Cr : RV → Nat → Prop) (xm : XC) (C : Out → Prop), (∀ r g', Cr r g' → C (R1 r.toD g')) → (∀ c fs g', xm c fs g' → M C c fs g') →
      (∀ (pn : List (Addr × Obj)) (xe : Value → Shared → Prop) (xt : XC) (p1 p2 : Pos), (∀ c fs g', xm c fs g' → xt c fs g') → Takes ((metCx X Ng x sg g cdg s H).tr pn xe) (WD X.K T An xt) →
        DV ((metCx X Ng x sg g cdg s H).tr pn xe) T An ⟨pad [.ref f] (Ng.length - 1), [], An.ws, gas⟩ (.Call (.Name a p1) [] [] p2) (fun r ρ' => ρ'.ws = An.ws ∧ Cr r ρ'.g)) →
      DSs (metCx X Ng x sg g cdg s H).nox T An ⟨pad [.ref f] (Ng.length - 1), [], An.ws, gas⟩ bg (bodyO An.ws C)) :
    GivesTo X Ng x sg g cdg bg a q (TTmet X.K T R1 M) := by
  intro f c' s H Q tl act hc h
  obtain ⟨F, ws, gas, Cr, xm, C, ok, h1, h2, hret, hnew, hnewB, hact⟩ := h
  have hN : 1 ≤ Ng.length := by
    have e := Sg.pre
    cases Ng with
    | nil => cases e
    | cons _ _ => exact Nat.succ_le_succ (Nat.zero_le _)
  have padL : ∀ {σ : L2.St}, Ng.length ≤ σ.length → (pad [.ref f] (Ng.length - 1)).length ≤ σ.length := fun {σ} h => by
    unfold pad
    rw [List.length_append, List.length_map, List.length_replicate]
    show 1 + (Ng.length - 1) ≤ _
    omega
  have padG : ∀ {F' : Hp} {σ : L2.St}, σ[0]? = some (some (.ref f)) → ∀ (i : Nat) d, (pad [.ref f] (Ng.length - 1))[i]? = some (.dat d) → ∃ v, σ[i]? = some (some v) ∧ R X.K F' ws v d := fun {F' σ} h0 i d e => by
    cases i with
    | zero => cases e; exact ⟨_, h0, .ref⟩
    | succ i =>
      have e2 : (List.replicate (Ng.length - 1) Sl.non)[i]? = some (.dat d) := e
      rw [List.getElem?_replicate] at e2
      split at e2 <;> cases e2
  have startL : (L2.start Ng [.ref f]).length = Ng.length := by
    unfold L2.start
    rw [List.length_append, List.length_map, List.length_replicate]
    show 1 + (Ng.length - 1) = _
    omega
  have hb := hw s H ⟨F, H, ws⟩ f gas Cr xm C h1 h2 (fun pn xe xt p1 p2 hx tk => ?_)
  · refine ⟨_, hb.pe, F, ok.wake (padL (Nat.le_of_eq startL.symm)) (fun _ _ => pad_bx) (padG rfl), fun ρ' c σ' F2 H2 s2 w2 ok2 => ?_, fun rv ρ' c v σ' F2 H2 ok2 gv => ?_, fun ρ' c => c.elim, fun ρ' c => c.elim⟩
    · exact hret _ _ c .non F2 H2 ok2.drop .non
    · cases rv with
      | v d =>
        obtain ⟨hw, c⟩ := c
        refine hret _ _ c v F2 H2 ok2.drop ?_
        rcases hw with hw | ⟨b, rfl⟩
        · have gv' : R X.K F2 ρ'.ws v d := gv
          rw [hw] at gv'
          exact gv'
        · cases (show R X.K F2 ρ'.ws v (.bl b) from gv)
          exact .bl _
      | l a es =>
        obtain ⟨hw, c⟩ := c
        obtain ⟨rfl, _⟩ := id gv
        exact hnew _ _ c a F2 H2 ok2.drop (gv.bare hw)
      | b a cc =>
        obtain ⟨hw, c⟩ := c
        obtain ⟨rfl, _⟩ := id gv
        exact hnewB _ _ c a F2 H2 ok2.drop (gv.bare hw)
  · refine DV.of (act (WD X.K T ⟨F, H, ws⟩ xt) pn xe (fun cls d H' => WD X.K T ⟨F, H, ws⟩ xt cls d [] H') p1 p2 tk (fun _ _ _ _ z => z)) fun σ H' Q' F' ok' q' => ?_
    obtain ⟨v, e1, r1⟩ := ok'.slots 0 (.ref f) rfl
    cases r1
    have hcw : c' ∉ ws := fun z => by
      obtain ⟨⟨_, _, _, e, _⟩, _⟩ := ok.strm c' z
      rw [e] at hc
      cases hc
    have hlen := ok'.len
    refine ⟨e1, ok'.keep c' _ hc (fun ps => codeO_ne ps) hcw, hact F' H' ok'.drop _ _ (fun cls d H2 ⟨c, dx, fs, xs, g', F2, e1, e2, ok2, hx2, rf, w⟩ => ⟨c, dx, fs, xs, g', F2, e1, e2, ok2, hx2, rf, hx _ _ _ w⟩) fun v r g' F2 H2 c s2 ok2 g2 => ?_⟩
    have ok3 : Ok X.K T ⟨F, H, ws⟩ F2 H2 σ ⟨pad [.ref f] (Ng.length - 1), [], ws, g'⟩ := ok2.wake hlen (fun _ _ => pad_bx) (padG e1)
    refine q' r ⟨pad [.ref f] (Ng.length - 1), [], ws, g'⟩ ⟨rfl, c⟩ v F2 H2 s2 rfl ok3 ?_
    have key : ∀ {a : Addr} {c : Con}, GvB X.K ⟨F, H, ws⟩ F2 H2 (.bare ws g') v a c → GvB X.K ⟨F, H, ws⟩ F2 H2 ⟨pad [.ref f] (Ng.length - 1), [], ws, g'⟩ v a c := fun {a c} g2 => by
      obtain ⟨h1, h2, h3, h4, h5, _⟩ := g2
      refine ⟨h1, h2, h3, h4, h5, fun p ds' z => ?_⟩
      cases p with
      | inl i => exact pad_bx z
      | inr j => cases z
    cases r with
    | v d => exact g2
    | l a ds => exact key g2
    | b a c => exact key g2
end DL
end

section
/-! expressions that only read; a lambda of one parameter over such; sorted(range(n), key=it). -/
namespace DL
open PySem PySem.Spec L2 LamX
open PyProof.Rows (IsTup seqObj)
abbrev HKeep (h h' : Heap) : Prop := ∀ b o, h.get? b = some o → h'.get? b = some o
theorem HKeep.trans {h h' h'' : Heap} (a : HKeep h h') (b : HKeep h' h'') : HKeep h h'' := fun c o e => b c o (a c o e)
theorem HKeep.push {h : Heap} (o : Obj) : HKeep h (h.push o) := fun _ _ e => Heap.get?_push_of_some _ e
section
variable (prog : Program) (w : World)
/-- e only reads: it tells a value that reads as p -/
def PR (A : Around) (env : Env) (h : Heap) (e : Expr) (p : PyData) : Prop := ∀ (h1 : Heap) (g : Array GenState) (d : Drawn) (t : Nat) (os : OsState) (Q E : Value → Shared → Prop), HKeep h h1 →
  (∀ (h2 : Heap) (t2 : Nat) (v : Value) (as : List Addr), HKeep h1 h2 → Reads h2 v p as → Q v ⟨h2, g, d, t2, os⟩) → wpAny (model prog w) A (eval e env) Q E ⟨h1, g, d, t, os⟩
end
section
variable {prog : Program} {w : World} {A : Around} {env : Env} {h : Heap} {a b : Expr} {p q : PyData} {pos : Pos} {x : Str}
theorem pr_loc {m : Str → Option Value} {v : Value} {as : List Addr} (hk : env.scope.kind = .function) (hx : env.kindOf x = some .local) (hn : h.Ns env.locals m) (hv : m x = some v) (r : Reads h v p as) (hd : (x == ("__debug__" : Str)) = false := by decide) : PR prog w A env h (.Name x pos) p :=
  fun h1 g d t os Q E k q => wpAny_Name (wpAny_loadName_local hk hx (hn.keeps k) hv (q h1 t v as (fun _ _ e => e) (PyProof.Rows.Reads.keeps k r))) hd
theorem pr_free {c : Addr} {v : Value} {as : List Addr} (hk : env.scope.kind = .function) (hx : env.kindOf x = some .free) (hc : env.cells.lookup x = some c) (hv : h.IsCell c (some v)) (r : Reads h v p as) (hd : (x == ("__debug__" : Str)) = false := by decide) (hn : (x == ("__classdict__" : Str)) = false := by decide) : PR prog w A env h (.Name x pos) p :=
  fun h1 g d t os Q E k q => wpAny_Name (wpAny_loadName_free hk hx hc (by obtain ⟨o, ho, hd⟩ := hv; exact ⟨o, k _ _ ho, hd⟩) (q h1 t v as (fun _ _ e => e) (PyProof.Rows.Reads.keeps k r)) hn) hd
theorem pr_int {i : Int} {j : Nat} : PR prog w A env h (.Constant (.int i) j pos) (.int i) :=
  fun h1 g d t os Q E k q => wpAny_Constant_int (q h1 (t + 1) _ [] (fun _ _ e => e) (.int _ _))
theorem readsAll_get : ∀ {h : Heap} {vs : List Value} {ps : List PyData} {as : List Addr} {j : Nat} {p : PyData}, ReadsAll h vs ps as → ps[j]? = some p → ∃ v bs, vs[j]? = some v ∧ Reads h v p bs
  | _, _, [], _, _, _, _, e => by simp at e
  | _, _, q :: ps, _, j, p, r, e => by
    cases r with
    | cons r1 r2 =>
      cases j with
      | zero =>
        simp only [List.getElem?_cons_zero, Option.some.injEq] at e
        subst e
        exact ⟨_, _, rfl, r1⟩
      | succ j =>
        obtain ⟨v, bs, e1, r3⟩ := readsAll_get (j := j) r2 (by simpa using e)
        exact ⟨v, bs, by simpa using e1, r3⟩
theorem readsAll_len : ∀ {h : Heap} {vs : List Value} {ps : List PyData} {as : List Addr}, ReadsAll h vs ps as → vs.length = ps.length
  | _, _, [], _, r => by cases r; rfl
  | _, _, q :: ps, _, r => by
    cases r with
    | cons r1 r2 => rw [List.length_cons, List.length_cons, readsAll_len r2]
/-- a[b], a list or a tuple, b a place in it -/
theorem pr_ix {ps : List PyData} {j : Nat} {i : Int} (ha : PR prog w A env h a (.list ps) ∨ PR prog w A env h a (.tuple ps)) (hb : PR prog w A env h b (.int i)) (hi : i = (j : Nat)) (hj : ps[j]? = some p) (hz : ps.length ≤ 2 ^ 62) (hs : PlainIx b) : PR prog w A env h (.Subscript a b pos) p := by
  intro h1 g d t os Q E k q
  have hjl : j < ps.length := (List.getElem?_eq_some_iff.mp hj).1
  subst hi
  refine PyProof.Rows.Subscript_ ?_
  have inner : ∀ (h2 : Heap) (t2 : Nat) (v : Value) (as : List Addr), HKeep h1 h2 → (Reads h2 v (.list ps) as ∨ Reads h2 v (.tuple ps) as) → wpAny (model prog w) A (eval b env) (fun u s2 => wpAny (model prog w) A (PyProof.Rows.subscriptTail a b v u) Q E s2) E ⟨h2, g, d, t2, os⟩ := fun h2 t2 v as k2 r => by
    refine hb h2 g d t2 os _ _ (HKeep.trans k k2) fun h3 t3 u bs k3 ru => ?_
    cases ru
    rename_i tk
    rcases r with r | r
    · cases r with
      | list e1 e2 e3 e4 =>
        rename_i ad o vs n as
        obtain ⟨v, cs, ev, rv⟩ := readsAll_get e4 hj
        have hl := readsAll_len e4
        rw [Array.length_toList] at hl
        refine PyProof.Rows.item_listR (items := vs) (k := (j : Nat)) (x := v) ⟨o, k3 _ _ e1, e2, n, e3⟩ (by omega) (by omega) (by rw [Int.toNat_natCast]; simpa using ev) (q h3 t3 v cs (HKeep.trans k2 k3) (PyProof.Rows.Reads.keeps k3 rv)) (hs _ _)
    · cases r with
      | tuple e1 e2 e3 e4 =>
        rename_i ad o vs n
        obtain ⟨v, cs, ev, rv⟩ := readsAll_get e4 hj
        have hl := readsAll_len e4
        rw [Array.length_toList] at hl
        have pl : IsTup h3 ad vs := ⟨o, k3 _ _ e1, e2, n, e3⟩
        exact PyProof.Rows.subscriptTail_builtinR (x := v) pl.typeIs PyProof.Rows.slot_tuple_getitem.lookup
          (PyProof.Rows.getItem_tuple (k := (j : Nat)) (j := j) (Q := fun r s' => r = v ∧ Q r s') pl (by omega) (by omega) (by rw [seqIndex_of (by omega) (by omega), Int.toNat_natCast]) (by simpa using ev) ⟨rfl, q h3 t3 v cs (HKeep.trans k2 k3) (PyProof.Rows.Reads.keeps k3 rv)⟩) (hs _ _)
  rcases ha with ha | ha
  · exact ha h1 g d t os _ _ k fun h2 t2 v as k2 r => inner h2 t2 v as k2 (.inl r)
  · exact ha h1 g d t os _ _ k fun h2 t2 v as k2 r => inner h2 t2 v as k2 (.inr r)
/-- (a, b) of two ints -/
theorem pr_pair {i j : Int} {k : Nat} (ha : PR prog w A env h a (.int i)) (hb : PR prog w A env h b (.int j)) (he1 : starEach [a, b] env = (false, eval a env) :: starEach [b] env := by rfl) (he2 : starEach [b] env = (false, eval b env) :: starEach [] env := by rfl) :
    ∀ (h1 : Heap) (g : Array GenState) (d : Drawn) (t : Nat) (os : OsState) (Q E : Value → Shared → Prop), HKeep h h1 →
    (∀ (h2 : Heap) (t2 : Nat) (v : Value), HKeep h1 h2 → Reads h2 v (.tuple [.int i, .int j]) [] → Q v ⟨h2, g, d, t2, os⟩) → wpAny (model prog w) A (eval (.Tuple [a, b] k pos) env) Q E ⟨h1, g, d, t, os⟩ := by
  intro h1 g d t os Q E kk q
  refine wpAny_Tuple_spliced (PyProof.Rows.args_cons ?_ he1)
  refine ha h1 g d t os _ _ kk fun h2 t2 v as k2 r => ?_
  cases r
  refine PyProof.Rows.args_cons ?_ he2
  refine hb h2 g d t2 os _ _ (HKeep.trans kk k2) fun h3 t3 u bs k3 r => ?_
  cases r
  refine PyProof.Rows.args_nil ⟨by show 2 ≤ sizeLine; decide, ?_⟩
  refine q _ _ _ (HKeep.trans (HKeep.trans k2 k3) (HKeep.push _)) (.tuple (Heap.get?_push_size _ rfl) rfl rfl ?_)
  exact .cons (as := []) (.int _ _) (.cons (as := []) (.int _ _) .nil)
/-- a lambda of one parameter over such an expression, called -/
theorem lam1_pure {s : Shared} {f c' : Addr} {qual pn : Str} {params : Arguments} {body : Expr} {scope : Scope} {cl : List (Str × Addr)} {pm ctv v : Value} {k : PyData} (ho : s.heap.get? f = some (PySem.W.kla_obj "<lambda>" qual params body scope cl pm c' ctv)) (hcode : s.heap.CodeRec (.ref c') qual)
    (hroom : A.depth < recursionLimit) (lim : s.heap.NoLimit) (hbind : bindArgs (PySem.W.kla_fn "<lambda>" qual params body scope cl pm (.ref c') ctv) ⟨[v], []⟩ = pure [(pn, v)]) (hk : scope.kind = .function) (hco : scope.isCoroutine = false) (hgen : scope.isGenerator = false)
    (hcell : ∀ y ∈ scope.names, y.2 ≠ .cell) (hl : scope.names.lookup pn = some .local)
    (hbody : ∀ (L : Addr) (h1 : Heap), HKeep s.heap h1 → h1.Ns L (fun y => [(pn, v)].lookup y) → ∀ (g : Array GenState) (d : Drawn) (t : Nat) (os : OsState) (Q E : Value → Shared → Prop),
      (∀ (h2 : Heap) (t2 : Nat) (u : Value), HKeep h1 h2 → Reads h2 u k [] → Q u ⟨h2, g, d, t2, os⟩) → wpAny (model prog w) (A.deeper (PySem.W.envX qual scope L f (.ref c') cl)) (eval body (PySem.W.envX qual scope L f (.ref c') cl)) Q E ⟨h1, g, d, t, os⟩) :
    wpAny (model prog w) A (call (.ref f) [v]) (PySem.W.KeyPure k s) (fun _ _ => False) s := by
  refine wpAny_call (PySem.W.kla_callFunE hroom ho rfl hco hgen rfl hcode ?_)
  rw [hbind]
  refine wpAny_pure (wpAny_newFunctionEnv hcell (fun y hy => ?_) (fun h₁ hns hsb => ⟨lim.fresh _ hsb, ?_⟩) hk)
  · simp only [List.mem_singleton] at hy
    subst hy
    exact hl
  show codeAny _ _ (.expr body (PySem.W.envX qual scope s.heap.objs.size f (.ref c') cl)) _ _
  have kp : HKeep s.heap h₁ := fun b o e => hsb.extBut b o (Nat.ne_of_lt (Heap.lt_size e)) (Heap.get?_push_of_some _ e)
  exact PySem.W.kla_codeExpr (hbody _ h₁ kp hns s.gens s.drawn _ s.os _ _ fun h2 t2 u k2 r => ⟨h2, t2, rfl, HKeep.trans kp k2, r⟩)
end
section
open PyProof.Rows PySem.W
variable {prog : Program} {w : World} {A : Around} {E : Value → Shared → Prop} {s : Shared}
theorem each_items {n : Nat} {acc : Array Value} (h : ItemsOf (fun i v => ∃ t, v = Value.int (0 + (i : Int) * 1) t) acc n) : EachIs (fun v (i : Nat) => ∃ t, v = Value.int (i : Int) t) acc.toList (List.range n) := by
  obtain ⟨hs, hi⟩ := h
  have key : ∀ (l : List Value) (m : Nat), (∀ j v, l[j]? = some v → ∃ t, v = Value.int ((m + j : Nat) : Int) t) → EachIs (fun v (i : Nat) => ∃ t, v = Value.int (i : Int) t) l (List.range' m l.length) := by
    intro l
    induction l with
    | nil => intro m _; exact .nil
    | cons x l ih =>
      intro m hx
      rw [List.length_cons, List.range'_succ]
      refine .cons (hx 0 x rfl) (ih (m + 1) fun j v e => ?_)
      obtain ⟨t, e⟩ := hx (j + 1) v (by simpa using e)
      exact ⟨t, by rw [e, show m + 1 + j = m + (j + 1) by omega]⟩
  have e := key acc.toList 0 fun j v e => by
    obtain ⟨t, e⟩ := hi j v (by simpa using e)
    refine ⟨t, ?_⟩
    rw [e]
    congr 1
    omega
  rw [Array.length_toList, hs, ← List.range_eq_range'] at e
  exact e
theorem range_size {n : Nat} : Builtin.Range.rangeSize 0 (n : Int) 1 = n := by
  rw [rangeSize_pos (by omega) (by omega)]
  omega
/-- sorted(range(n), key=f) -/
theorem sorted_rng_key {r f : Addr} {n : Nat} {t u v : Tok} {Q : Value → Shared → Prop} (k : Nat → PyData) (hh : A.handled = none) (hr : IsRange s.heap r 0 n 1 t u v) (hn : n ≤ 2 ^ 20) (hal : AllAlike ((List.range n).map k)) (hk : Sortable ((List.range n).map k)) (hu : ∀ x, x ∈ List.range n → A.units + 2 + (k x).depth < cLine)
    (turn : ∀ (x : Value) (i : Nat), (∃ t, x = Value.int (i : Int) t) → i ∈ List.range n → ∀ (h : Heap) (tk : Nat), HKeep s.heap h → wpAny (model prog w) A.in1.in1 (call (.ref f) [x]) (KeyPure (k i) { s with heap := h, toks := tk }) (fun _ _ => False) { s with heap := h, toks := tk })
    (h : ∀ (a : Addr) out c h' tk, HKeep s.heap h' → s.heap.get? a = Option.none → h'.get? a = some (seqObj "list" (List.toArray out) c) → EachIs (fun v (i : Nat) => ∃ t, v = Value.int (i : Int) t) out ((List.range n).mergeSort (dataLe false k)) → Q (.ref a) { s with heap := h', toks := tk }) :
    wpAny (model prog w) A (call (.builtin "sorted") [.ref r] [(Str.ofString "key", .ref f)]) Q E s := by
  have hz : n ≤ sizeLine := by rw [sizeLine_eq]; omega
  refine call_function_entry_kw kind_sorted plain_sorted entry_sorted (ksk_s1 _ _) ?_
  unfold Builtin.«sorted»
  refine wpAny_bind (m := checkCount "sorted" 1 1 _) (wpAny_pure ?_)
  refine wpAny_bind (collect_range (A := A.in1) hh hr (small_one (by omega) (by omega) (by omega) (by omega)) range_size (by omega) fun h1 tk1 acc k1 hi => ?_)
  have el := each_items hi
  have hl : acc.toList.length = n := by rw [el.length, List.length_range]
  refine wpAny_bind (wpAny_newList ?_ (by rw [hl]; exact hz))
  have ho : (h1.push { cls := .type "list", data := .seq acc.toList.toArray }).get? h1.objs.size = some (seqObj "list" acc.toList.toArray 0) := Heap.get?_push_size _ rfl
  refine wpAny_bind (wpAny_holding (wpAny_call_entry_kw slot_list_sort ⟨_, ho, rfl⟩ entry_list_sort ?_ (ksk_l1 _ _)))
  rw [ksk_t1]
  have k2 : HKeep h1 (h1.push { cls := .type "list", data := .seq acc.toList.toArray }) := HKeep.push _
  have ksz : s.heap.get? h1.objs.size = Option.none := by
    cases q : s.heap.get? h1.objs.size with
    | none => rfl
    | some o => exact absurd (Heap.lt_size (k1 _ _ q)) (Nat.lt_irrefl _)
  have up : ∀ {g : Heap}, KeepsBut h1.objs.size (h1.push { cls := .type "list", data := .seq acc.toList.toArray }) g → HKeep s.heap g := fun {g} kp b o q =>
    kp b o (Nat.ne_of_lt (Heap.lt_size (k1 b o q))) (k2 b o (k1 b o q))
  refine keyH_tree (kz := (List.range n).map k) ho (by rw [List.length_map, List.length_range, hl]) (by rw [hl]; exact hz) hal hk (bound_map (A := A.in1.in1) hu)
    (keyH_turns (s := { s with heap := h1.push { cls := .type "list", data := .seq acc.toList.toArray }, toks := tk1 }) el fun v x hR hx h tk kp => turn v x hR hx h tk (up kp)) fun h' tk out c kp hD ko => ⟨_, rfl, wpAny_pure ⟨_, rfl, ?_⟩⟩
  exact h h1.objs.size out c h' tk (up kp) ksz hD (keyedOut_each k ko el)
end
end DL
end

section
/-! sorted(range(n), key=lambda i: (xs[i][0], i)), over data. -/
namespace DL
open PySem PySem.Spec L2 LamX
open PyProof.Rows (IsTup seqObj)
structure Lam1S (pn st : Str) (sc scope : Scope) : Prop where
  kind : scope.kind = .function
  co : scope.isCoroutine = false
  gen : scope.isGenerator = false
  cell : ∀ y ∈ scope.names, y.2 ≠ .cell
  free : ∀ y ∈ scope.names, y.2 = .free → y.1 = st
  par : scope.names.lookup pn = some .local
  fr : scope.names.lookup st = some .free
  up : sc.names.lookup st = some .cell
def lam1SB (pn st : Str) (sc scope : Scope) : Bool :=
  decide (scope.kind = .function) && !scope.isCoroutine && !scope.isGenerator && (scope.names.all fun y => !decide (y.2 = .cell) && (!decide (y.2 = .free) || y.1 == st)) && decide (scope.names.lookup pn = some .local) && decide (scope.names.lookup st = some .free) && decide (sc.names.lookup st = some .cell)
theorem lam1S_by {pn st : Str} {sc scope : Scope} (h : lam1SB pn st sc scope = true) : Lam1S pn st sc scope := by
  unfold lam1SB at h
  simp only [Bool.and_eq_true, Bool.or_eq_true, Bool.not_eq_true', decide_eq_true_eq, decide_eq_false_iff_not, List.all_eq_true, beq_iff_eq] at h
  obtain ⟨⟨⟨⟨⟨⟨h1, h2⟩, h3⟩, h4⟩, h5⟩, h6⟩, h7⟩ := h
  refine ⟨h1, h2, h3, fun y hy => (h4 y hy).1, fun y hy e => ?_, h5, h6, h7⟩
  rcases (h4 y hy).2 with z | z
  · exact absurd e z
  · exact z
def sortIx (n : Nat) (beg : Nat → Int) : List Nat := (List.range n).mergeSort fun p q => decide (beg p < beg q ∨ beg p = beg q ∧ (p : Int) ≤ q)
theorem each_vals : ∀ {vs : List Value} {is : List Nat}, PySem.W.EachIs (fun v (i : Nat) => ∃ t, v = Value.int (i : Int) t) vs is → Vals (is.map fun (i : Nat) => V.int (i : Int)) vs
  | _, _, .nil => .nil
  | _, _, .cons h t => .cons h (each_vals t)
section
variable {X : Cx} {T : List (Addr × Str)} {A : Anc} {ρ : Ev} {C : CV}
theorem rs_nats {K : PySem.W.Frag} {F : Hp} {ws : List Addr} : ∀ is : List Nat, Rs K F ws (is.map fun (i : Nat) => V.int (i : Int)) (is.map fun (i : Nat) => D.int (i : Int))
  | [] => .nil
  | i :: is => .cons (.int _) (rs_nats is)
theorem dv_sortKey {e : Expr} {pn st : Str} {i c P : Addr} {params : Arguments} {scope : Scope} {j k : Nat} {p p1 p2 lpos kpos q1 q2 q3 q4 q5 q6 q7 pos : Pos} (B : Bi X.mg) (hr : Room 1 X.A) (hh : X.A.handled = none)
    (h : DE X T A ρ e (fun d ρ1 => ∃ (n : Nat) (ds : D) (ps : List PyData) (beg : Nat → Int), d = .int n ∧ n ≤ 2 ^ 20 ∧ ρ1.sl[i]? = some (.dat ds) ∧ toPy ds = some (.list ps) ∧ ps.length ≤ 2 ^ 62 ∧
      (∀ j, j < n → ∃ r, ps[j]? = some (.tuple (.int (beg j) :: r)) ∧ r.length ≤ 2 ^ 60) ∧ ∀ a, C (.l a ((sortIx n beg).map fun (i : Nat) => D.int (i : Int))) ρ1))
    (L : Lam1S pn st X.env.scope scope) (hi : slotOf X.N st = some i) (TB : TabB X.base X.mg c P) (hcode : X.env.code = .ref c) (hmT : (P, X.env.qual ++ "<lambda>") ∈ T) (hu : ∀ p ∈ T, p.1 = P → p.2 = X.env.qual ++ "<lambda>")
    (hg : Gl X "sorted" := by rfl) (hgr : Gl X "range" := by rfl) (hdef : defaultsOf params X.env = ([], []) := by rfl)
    (hbind : ∀ (q : Str) (cl : List (Str × Addr)) (pm cv ctv v : Value), bindArgs (PySem.W.kla_fn "<lambda>" q params (.Tuple [.Subscript (.Subscript (.Name st q1) (.Name pn q2) q3) (.Constant (.int 0) j q4) q5, .Name pn q6] k q7) scope cl pm cv ctv) ⟨[v], []⟩ = pure [(pn, v)] := by intro _ _ _ _ _ _; rfl)
    (hdp : (pn == ("__debug__" : Str)) = false := by decide) (hds : (st == ("__debug__" : Str)) = false := by decide) (hcs : (st == ("__classdict__" : Str)) = false := by decide)
    (ha : starEach [e] X.env = (false, eval e X.env) :: starEach [] X.env := by rfl) (hpa : (backTo p2 (starEach [] X.env)).any (·.1) = false := by rfl)
    (he : backTo pos (starEach [.Call (.Name "range" p1) [e] [] p2] X.env) = (false, eval (.Call (.Name "range" p1) [e] [] p2) X.env) :: backTo pos (starEach [] X.env) := by rfl) (hpl : (backTo pos (starEach [.Call (.Name "range" p1) [e] [] p2] X.env)).any (·.1) = false := by rfl)
    (he1 : starEach [.Call (.Name "range" p1) [e] [] p2] X.env = (false, eval (.Call (.Name "range" p1) [e] [] p2) X.env) :: starEach [] X.env := by rfl) :
    DV X T A ρ (.Call (.Name "sorted" p) [.Call (.Name "range" p1) [e] [] p2] [⟨some "key", .Lambda params (.Tuple [.Subscript (.Subscript (.Name st q1) (.Name pn q2) q3) (.Constant (.int 0) j q4) q5, .Name pn q6] k q7) scope lpos, kpos⟩] pos) C := by
  refine ⟨⟨fun pins s σ H Q I ⟨F, ok, q⟩ => ?_⟩⟩
  refine wpAny_Call_Name_kw (ld_blt I hg B.sorted PyProof.Rows.boot_sorted ?_ (by decide) (by decide))
  refine PyProof.Rows.callWith_kw (PyProof.Rows.args_cons ?_ he1) he hpl (by rfl) (by rfl)
  -- range(e)
  refine wpAny_Call_Name_kw (ld_blt I hgr B.range PyProof.Rows.boot_range ?_ (by decide) (by decide))
  refine PyProof.Rows.callWith_type1 (PyProof.Rows.args_cons (thn ((pe_go (T := T) (A := A)).run pins s σ H (fun x H1 => ∃ (n : Nat) (ρ1 : Ev) (F1 : Hp) (ds : D) (ps : List PyData) (beg : Nat → Int), x = .int n ∧ Same F F1 ∧ ρ1.ws = ρ.ws ∧ Ok X.K T A F1 H1 σ ρ1 ∧ n ≤ 2 ^ 20 ∧ ρ1.sl[i]? = some (.dat ds) ∧ toPy ds = some (.list ps) ∧ ps.length ≤ 2 ^ 62 ∧
      (∀ j, j < n → ∃ r, ps[j]? = some (.tuple (.int (beg j) :: r)) ∧ r.length ≤ 2 ^ 60) ∧ ∀ a, C (.l a ((sortIx n beg).map fun (i : Nat) => D.int (i : Int))) ρ1) I
    ⟨ρ, _, h, F, ok, fun d ρ1 ⟨n, ds, ps, beg, ed, r⟩ v F1 H1 s1 w1 ok1 r1 => (by subst ed; cases r1; exact ⟨n, ρ1, F1, ds, ps, beg, rfl, s1, w1, ok1, r⟩)⟩) fun u s1 hh => PyProof.Rows.args_nil ?_) ha) ha hpa
  obtain ⟨_, H1, I1, r1, n, ρ1, F1, ds, ps, beg, rfl, sF, w1, ok1, hn, hsl, hpy, hpl2, hps, hC⟩ := hh
  obtain ⟨t1, rfl⟩ := r1
  refine call_range_1 (PyProof.Rows.args_nil ?_)
  have nR : H1 s1.heap.objs.size = none := I1.hok.fresh (Nat.le_refl _)
  have I2 : Inv X pins σ (upd H1 s1.heap.objs.size (.rng 0 n)) { s1 with heap := s1.heap.push { cls := .type "range", data := .fields #[.int 0 s1.toks, .int n t1, .int 1 (s1.toks + 1)] }, toks := s1.toks + 1 + 1 } :=
    I1.laid (t' := s1.toks + 1 + 1) (fun b o e => Heap.get?_push_of_some _ e) (Nat.le_refl _) ⟨s1.toks, t1, s1.toks + 1, Heap.get?_push_size _ rfl⟩
  obtain ⟨ok2, s2⟩ := ok1.alloc (o := .rng 0 n) nR
  -- the lambda
  show wpAny _ _ (evalAll [(do let v ← eval _ X.env; standAt pos; pure v)]) _ _ _
  refine wpAny_evalAll_cons (wpAny_bind (lam_make3 I2 TB hcode hmT hu ok2.tabs.1 hdef (fun y hy e => ?_) fun f c' pm ctv H3 s3 I3 eN nn T3 hf hfn hfr hco => wpAny_bind (wpAny_standAt (wpAny_pure (wpAny_evalAll_nil ?_)))))
  · rw [L.free y hy e]
    exact I2.ok.has _ (.inl L.up)
  have ok3 := ok2.extN eN nn T3
  show wpAny _ _ (call (.builtin "sorted") [.ref s1.heap.objs.size] [(Str.ofString "key", .ref f)]) _ _ _
  have eR : H3 s1.heap.objs.size = some (.rng 0 n) := eN _ _ upd_same (by intro ps z; cases z)
  obtain ⟨tr, ur, vr, hR⟩ := (show ObjOk X.prog X.w H3 s3.heap _ (.rng 0 n) from I3.hok _ _ eR)
  -- the cell
  obtain ⟨vst, est, rst⟩ := ok3.slots i ds hsl
  obtain ⟨m, hm, hl⟩ := I3.loc
  obtain ⟨ust, rust, look⟩ := hl i st vst (slotOf_ok hi) est (.inr (.inl L.up))
  obtain ⟨asd, rd⟩ := Dp.reads I3 (.list ps) vst ust (dp_of ok3.sub ds vst _ rst hpy) rust
  obtain ⟨cst, hcst, hcell⟩ : ∃ cst, X.env.cells.lookup st = some cst ∧ s3.heap.IsCell cst (some ust) := by
    rcases look with ⟨k, _⟩ | ⟨_, cc, h1, h2⟩
    · have k : X.env.scope.names.lookup st = some .local := k
      rw [L.up] at k
      cases k
    · exact ⟨cc, h1, h2⟩
  have hclo : (cloFrom X.env.cells scope.names []).lookup st = some cst := by
    obtain ⟨c2, h2⟩ := mem_lookup (cloFrom_has (cells := X.env.cells) (acc := []) (PySem.mem_of_lookup L.fr))
    rcases cloFrom_mem (PySem.mem_of_lookup h2) with hm | ⟨_, h3⟩
    · cases hm
    · rw [hcst] at h3
      rw [h2, h3]
      rfl
  have keyD : ∀ i, (PyData.tuple [.int (beg i), .int (i : Nat)]).depth = 1 := fun i => by simp [PyData.depth, PyData.depthAll]
  refine sorted_rng_key (n := n) (fun i => .tuple [.int (beg i), .int (i : Nat)]) hh hR hn (PySem.W.AllAlike.of fun _ _ => by simp [PySem.W.alike, PySem.W.alikeAll]) (PySem.W.Sortable.tuples fun _ => ⟨_, _, rfl⟩) (fun i _ => by have := hr.un; rw [keyD]; omega) (fun x i hx hi h tk kp => ?_) fun a out cc h' tk kp ha hD eo => ?_
  · obtain ⟨tx, rfl⟩ := hx
    have hi : i < n := List.mem_range.mp hi
    obtain ⟨r, hpi, hrl⟩ := hps i hi
    refine lam1_pure (s := { s3 with heap := h, toks := tk }) (kp _ _ hf) ?_ (by have := hr.dp; show X.A.depth < _; omega) (I3.nolimit.keeps kp) (hbind _ _ _ _ _ _) L.kind L.co L.gen L.cell L.par fun Lf h1 k1 hns g d t os Q E q => ?_
    · obtain ⟨⟨oc, vs, t, h1, h2, h3⟩, _, _⟩ := I3.hok c' _ hco
      exact ⟨c', oc, vs, t, rfl, kp _ _ h1, h2, h3⟩
    · have k2 : HKeep s3.heap h1 := HKeep.trans kp k1
      have pS : PR X.prog X.w (X.A.in1.in1.deeper (PySem.W.envX (X.env.qual ++ "<lambda>") scope Lf f (.ref c') (cloFrom X.env.cells scope.names []))) (PySem.W.envX (X.env.qual ++ "<lambda>") scope Lf f (.ref c') (cloFrom X.env.cells scope.names [])) h1 (.Name st q1) (.list ps) :=
        pr_free L.kind L.fr hclo (by obtain ⟨o, ho, hd⟩ := hcell; exact ⟨o, k2 _ _ ho, hd⟩) (PyProof.Rows.Reads.keeps k2 rd) hds hcs
      have pI : ∀ {pp : Pos}, PR X.prog X.w (X.A.in1.in1.deeper (PySem.W.envX (X.env.qual ++ "<lambda>") scope Lf f (.ref c') (cloFrom X.env.cells scope.names []))) (PySem.W.envX (X.env.qual ++ "<lambda>") scope Lf f (.ref c') (cloFrom X.env.cells scope.names [])) h1 (.Name pn pp) (.int (i : Nat)) := fun {pp} =>
        pr_loc (as := []) L.kind L.par hns (by rw [List.lookup_cons, beq_self_eq_true]) (.int _ _) hdp
      exact pr_pair (pr_ix (.inr (pr_ix (.inl pS) pI rfl hpi hpl2 fun _ _ => rfl)) (pr_int (i := 0)) (j := 0) rfl rfl (by rw [List.length_cons]; omega) fun _ _ => rfl) pI (by rfl) (by rfl) h1 g d t os Q E (fun _ _ e => e) q
  · have na : H3 a = none := I3.hok.gone ha
    have eo2 : PySem.W.EachIs (fun v (i : Nat) => ∃ t, v = Value.int (i : Int) t) out (sortIx n beg) := by
      rw [PySem.W.dataLe_ii (β := Nat) beg (fun i => (i : Int))] at eo
      exact eo
    obtain ⟨ok4, g4⟩ := ok3.mine (ds := (sortIx n beg).map fun (i : Nat) => D.int (i : Int)) na (rs_nats _)
    have hlen : (sortIx n beg).length = n := by unfold sortIx; rw [List.length_mergeSort, List.length_range]
    refine ⟨.ref a, upd H3 a (.lst ((sortIx n beg).map fun (i : Nat) => V.int (i : Int))), I3.laidN (t' := tk) kp ha na (show ObjOk X.prog X.w _ _ _ (.lst _) from ⟨?_, out, cc, each_vals eo2, hD⟩), rfl, q _ _ (hC a) (.ref a) _ _ (sF.trans s2) w1 ok4 g4⟩
    rw [List.length_map, hlen, sizeLine_eq]
    omega
end
end DL
end

section
/-! own lists lent: an expression that reads them and tells plain things. -/
namespace DL
open PySem PySem.Spec L2
def ground : D → Bool
  | .non => true
  | .bl _ => true
  | .int _ => true
  | .str _ => true
  | .fn _ => true
  | _ => false
def lent (sl : List Sl) : List Sl := sl.map fun | .non => .non | .dat d => .dat d | .own _ ds => .dat (.lst ds) | .box _ _ => .non
section
variable {K : PySem.W.Frag} {T : List (Addr × Str)} {A : Anc} {F F' H H' F1 : Hp} {σ : L2.St} {ρ : Ev} {g : Nat}
theorem R.ground {ws : List Addr} {v : V} {d : D} (r : R K F ws v d) (h : ground d = true) : R K F' ws v d := by
  cases r with
  | non => exact .non
  | bl b => exact .bl b
  | int i => exact .int i
  | str x => exact .str x
  | fn hf => exact .fn hf
  | _ => cases h
theorem Rs.ground {ws : List Addr} : ∀ {ds : List D} {vs : List V}, Rs K F ws vs ds → (∀ d ∈ ds, DL.ground d = true) → Rs K F' ws vs ds
  | [], _, r, _ => by cases r; exact .nil
  | d :: ds, _, r, h => by
    cases r with
    | cons r t => exact .cons (r.ground (h d (List.mem_cons_self ..))) (Rs.ground t fun x m => h x (List.mem_cons_of_mem _ m))
/-- the frozen heap with all own lists -/
noncomputable def lentF (F H : Hp) (ρ : Ev) : Hp := fun b => by
  classical
  exact if ∃ p ds, ρ.at p = some (b, ds) then H b else F b
theorem lentF_own {p : Sum Nat Nat} {a : Addr} {ds : Con} (h : ρ.at p = some (a, ds)) : lentF F H ρ a = H a := by
  unfold lentF
  rw [if_pos ⟨p, ds, h⟩]
theorem lentF_of {b : Addr} {o : HO} (h : lentF F H ρ b = some o) : (F b = some o) ∨ (∃ p ds, ρ.at p = some (b, ds)) ∧ H b = some o := by
  unfold lentF at h
  split at h
  · rename_i x
    exact .inr ⟨x, h⟩
  · exact .inl h
theorem Ok.lentS (ok : Ok K T A F H σ ρ) : Same F (lentF F H ρ) := fun b o e => by
  unfold lentF
  split
  · rename_i x
    obtain ⟨p, ds, h⟩ := x
    rw [(ok.owns p b ds h).1] at e
    cases e
  · exact e
theorem lent_get {i : Nat} {u : Sl} {sl : List Sl} (h : (lent sl)[i]? = some u) : (∃ d, u = .dat d ∧ sl[i]? = some (.dat d)) ∨ (∃ a ds, u = .dat (.lst ds) ∧ sl[i]? = some (.own a ds)) ∨ u = .non := by
  unfold lent at h
  rw [List.getElem?_map] at h
  obtain ⟨x, e, q⟩ := Option.map_eq_some_iff.mp h
  cases x with
  | non => exact .inr (.inr q.symm)
  | dat d => exact .inl ⟨d, q.symm, e⟩
  | own a ds => exact .inr (.inl ⟨a, ds, q.symm, e⟩)
  | box a c => exact .inr (.inr q.symm)
theorem lent_bx {i : Nat} {sl : List Sl} {x : Addr × Con} : ownOf (lent sl)[i]? ≠ some x := fun e => by
  obtain ⟨s, e, eb⟩ := ownOf_bx (a := x.1) (c := x.2) e
  rcases lent_get e with ⟨d', q, h⟩ | ⟨a, ds, q, h⟩ | q <;> (subst q; cases eb)
theorem Ok.lend (ok : Ok K T A F H σ ρ) : Ok K T ⟨lentF F H ρ, H, ρ.ws⟩ (lentF F H ρ) H σ ⟨lent ρ.sl, [], ρ.ws, ρ.g⟩ := by
  have ownF : ∀ p a ds, ρ.at p = some (a, ds) → lentF F H ρ a = H a := fun p a ds h => lentF_own h
  refine ⟨Same.refl _, fun b o e => ?_, fun _ _ e _ _ => e, fun _ _ n => n, fun _ h => h, ⟨ok.tabs.1, fun b o e => ?_⟩, fun _ h => h, fun _ h => .inl h, fun b m => ?_, fun i d e => ?_, fun i a ds e => ?_, fun p a ds e => ?_, fun p q a ds es e => ?_, ?_⟩
  · rcases lentF_of e with h | ⟨_, h⟩
    · exact ok.sub _ _ h
    · exact h
  · rcases lentF_of e with h | ⟨⟨p, ds, hp⟩, h⟩
    · exact ok.tabs.2 _ _ h
    · obtain ⟨_, _, _, vs, h2, h3⟩ := ok.owns p b ds hp
      rw [h2] at h
      cases h
      exact h3.noTbl
  · refine ⟨(ok.strm b m).1, ?_⟩
    cases q : lentF F H ρ b with
    | none => rfl
    | some o =>
      rcases lentF_of q with h | ⟨⟨p, ds, hp⟩, _⟩
      · rw [(ok.strm b m).2] at h; cases h
      · exact absurd m (ok.owns p b ds hp).2.1
  · rcases lent_get e with ⟨d', q, h⟩ | ⟨a, ds, q, h⟩ | q
    · cases q
      obtain ⟨v, e1, r⟩ := ok.slots i _ h
      exact ⟨v, e1, r.mo ok.lentS⟩
    · cases q
      obtain ⟨_, _, _, vs, h2, r⟩ := ok.ownL h
      exact ⟨.ref a, ok.ownSL h, .lst ((ownF _ _ _ (at_of h)).trans h2) (r.mo ok.lentS)⟩
    · cases q
  · exact absurd e (lent_bx)
  · cases p with
    | inl i => exact absurd e lent_bx
    | inr j => cases e
  · cases p with
    | inl i => exact absurd e lent_bx
    | inr j => cases e
  · show (lent ρ.sl).length ≤ _
    unfold lent
    rw [List.length_map]
    exact ok.len
theorem Ok.regain {ρ' : Ev} (ok : Ok K T A F H σ ρ) (ok' : Ok K T ⟨lentF F H ρ, H, ρ.ws⟩ F' H' σ ρ') (w : ρ'.ws = ρ.ws) : Ok K T A F H' σ (ρ.gas ρ'.g) := by
  have hk : ∀ a o, H a = some o → NoTbl o → a ∉ ρ.ws → H' a = some o := ok'.keep
  have ht : ∀ a, H a ≠ none → H' a ≠ none := ok'.there
  refine ⟨ok.sub0, fun b o e => ok'.sub _ _ (ok'.sub0 _ _ (ok.lentS _ _ e)), fun a o e n w => hk a o (ok.keep a o e n w) n fun z => ?_, ok.apart, fun a h => ht a (ok.there a h), ⟨ok'.tabs.1, ok.tabs.2⟩, ok.wsub, ok.wnew, fun a m => ⟨?_, (ok.strm a m).2⟩, ok.slots, ok.ownS, fun p a ds e => ?_, ok.dist, ok.len⟩
  · rcases ok.wnew a z with q | q
    · exact w q
    · rw [e] at q; cases q
  · exact (ok'.strm a (by rw [w]; exact m)).1
  · obtain ⟨h1, h2, h3, vs, h4, h5⟩ := ok.owns p a ds e
    exact ⟨h1, h2, h3, vs, hk a _ h4 h5.noTbl h2, h5⟩
end
section
variable {X : Cx} {T : List (Addr × Str)} {A : Anc} {ρ : Ev} {C : CV} {B : CB} {e : Expr}
/-- plain things, and new lists of them -/
def lookV (C : CV) (ρ : Ev) : CV := fun r ρ' => match r with
  | .v d => ground d = true ∧ C (.v d) (ρ.gas ρ'.g)
  | .l a ds => (∀ d ∈ ds, ground d = true) ∧ C (.l a ds) (ρ.gas ρ'.g)
  | .b _ _ => False
abbrev lookE (ρ : Ev) : Ev := ⟨lent ρ.sl, [], ρ.ws, ρ.g⟩
theorem dv_look (h : ∀ An : Anc, An.ws = ρ.ws → DV X T An (lookE ρ) e (lookV C ρ)) : DV X T A ρ e C := by
  refine ⟨⟨fun pins s σ H Q I ⟨F, ok, q⟩ => (h ⟨lentF F H ρ, H, ρ.ws⟩ rfl).pe.run pins s σ H Q I ⟨_, ok.lend, fun r ρ' c v F' H' s' w' ok' g' => ?_⟩⟩⟩
  have ok2 := ok.regain ok' w'
  cases r with
  | v d =>
    obtain ⟨hg, c⟩ := c
    have g2 : R X.K F' ρ'.ws v d := g'
    rw [w'] at g2
    exact q _ _ c v F H' (Same.refl _) rfl ok2 (g2.ground hg)
  | l a ds =>
    obtain ⟨hg, c⟩ := c
    obtain ⟨e1, e2, e3, e4, ⟨o, e5, e6⟩, _⟩ := g'
    obtain ⟨vs, rfl, e7⟩ := e6.list
    rw [w'] at e3 e7
    have e4 : H a = none := e4
    have fn : F a = none := by
      cases z : F a with
      | none => rfl
      | some o =>
        rw [ok.sub _ _ z] at e4
        cases e4
    refine q _ _ c v F H' (Same.refl _) rfl ok2 ⟨e1, fn, e3, ok.anone e4, ⟨_, e5, .lst (e7.ground hg)⟩, fun p ds' z => ?_⟩
    obtain ⟨_, _, _, us, z2, _⟩ := ok.owns p a ds' z
    rw [e4] at z2
    cases z2
  | b a cc => exact c.elim
theorem dt_look (h : ∀ An : Anc, An.ws = ρ.ws → DT X T An (lookE ρ) e (fun b ρ' => B b (ρ.gas ρ'.g))) : DT X T A ρ e B :=
  ⟨⟨fun pins s σ H Q I ⟨F, ok, q⟩ => (h ⟨lentF F H ρ, H, ρ.ws⟩ rfl).pe.run pins s σ H Q I ⟨_, ok.lend, fun b ρ' c F' H' s' w' ok' => q _ _ c F H' (Same.refl _) rfl (ok.regain ok' w')⟩⟩⟩
end
end DL
end

section
/-! calls with keywords. -/
namespace DL
open PySem PySem.Spec L2
section
variable (X : Cx) (T : List (Addr × Str)) (A : Anc)
structure DK (ρ : Ev) (kws : List Keyword) (C : CL) : Prop where pe : PK X kws (tA X T A ρ C)
def goK (kws : List Keyword) : TA := fun σ H Q => ∃ ρ C, DK X T A ρ kws C ∧ tA X T A ρ C σ H Q
end
section
variable {X : Cx} {T : List (Addr × Str)} {A : Anc} {ρ : Ev} {e : Expr} {es : List Expr} {kws : List Keyword} {pos p kpos : Pos} {nm : Option Str} {C : CV}
theorem pk_go : PK X kws (goK X T A kws) := ⟨fun pos pins s σ H Q I ⟨_, _, h, q⟩ => h.pe.run pos pins s σ H Q I q⟩
theorem dk_nil {C : CL} (h : C [] ρ) : DK X T A ρ [] C := ⟨⟨fun pos pins s σ H Q I ⟨F, ok, q⟩ => pk_nil.run pos pins s σ H Q I (q [] ρ h [] F H (Same.refl _) rfl ok .nil)⟩⟩
theorem dk_cons {C : CL} (h : DE X T A ρ e (fun d ρ1 => DK X T A ρ1 kws (fun ds ρ2 => C (d :: ds) ρ2))) : DK X T A ρ (⟨nm, e, kpos⟩ :: kws) C :=
  ⟨⟨fun pos pins s σ H Q I ⟨F, ok, q⟩ => (pk_cons (pe_go (T := T) (A := A)) (pk_go (T := T) (A := A))).run pos pins s σ H Q I ⟨ρ, _, h, F, ok, fun d ρ1 h1 v F1 H1 s1 w1 ok1 r1 => ⟨ρ1, _, h1, F1, ok1, fun ds ρ2 h2 vs F2 H2 s2 w2 ok2 r2 =>
    q _ _ h2 (v :: vs) F2 H2 (s1.trans s2) (w2.trans w1) ok2 (.cons (by rw [w2]; exact r1.mo s2) r2)⟩⟩⟩⟩
/-! ### f(k1 = e1, ..), keywords alone -/
def perm {α : Type} (idx : List Nat) (l : List α) : List α := idx.filterMap fun i => l[i]?
theorem vals_at : ∀ {vs : List V} {us : List Value}, Vals vs us → ∀ i : Nat, (vs[i]? = none ∧ us[i]? = none) ∨ ∃ v u, vs[i]? = some v ∧ us[i]? = some u ∧ RelV v u
  | _, _, .nil, i => .inl ⟨rfl, rfl⟩
  | _, _, .cons r t, 0 => .inr ⟨_, _, rfl, rfl, r⟩
  | _, _, .cons r t, i + 1 => vals_at t i
theorem perm_vals {vs : List V} {us : List Value} (r : Vals vs us) : ∀ idx : List Nat, Vals (perm idx vs) (perm idx us)
  | [] => .nil
  | i :: idx => by
    unfold perm
    rw [List.filterMap_cons, List.filterMap_cons]
    rcases vals_at r i with ⟨e1, e2⟩ | ⟨v, u, e1, e2, rv⟩
    · rw [e1, e2]
      exact perm_vals r idx
    · rw [e1, e2]
      exact .cons rv (perm_vals r idx)
theorem Rs.at' {K : PySem.W.Frag} {F : Hp} {ws : List Addr} : ∀ {ds : List D} {vs : List V}, Rs K F ws vs ds → ∀ i : Nat, (vs[i]? = none ∧ ds[i]? = none) ∨ ∃ v d, vs[i]? = some v ∧ ds[i]? = some d ∧ R K F ws v d
  | [], _, r, i => by cases r; exact .inl ⟨rfl, rfl⟩
  | d :: ds, _, r, i => by
    cases r with
    | cons r t =>
      cases i with
      | zero => exact .inr ⟨_, _, rfl, rfl, r⟩
      | succ i => exact Rs.at' t i
theorem perm_rs {K : PySem.W.Frag} {F : Hp} {ws : List Addr} {ds : List D} {vs : List V} (r : Rs K F ws vs ds) : ∀ idx : List Nat, Rs K F ws (perm idx vs) (perm idx ds)
  | [] => .nil
  | i :: idx => by
    unfold perm
    rw [List.filterMap_cons, List.filterMap_cons]
    rcases r.at' i with ⟨e1, e2⟩ | ⟨v, d, e1, e2, rv⟩
    · rw [e1, e2]
      exact perm_rs r idx
    · rw [e1, e2]
      exact .cons rv (perm_rs r idx)
/-- a def that is known, called by keywords ks; idx puts them in the parameters' order -/
structure KnK (P : Program) (w : World) (K : PySem.W.Frag) (mg : Str → Option Value) (base : Heap) (T : List (Addr × Str)) (x : Str) (k : Nat) (N : DF) (ks : List Str) (idx : List Nat) : Prop where
  ex : ∃ (f : Addr) (fd : FuncData) (ps : List Str), FnOk P w K mg base (L2.CX P w) k f fd ps (spD K T N) ∧ mg x = some (.ref f) ∧ PySem.W.keepIn K (.ref f) = true ∧ ∀ ws : List Value, ws.length = ks.length → bindArgs fd ⟨[], ks.zip ws⟩ = pure (ps.zip (perm idx ws))
theorem dv_callK {x : Str} {k : Nat} {N : DF} {ks : List Str} {idx : List Nat} {xc : XC} (F : KnK X.prog X.w X.K X.mg X.base T x k N ks idx) (hr : Room k X.A) (tk : Takes X (WD X.K T A xc)) (h : DK X T A ρ kws (fun ds ρ1 => ds.length = ks.length ∧ N (perm idx ds) ρ1.g (outD A xc C ρ1)))
    (hg : Gl X x := by rfl) (hdb : (x == ("__debug__" : Str)) = false := by decide) (hall : (backToKw pos (keywordEach kws X.env)).all (·.1.isSome) = true := by rfl) (hks : (backToKw pos (keywordEach kws X.env)).filterMap (·.1) = ks := by rfl)
    (hpl : ((backTo pos (starEach [] X.env)).any (·.1) || (backToKw pos (keywordEach kws X.env)).any (·.1.isNone)) = false := by rfl) : DV X T A ρ (.Call (.Name x p) [] kws pos) C := by
  obtain ⟨f, fd, ps, Fn, hm, hk, hb⟩ := F.ex
  refine ⟨⟨fun pins s σ H Q I ⟨F, ok, q⟩ => ?_⟩⟩
  refine wpAny_Call_Name_kw (ld_glob I hg hm ?_ hdb)
  refine PySem.W.callWith_KW0 (h₀ := X.base) I.ok.mod.kin hk hall ?_ hpl
  refine thn (h.pe.run pos pins s σ H (fun zs H2 => zs.length = ks.length ∧ spD X.K T N (perm idx zs) H2 Q (fun cls d H => WD X.K T A xc cls d [] H)) I ⟨F, ok, fun ds ρ1 ⟨hl, h1⟩ vs F1 H1 s1 w1 ok1 r1 => ⟨by rw [r1.len]; exact hl, call_sp ok1 (perm_rs r1 idx) h1 (fun d ρ' c v F' H' s' w' ok' r' => q d ρ' c v F' H' (s1.trans s') (w'.trans w1) ok' r') fun _ _ _ z => z⟩⟩) fun ws s2 ⟨zs, H2, I2, rz, hl, hq⟩ => ⟨I2.kIn, ?_⟩
  rw [hks]
  have r2 := perm_vals rz idx
  refine wpAny_call (codeAny_mono (Fn.run X.A X.stack s2 H2 ⟨[], ks.zip ws⟩ (perm idx ws) (perm idx zs) Q (fun cls d H => WD X.K T A xc cls d [] H) hr I2.env0 (BindsTo.of_eq (hb ws (by rw [← rz.length]; exact hl))) r2 hq) fun r s' hq' => ?_)
  cases r with
  | error e => exact passes_call (W := WD X.K T A xc) tk (fun _ _ _ _ z => z) pins σ H2 s2 e s' I2 hq'
  | ok fl =>
    cases fl with
    | ret u => exact I2.after hq'
    | next => exact False.elim hq'
    | brk => exact False.elim hq'
    | cont => exact False.elim hq'
/-! ### min, max with default= -/
theorem reads_ints {h : Heap} : ∀ {vs : List Value} {ns : List Int}, PyProof.Rows.IntsAre vs ns → ReadsAll h vs (ns.map PyData.int) []
  | _, _, .nil => .nil
  | _, _, .cons _ _ t => .cons (as := []) (.int _ _) (reads_ints t)
theorem alike_intsL (ns : List Int) : PySem.W.AlikeAll (ns.map PyData.int) := by
  refine ⟨fun x hx y hy => ?_, fun x hx => ?_⟩
  · obtain ⟨i, _, rfl⟩ := List.mem_map.mp hx
    obtain ⟨j, _, rfl⟩ := List.mem_map.mp hy
    simp [PySem.W.alike]
  · obtain ⟨i, _, rfl⟩ := List.mem_map.mp hx
    intro z
    cases z
def extD (f : Int → Int → Int) : List Int → D → D
  | [], d => d
  | n :: ns, _ => .int (ns.foldl f n)
theorem dv_minDef {a : Expr} (B : Bi X.mg) (hr : Room 0 X.A) (h : DE X T A ρ a (fun d1 ρ1 => DE X T A ρ1 e (fun d ρ2 => ∃ ns : List Int, seqL d1 = some (ns.map D.int) ∧ C (.v (extD min ns d)) ρ2)))
    (hg : Gl X "min" := by rfl) (he1 : starEach [a] X.env = (false, eval a X.env) :: starEach [] X.env := by rfl) (he : backTo pos (starEach [a] X.env) = (false, eval a X.env) :: backTo pos (starEach [] X.env) := by rfl) (hpl : (backTo pos (starEach [a] X.env)).any (·.1) = false := by rfl) : DV X T A ρ (.Call (.Name "min" p) [a] [⟨some "default", e, kpos⟩] pos) C := by
  refine DV.of (pe_callBK (id := "min") (ks := [("default" : Str)]) (r := fun xs zs H Q => ∃ (l : Addr) (ns : List Int) (dv : V), xs = [.ref l] ∧ zs = [dv] ∧ SqL X.K H l (ns.map V.int) ∧ (ns = [] → Q dv H) ∧ ∀ n r, ns = n :: r → Q (.int (r.foldl min n)) H) ?_ hg B.min (by decide +kernel) (pa_cons (pe_go (T := T) (A := A)) pa_nil he1) (pk_cons (pe_go (T := T) (A := A)) pk_nil) (by decide) (by decide) he hpl) fun σ H Q F ok q => ?_
  · intro pins s σ H xs zs us ws Q I rx rz h
    obtain ⟨l, ns, dv, rfl, rfl, hs, h0, h1⟩ := h
    obtain ⟨its, rv, hl, _⟩ := I.list hs
    rw [Vals.ref1 rx]
    cases rz with
    | cons rd rn =>
    cases rn
    refine PySem.W.min_list_default (xs := ns.map PyData.int) (as := []) hr.hd hl.isList (by simpa using reads_ints rv.ints) (alike_intsL ns) (by rw [PySem.W.depth_ints]; have := hr.un; omega) (fun e h' tk k => ?_) fun y ys i v h' tk bs e hv r k => ?_
    · exact ⟨dv, H, I.kept k, rd, h0 (by cases ns with | nil => rfl | cons _ _ => cases e)⟩
    · cases ns with
      | nil => cases e
      | cons n r =>
        simp only [List.map_cons, List.cons.injEq] at e
        obtain ⟨rfl, rfl⟩ := e
        rw [PySem.W.minD_ints] at r
        cases r
        exact ⟨.int _, H, I.kept k, ⟨_, rfl⟩, h1 n _ rfl⟩
  · refine ⟨ρ, _, h, F, ok, fun d1 ρ1 h1 v1 F1 H1 s1 w1 ok1 r1 => ?_⟩
    refine ⟨ρ1, _, h1, F1, ok1, fun d ρ2 ⟨ns, e, c⟩ v F2 H2 s2 w2 ok2 r2 => ?_⟩
    obtain ⟨l, us, rfl, hs, t⟩ := seqL_of (s2.trans ok2.sub) r1 e
    have e2 := t.ints
    subst e2
    refine ⟨l, ns, v, rfl, rfl, hs, fun e0 => ?_, fun n r e0 => ?_⟩
    · subst e0
      exact q _ _ c v F2 H2 (s1.trans s2) (w2.trans w1) ok2 r2
    · subst e0
      exact q _ _ c _ F2 H2 (s1.trans s2) (w2.trans w1) ok2 (.int _)
theorem dv_maxDef {a : Expr} (B : Bi X.mg) (hr : Room 0 X.A) (h : DE X T A ρ a (fun d1 ρ1 => DE X T A ρ1 e (fun d ρ2 => ∃ ns : List Int, seqL d1 = some (ns.map D.int) ∧ C (.v (extD max ns d)) ρ2)))
    (hg : Gl X "max" := by rfl) (he1 : starEach [a] X.env = (false, eval a X.env) :: starEach [] X.env := by rfl) (he : backTo pos (starEach [a] X.env) = (false, eval a X.env) :: backTo pos (starEach [] X.env) := by rfl) (hpl : (backTo pos (starEach [a] X.env)).any (·.1) = false := by rfl) : DV X T A ρ (.Call (.Name "max" p) [a] [⟨some "default", e, kpos⟩] pos) C := by
  refine DV.of (pe_callBK (id := "max") (ks := [("default" : Str)]) (r := fun xs zs H Q => ∃ (l : Addr) (ns : List Int) (dv : V), xs = [.ref l] ∧ zs = [dv] ∧ SqL X.K H l (ns.map V.int) ∧ (ns = [] → Q dv H) ∧ ∀ n r, ns = n :: r → Q (.int (r.foldl max n)) H) ?_ hg B.max (by decide +kernel) (pa_cons (pe_go (T := T) (A := A)) pa_nil he1) (pk_cons (pe_go (T := T) (A := A)) pk_nil) (by decide) (by decide) he hpl) fun σ H Q F ok q => ?_
  · intro pins s σ H xs zs us ws Q I rx rz h
    obtain ⟨l, ns, dv, rfl, rfl, hs, h0, h1⟩ := h
    obtain ⟨its, rv, hl, _⟩ := I.list hs
    rw [Vals.ref1 rx]
    cases rz with
    | cons rd rn =>
    cases rn
    refine PySem.W.max_list_default (xs := ns.map PyData.int) (as := []) hr.hd hl.isList (by simpa using reads_ints rv.ints) (alike_intsL ns) (by rw [PySem.W.depth_ints]; have := hr.un; omega) (fun e h' tk k => ?_) fun y ys i v h' tk bs e hv r k => ?_
    · exact ⟨dv, H, I.kept k, rd, h0 (by cases ns with | nil => rfl | cons _ _ => cases e)⟩
    · cases ns with
      | nil => cases e
      | cons n r =>
        simp only [List.map_cons, List.cons.injEq] at e
        obtain ⟨rfl, rfl⟩ := e
        rw [PySem.W.maxD_ints] at r
        cases r
        exact ⟨.int _, H, I.kept k, ⟨_, rfl⟩, h1 n _ rfl⟩
  · refine ⟨ρ, _, h, F, ok, fun d1 ρ1 h1 v1 F1 H1 s1 w1 ok1 r1 => ?_⟩
    refine ⟨ρ1, _, h1, F1, ok1, fun d ρ2 ⟨ns, e, c⟩ v F2 H2 s2 w2 ok2 r2 => ?_⟩
    obtain ⟨l, us, rfl, hs, t⟩ := seqL_of (s2.trans ok2.sub) r1 e
    have e2 := t.ints
    subst e2
    refine ⟨l, ns, v, rfl, rfl, hs, fun e0 => ?_, fun n r e0 => ?_⟩
    · subst e0
      exact q _ _ c v F2 H2 (s1.trans s2) (w2.trans w1) ok2 r2
    · subst e0
      exact q _ _ c _ F2 H2 (s1.trans s2) (w2.trans w1) ok2 (.int _)
end
end DL
end

section
/-! comprehensions that map; zip; len(set(..)). -/
namespace DL
open PySem PySem.Spec L2
section
variable {X : Cx} {T : List (Addr × Str)} {A : Anc} {ρ : Ev} {tg elt iter a e2 : Expr} {ifs : List Expr} {scope : Scope} {C : CV} {own : List (Str × Nat)} {p pos tpos : Pos}
/-- a comprehension that maps each item to none or one -/
theorem lcd_map {ds : List D} (f : Nat → D → List D) (no : noOwn ρ.sl (own.map (·.2)) = true) (hz : ds.length < sizeLine)
    (h : ∀ i d (acc : List D) D0, ds[i]? = some d → Blk X scope fun X' => DG X' T A (own.map (·.2)) (ρ.inB (own.map (·.2)) D0 acc ρ.g) tg d (fun ρ3 => Blk X scope fun X' => DTs X' T A ρ3 ifs (fun k ρ4 =>
      branch (Blk X scope fun X' => DE X' T A ρ4 elt (fun y ρ5 => f i d = [y] ∧ ρ5.hid = (D0, .lst acc) :: ρ.hid ∧ wipeS ρ5.sl (own.map (·.2)) = wipeS ρ.sl (own.map (·.2)) ∧ ρ5.g = ρ.g)) (f i d = [] ∧ ρ4.hid = (D0, .lst acc) :: ρ.hid ∧ wipeS ρ4.sl (own.map (·.2)) = wipeS ρ.sl (own.map (·.2)) ∧ ρ4.g = ρ.g) k)))
    (q : ∀ a, C (.l a ((ds.zipIdx.map fun p => f p.2 p.1).flatten)) ρ) : LcD X T A scope own tg elt ifs C ds ρ := by
  refine ⟨fun i acc g => g = ρ.g ∧ acc = ((ds.zipIdx.take i).map fun p => f p.2 p.1).flatten, no, ⟨rfl, rfl⟩, hz, fun i d acc g D0 ed hl ⟨eg, ea⟩ => ?_, fun acc g ⟨eg, ea⟩ a => ?_⟩
  · subst eg
    have step : ∀ y, f i d = y → ((ds.zipIdx.take (i + 1)).map fun p => f p.2 p.1).flatten = acc ++ y := fun y ey => by
      have e2 : ds.zipIdx[i]? = some (d, i) := by rw [List.getElem?_zipIdx, ed]; simp
      rw [List.take_add_one, e2, List.map_append, List.flatten_append, ← ea]
      simp [ey]
    intro s H Cc cl fp
    have g1 := h i d acc D0 ed s H Cc cl fp
    refine ⟨⟨fun pins s' σ H' v u Q I r ⟨F, ok, rr, q⟩ => g1.pe.run pins s' σ H' v u Q I r ⟨F, ok, rr, fun ρ3 c => q ρ3 ?_⟩⟩⟩
    intro s H Cc cl fp
    refine ⟨⟨fun pins s' σ H' Q I ⟨F, ok, q⟩ => (c s H Cc cl fp).pe.run pins s' σ H' Q I ⟨F, ok, fun k ρ4 c4 => q k ρ4 ⟨fun ek => ?_, fun ek => ?_⟩⟩⟩⟩
    · intro s H Cc cl fp
      refine ⟨⟨fun pins s' σ H' Q I ⟨F, ok, q⟩ => (c4.1 ek s H Cc cl fp).pe.run pins s' σ H' Q I ⟨F, ok, fun y ρ5 ⟨e1, e2, e3, e4⟩ => q y ρ5 ⟨e2, e3, e4, ?_⟩⟩⟩⟩
      exact (step _ e1).symm
    · obtain ⟨e1, e2, e3, e4⟩ := c4.2 ek
      refine ⟨e2, e3, e4, ?_⟩
      rw [step _ e1, List.append_nil]
  · subst eg
    rw [ea, List.take_of_length_le (by rw [List.length_zipIdx]; exact Nat.le_refl _)]
    exact q a
theorem lcd_fm {ds : List D} {vs : List Nat} {slW : List Sl} (f : D → List D) (no : noOwn ρ.sl (own.map (·.2)) = true) (hz : ds.length < sizeLine)
    (h : ∀ (i : Nat) d (acc : List D) D0, ds[i]? = some d → Blk X scope fun X' => DG X' T A vs ⟨slW, (D0, .lst acc) :: ρ.hid, ρ.ws, ρ.g⟩ tg d (fun ρ3 => Blk X scope fun X' => DTs X' T A ρ3 ifs (fun k ρ4 =>
      branch (Blk X scope fun X' => DE X' T A ρ4 elt (fun y ρ5 => f d = [y] ∧ ρ5.hid = (D0, .lst acc) :: ρ.hid ∧ wipeS ρ5.sl vs = slW ∧ ρ5.g = ρ.g)) (f d = [] ∧ ρ4.hid = (D0, .lst acc) :: ρ.hid ∧ wipeS ρ4.sl vs = slW ∧ ρ4.g = ρ.g) k)))
    (q : ∀ a, C (.l a (ds.flatMap f)) ρ) (hv : own.map (·.2) = vs := by simp only [List.map_cons, List.map_nil]; rfl)
    (hW : wipeS ρ.sl vs = slW := by simp only [wipeS, List.map_cons, List.map_nil, List.set_cons_zero, List.set_cons_succ]; rfl) : LcD X T A scope own tg elt ifs C ds ρ := by
  subst hv
  subst hW
  refine lcd_map (fun _ d => f d) no hz h fun a => ?_
  have e : ∀ (l : List D) (n : Nat), ((l.zipIdx n).map fun p => f p.1).flatten = l.flatMap f := by
    intro l
    induction l with
    | nil => intro n; rfl
    | cons d l ih => intro n; rw [List.zipIdx_cons, List.map_cons, List.flatten_cons, ih, List.flatMap_cons]
  rw [e]
  exact q a
/-! ### zip -/
def zipOf : List D → List D → List D
  | d :: ds, e :: es => .tup [d, e] :: zipOf ds es
  | _, _ => []
theorem zipOf_get : ∀ (ds es : List D) (i : Nat), (zipOf ds es)[i]? = match ds[i]?, es[i]? with | some d, some e => some (.tup [d, e]) | _, _ => none
  | [], es, i => by
    unfold zipOf
    simp
  | d :: ds, [], i => by
    unfold zipOf
    cases h : (d :: ds)[i]? <;> simp
  | d :: ds, e :: es, 0 => rfl
  | d :: ds, e :: es, i + 1 => by
    show (zipOf ds es)[i]? = _
    rw [zipOf_get ds es i]
    simp
theorem zipOf_len : ∀ (ds es : List D), (zipOf ds es).length = min ds.length es.length
  | [], es => by unfold zipOf; simp
  | d :: ds, [] => by unfold zipOf; simp
  | d :: ds, e :: es => by
    show (zipOf ds es).length + 1 = _
    rw [zipOf_len ds es, List.length_cons, List.length_cons]
    omega
theorem yields_zipL {F : Hp} {ws : List Addr} {qa qb : Addr} {xs ys : List V} {ds es : List D} (h : SqL X.K F qa xs) (t : Rs X.K F ws xs ds) (h' : SqL X.K F qb ys) (t' : Rs X.K F ws ys es) : Yields X T A (Itz X.K qa qb) F ws (zipOf ds es) := by
  refine ⟨fun i F1 H1 s1 s2 l => ?_, fun i F1 H1 s1 s2 l => ?_, fun i d F1 H1 σ ρ x H2 e s1 ok w y => ?_⟩
  · rw [zipOf_len] at l
    have h1 : i < xs.length := by rw [t.len]; omega
    have h2 : i < ys.length := by rw [t'.len]; omega
    exact ⟨xs, ys, xs[i], ys[i], sqL_mono (s1.trans s2) h, sqL_mono (s1.trans s2) h', List.getElem?_eq_getElem h1, List.getElem?_eq_getElem h2⟩
  · rw [zipOf_len] at l
    refine ⟨xs, ys, sqL_mono (s1.trans s2) h, sqL_mono (s1.trans s2) h', ?_⟩
    rw [t.len, t'.len]
    omega
  · obtain ⟨tp, v, u, rfl, hn, rfl, y1, y2⟩ := y
    rw [zipOf_get] at e
    have e1 := y1 xs (sqL_mono (s1.trans ok.sub) h)
    have e2 := y2 ys (sqL_mono (s1.trans ok.sub) h')
    obtain ⟨d1, f1, r1⟩ := t.getV e1
    obtain ⟨d2, f2, r2⟩ := t'.getV e2
    rw [f1, f2] at e
    cases e
    obtain ⟨F2, s3, ok2, r3⟩ := ok.newT (vs := [v, u]) (ds := [d1, d2]) (.cons (R.mono s1 w _ _ r1) (.cons (R.mono s1 w _ _ r2) .nil)) hn
    exact ⟨F2, s3, ok2, r3⟩
theorem yields_zipT {F : Hp} {ws : List Addr} {qa qb : Addr} {xs ys : List V} {ds es : List D} (h : SqT X.K F qa xs) (t : Rs X.K F ws xs ds) (h' : SqT X.K F qb ys) (t' : Rs X.K F ws ys es) : Yields X T A (RZ.ItzT X.K qa qb) F ws (zipOf ds es) := by
  refine ⟨fun i F1 H1 s1 s2 l => ?_, fun i F1 H1 s1 s2 l => ?_, fun i d F1 H1 σ ρ x H2 e s1 ok w y => ?_⟩
  · rw [zipOf_len] at l
    have h1 : i < xs.length := by rw [t.len]; omega
    have h2 : i < ys.length := by rw [t'.len]; omega
    exact ⟨xs, ys, xs[i], ys[i], sqT_mono (s1.trans s2) h, sqT_mono (s1.trans s2) h', List.getElem?_eq_getElem h1, List.getElem?_eq_getElem h2⟩
  · rw [zipOf_len] at l
    refine ⟨xs, ys, sqT_mono (s1.trans s2) h, sqT_mono (s1.trans s2) h', ?_⟩
    rw [t.len, t'.len]
    omega
  · obtain ⟨tp, v, u, rfl, hn, rfl, y1, y2⟩ := y
    rw [zipOf_get] at e
    have e1 := y1 xs (sqT_mono (s1.trans ok.sub) h)
    have e2 := y2 ys (sqT_mono (s1.trans ok.sub) h')
    obtain ⟨d1, f1, r1⟩ := t.getV e1
    obtain ⟨d2, f2, r2⟩ := t'.getV e2
    rw [f1, f2] at e
    cases e
    obtain ⟨F2, s3, ok2, r3⟩ := ok.newT (vs := [v, u]) (ds := [d1, d2]) (.cons (R.mono s1 w _ _ r1) (.cons (R.mono s1 w _ _ r2) .nil)) hn
    exact ⟨F2, s3, ok2, r3⟩
def zipD (C : CL) : List D → Ev → Prop
  | [d, e], ρ => (∃ ds es, seqL d = some ds ∧ seqL e = some es ∧ C (zipOf ds es) ρ) ∨ ∃ ds es, d = .tup ds ∧ e = .tup es ∧ C (zipOf ds es) ρ
  | _, _ => False
theorem di_zip {C : CL} {elts : List Expr} {kk : Nat} (hm : X.mg "zip" = none) (h : DA X T A ρ [a, e2] (fun ds ρ1 => zipD C ds ρ1)) (hg : Gl X "zip" := by rfl) (hs : starEach [a, e2] X.env = (false, eval a X.env) :: starEach [e2] X.env := by rfl) (hpl : (backTo pos (starEach [e2] X.env)).any (·.1) = false := by rfl) :
    DI X T A ρ (.Tuple elts kk tpos) (.Call (.Name "zip" p) [a, e2] [] pos) C :=
  ⟨⟨fun pins s σ H R I ⟨F, ok, q⟩ => (RZ.pi_zipA hg hm (pa_go (T := T) (A := A)) hs hpl).run pins s σ H R I ⟨ρ, _, h, F, ok, fun ds ρ1 c vs F1 H1 s1 w1 ok1 r1 => by
    replace c : zipD C ds ρ1 := c
    unfold zipD at c
    split at c
    · obtain ⟨v, u, rfl, r, r'⟩ := r1.two
      rcases c with ⟨ds, es, e1, e2, c⟩ | ⟨ds, es, rfl, rfl, c⟩
      · obtain ⟨qa, xs, rfl, h1, t1⟩ := seqL_of (Same.refl _) r e1
        obtain ⟨qb, ys, rfl, h2, t2⟩ := seqL_of (Same.refl _) r' e2
        exact ⟨qa, qb, xs, ys, rfl, .inl ⟨sqL_mono ok1.sub h1, sqL_mono ok1.sub h2, q _ _ c _ F1 H1 s1 w1 ok1 (yields_zipL h1 t1 h2 t2)⟩⟩
      · cases r with
        | tup h1 t1 =>
        cases r' with
        | tup h2 t2 => exact ⟨_, _, _, _, rfl, .inr ⟨sqT_mono ok1.sub h1, sqT_mono ok1.sub h2, q _ _ c _ F1 H1 s1 w1 ok1 (yields_zipT h1 t1 h2 t2)⟩⟩
    · exact c.elim⟩⟩⟩
/-! ### len(set(xs)) -/
def nub (ns : List Int) : List Int := ns.foldl PyProof.Rows.step_dedup []
theorem nub_first (ns : List Int) : PyProof.Rows.firstMet (fun i => ns.getD i 0) ns.length = nub ns := by
  unfold PyProof.Rows.firstMet nub
  have e : (List.range ns.length).map (fun i => ns.getD i 0) = ns := by
    apply List.ext_getElem?
    intro i
    rw [List.getElem?_map]
    by_cases h : i < ns.length
    · rw [List.getElem?_range h, List.getElem?_eq_getElem h]
      simp [h]
    · rw [List.getElem?_eq_none (by simpa using Nat.le_of_not_lt h), List.getElem?_eq_none (Nat.le_of_not_lt h)]
      rfl
  rw [e]
theorem de_lenSet {C : CD} {p2 q0 : Pos} (B : Bi X.mg) (hc : X.calm = true) (h : DE X T A ρ a (fun d ρ1 => ∃ ns : List Int, seqL d = some (ns.map D.int) ∧ ns.length ≤ 4000 ∧ C (.int ((nub ns).length : Nat)) ρ1)) (hg : Gl X "len" := by rfl) (hg2 : Gl X "set" := by rfl)
    (na : starEach [a] X.env = (false, eval a X.env) :: starEach [] X.env := by rfl) : DE X T A ρ (.Call (.Name "len" p) [.Call (.Name "set" p2) [a] [] q0] [] pos) C := by
  refine ⟨⟨fun pins s σ H Q I ⟨F, ok, q⟩ => ?_⟩⟩
  refine PyProof.Rows.Call_ (ld_blt I hg B.len (u := .builtin "len") (by decide +kernel) ?_)
  refine PyProof.Rows.callWith_builtin1 (PyProof.Rows.args_cons ?_ rfl) rfl rfl
  refine PyProof.Rows.Call_ (ld_blt I hg2 B.set (u := .type "set") (by decide +kernel) ?_)
  refine PyProof.Rows.callWith_type1 (PyProof.Rows.args_cons (thn ((pe_go (T := T) (A := A)).run pins s σ H (fun x H1 => ∃ (l : Addr) (ns : List Int), x = .ref l ∧ SqL X.K H1 l (ns.map V.int) ∧ ns.length ≤ 4000 ∧ Q (.int ((nub ns).length : Nat)) H1) I
    ⟨ρ, _, h, F, ok, fun d ρ1 ⟨ns, e, hl, c⟩ v F1 H1 s1 w1 ok1 r1 => ?_⟩) fun v s1 ⟨x, H1, I1, r1, q1⟩ => PyProof.Rows.args_nil ?_) na) na rfl
  · obtain ⟨l, us, rfl, hs, t⟩ := seqL_of ok1.sub r1 e
    have e2 := t.ints
    subst e2
    exact ⟨l, ns, rfl, hs, hl, q _ _ c _ F1 H1 s1 w1 ok1 (.int _)⟩
  · obtain ⟨l, ns, rfl, hq, hl, q1⟩ := q1
    cases r1
    obtain ⟨its, r, pl, hz⟩ := I1.list hq
    have hlen : its.toArray.size = ns.length := by rw [List.size_toArray, ← r.length, List.length_map]
    refine call_set_list (I1.ok.hd hc) pl.isList (by simpa using RZ.intsAre_vals r) (by rw [hlen]; unfold scanBound; omega) fun h' tk hS hk => ?_
    refine PyProof.Rows.args_nil ?_
    rw [hlen, nub_first] at hS
    obtain ⟨o, es, ep, t, ho, hex, hd, _, _, _, hf, hn⟩ := hS
    have I2 : Inv X pins σ H1 { s1 with heap := h', toks := tk } := I1.kept fun b o e => hk b o (Heap.lt_size e) e
    have hnl : (nub ns).length ≤ ns.length := by
      rw [← nub_first]
      exact PyProof.Rows.firstMet_length_le _ _
    exact call_len_set ho hex hd hf (by rw [hn] <;> omega) ⟨.int ((nub ns).length : Nat), H1, I2.tok _, ⟨_, by rw [hn]⟩, q1⟩
theorem dg_nm {vs : List Nat} {x : Str} {i : Nat} {d : D} {C : Ev → Prop} (hN : X.N.Nodup) (h : C (ρ.put i (.dat d))) (hi : slotOf X.N x = some i := by rfl) (hx : Loc X.env.scope x := by first | exact Or.inl rfl | exact Or.inr rfl)
    (hf : X.fn x = true ∨ X.env.scope.names.lookup x = some .local := by first | exact .inl rfl | exact .inr rfl | assumption) (hv : i ∈ vs := by first | decide | simp) : DG X T A vs ρ (.Name x pos) d C := dg_name hN h hv hi hx hf
end
/-- a list has as many different things as things just if none stands twice -/
theorem nub_lt (ns : List Int) : ((nub ns).length < ns.length) ↔ ¬ ns.Nodup := by
  have key : ∀ (ns acc : List Int), acc.Nodup → ((ns.foldl PyProof.Rows.step_dedup acc).length = acc.length + ns.length ↔ (acc ++ ns).Nodup) ∧ (ns.foldl PyProof.Rows.step_dedup acc).length ≤ acc.length + ns.length := by
    intro ns
    induction ns with
    | nil => intro acc h; simp [h]
    | cons n ns ih =>
      intro acc h
      rw [List.foldl_cons]
      by_cases hm : acc.any (· == n) = true
      · have e : PyProof.Rows.step_dedup acc n = acc := by unfold PyProof.Rows.step_dedup; rw [if_pos hm]
        rw [e]
        obtain ⟨_, h2⟩ := ih acc h
        have hmem : n ∈ acc := by simpa using hm
        refine ⟨⟨fun z => ?_, fun z => ?_⟩, ?_⟩
        · rw [List.length_cons] at z
          omega
        · rw [List.nodup_append] at z
          exact absurd rfl (z.2.2 n hmem n (List.mem_cons_self ..))
        · rw [List.length_cons]
          omega
      · have e : PyProof.Rows.step_dedup acc n = acc ++ [n] := by unfold PyProof.Rows.step_dedup; rw [if_neg hm]
        have hmem : n ∉ acc := by simpa using hm
        rw [e]
        obtain ⟨h1, h2⟩ := ih (acc ++ [n]) (by
          rw [List.nodup_append]
          refine ⟨h, by simp, fun a ha b hb => ?_⟩
          simp only [List.mem_singleton] at hb
          subst hb
          rintro rfl
          exact hmem ha)
        rw [List.length_append, List.length_singleton] at h1 h2
        rw [List.append_assoc, List.singleton_append] at h1
        rw [List.length_cons]
        refine ⟨⟨fun z => h1.mp (by omega), fun z => by have := h1.mpr z; omega⟩, by omega⟩
  obtain ⟨h1, h2⟩ := key ns [] List.nodup_nil
  unfold nub
  rw [List.nil_append, List.length_nil, Nat.zero_add] at h1
  rw [List.length_nil, Nat.zero_add] at h2
  rw [← h1]
  omega
end DL
end

section
/-! a def whose code object is known: it makes lambdas. -/
namespace DL
open PySem PySem.Spec L2
structure FunC (K : PySem.W.Frag) (x qual : Str) (st : Stmt) (f : Addr) (fd : FuncData) (c : Addr) : Prop where
  ex : ∃ (oc : Value) (od : Option Addr) (kV doc pm : Value) (an : Option Addr) (ct : Value) (osl : Array (Option Value)),
    fd = PySem.W.fnOf x qual (defArgs st) (defBody st) (defScope st) .none kV doc pm an (.ref c) ct ∧ K.lookup f = some ⟨oc, od, .func fd, osl⟩ ∧ PySem.W.codeIn K (.ref c) qual = true
section okd
variable {P : Program} {w : World} {K : PySem.W.Frag} {mg : Str → Option Value} {base : Heap} {T : List (Addr × Str)}
theorem okDc {x qual : Str} {st : Stmt} {f c : Addr} {fd : FuncData} {N ps : List Str} {k : Nat} {M : DF} (F : FunC K x qual st f fd c) (S : FnScope N ps (defScope st)) (len : ∀ ds g C, M ds g C → ds.length = ps.length)
    (hbody : ∀ (A : Around) (outer : List Env) (s : Shared) (H : Hp) (E : XK) (An : Anc) (ds : List D) (g : Nat) (C : Out → Prop), Room k (A.deeper (PyProof.Rows.envOfC qual (defScope st) s.heap.objs.size f (.ref c))) →
      Takes (bodyCx P w K mg base N qual st f (.ref c) A outer s H E) (WD K T An (excO C)) → M ds g C →
      DSs (bodyCx P w K mg base N qual st f (.ref c) A outer s H E) T An ⟨pad ds (N.length - ds.length), [], An.ws, g⟩ (defBody st) (bodyO An.ws C)) : FnOk P w K mg base (L2.CX P w) (k + 1) f fd ps (spD K T M) := by
  obtain ⟨oc, od, kV, doc, pm, an, ct, osl, rfl, lk, hcd⟩ := F.ex
  refine fn_of lk hcd S (fun vs H Q E h => ?_) (fun A outer s H vs Q E hr h => ?_)
  · obtain ⟨F', ws, ds, g, C, ok, r, h, _⟩ := h
    rw [r.len]
    exact len _ _ _ h
  · obtain ⟨F', ws, ds, g, C, ok, r, h, h1, h2, h2b, h3⟩ := h
    have tk : Takes (bodyCx P w K mg base N qual st f (.ref c) A outer s H E) (WD K T ⟨F', H, ws⟩ (excO C)) :=
      (takes_of rfl rfl rfl rfl).imp fun cls d σ H' ⟨c, dx, fs, xs, g', F2, e1, e2, ok2, hx, rf, hc⟩ => by
        subst e1
        subst e2
        exact h3 c fs g' hc dx xs F2 H' ok2 hx rf
    have hb := hbody A outer s H E ⟨F', H, ws⟩ ds g C hr tk h
    refine ⟨_, hb.pe, F', ?_, fun ρ' c σ' F2 H2 s2 w2 ok2 => ?_, fun rv ρ' c v σ' F2 H2 ok2 gv => ?_, fun ρ' c => c.elim, fun ρ' c => c.elim⟩
    · exact ok.padded r
    · exact h1 _ _ c .non F2 H2 ok2.drop .non
    · cases rv with
      | v d =>
        obtain ⟨hw, c⟩ := c
        refine h1 _ _ c v F2 H2 ok2.drop ?_
        rcases hw with hw | ⟨b, rfl⟩
        · have gv' : R K F2 ρ'.ws v d := gv
          rw [hw] at gv'
          exact gv'
        · cases (show R K F2 ρ'.ws v (.bl b) from gv)
          exact .bl _
      | l a es =>
        obtain ⟨hw, c⟩ := c
        obtain ⟨rfl, _⟩ := id gv
        exact h2 _ _ c a F2 H2 ok2.drop (gv.bare hw)
      | b a cc =>
        obtain ⟨hw, c⟩ := c
        obtain ⟨rfl, _⟩ := id gv
        exact h2b _ _ c a F2 H2 ok2.drop (gv.bare hw)
end okd
end DL
end

section
/-! [x] * n as an own list; a, b = (.., ..) of own lists. -/
namespace DL
open PySem PySem.Spec L2
section
variable {X : Cx} {T : List (Addr × Str)} {A : Anc} {ρ : Ev} {a b : Expr} {C : CV} {O : DO} {pos : Pos}
def mulL (C : CV) : D → D → Ev → Prop
  | .lst xs, .int k, ρ => -(2 ^ 63) ≤ k ∧ k < 2 ^ 63 ∧ xs.length * k.toNat ≤ sizeLine ∧ ∀ p, C (.l p (List.replicate k.toNat xs).flatten) ρ
  | _, _, _ => False
theorem dv_mulL (h : DE X T A ρ a (fun d1 ρ1 => DE X T A ρ1 b (fun d2 ρ2 => mulL C d1 d2 ρ2))) : DV X T A ρ (.BinOp a .Mult b pos) C :=
  DV.of (pe_op op_rep (pe_go (T := T) (A := A)) (pe_go (T := T) (A := A))) fun σ H Q F ok q => by
    refine ⟨ρ, _, h, F, ok, fun d1 ρ1 h1 v1 F1 H1 s1 w1 ok1 r1 => ?_⟩
    refine ⟨ρ1, _, h1, F1, ok1, fun d2 ρ2 h2 v2 F2 H2 s2 w2 ok2 r2 => ?_⟩
    replace h2 : mulL C d1 d2 ρ2 := h2
    unfold mulL at h2
    split at h2
    · rename_i dx kk
      cases r2
      cases r1 with
      | lst e1 t1 =>
        obtain ⟨k1, k2, k3, k4⟩ := h2
        refine ⟨_, _, _, rfl, rfl, ok2.sub _ _ (s2 _ _ e1), k1, k2, by rw [t1.len]; exact k3, fun p hp => ?_⟩
        obtain ⟨ok3, g3⟩ := ok2.mine hp (by rw [w2]; exact (t1.mo s2).reps kk.toNat)
        exact q _ _ (k4 p) _ F2 _ (s1.trans s2) (w2.trans w1) ok3 g3
    · exact h2.elim
/-- a value that is held while others are made -/
def held (r : RV) (ρ : Ev) : Ev := match r with
  | .v _ => ρ
  | .l a ds => { ρ with hid := (a, .lst ds) :: ρ.hid }
  | .b a c => { ρ with hid := (a, c) :: ρ.hid }
section held
variable {K : PySem.W.Frag} {F H F' H' : Hp} {σ : L2.St} {v v' : V} {r r' : RV}
theorem Ok.held (ok : Ok K T A F H σ ρ) (g : Gv K A F H ρ v r) : Ok K T A F H σ (DL.held r ρ) := by
  cases r with
  | v d => exact ok
  | l a ds => exact ok.hideB g
  | b a c => exact ok.hideB g
theorem gvB_put {i : Nat} {r1 : RV} {a2 : Addr} {c2 : Con} (g : GvB K A F H (DL.held r1 ρ) v' a2 c2) : GvB K A F H (ρ.put i (.of r1)) v' a2 c2 := by
  have key : ∀ (a1 : Addr) (c1 : Con), (Sl.of r1).bx = some (a1, c1) → DL.held r1 ρ = { ρ with hid := (a1, c1) :: ρ.hid } → GvB K A F H (ρ.put i (.of r1)) v' a2 c2 := fun a1 c1 e1 e2 => by
    rw [e2] at g
    obtain ⟨q1, q2, q3, q4, q5, q6⟩ := g
    refine ⟨q1, q2, q3, q4, q5, fun p ds' z => ?_⟩
    rcases at_put z with ⟨_, z, _⟩ | ⟨_, z⟩
    · rw [e1] at z
      cases z
      exact q6 (.inr 0) _ rfl
    · cases p with
      | inl k => exact q6 (.inl k) ds' z
      | inr k => exact q6 (.inr (k + 1)) ds' z
  cases r1 with
  | v d =>
    obtain ⟨q1, q2, q3, q4, q5, q6⟩ := g
    refine ⟨q1, q2, q3, q4, q5, fun p ds' z => ?_⟩
    rcases at_put z with ⟨_, z, _⟩ | ⟨_, z⟩
    · cases z
    · exact q6 p ds' z
  | l a ds => exact key a (.lst ds) rfl rfl
  | b a c => exact key a c rfl rfl
theorem gv_put {i : Nat} {r1 : RV} (g : Gv K A F H (DL.held r1 ρ) v' r') (w : (DL.held r1 ρ).ws = ρ.ws) : Gv K A F H (ρ.put i (.of r1)) v' r' := by
  cases r' with
  | v d =>
    have g' : R K F (DL.held r1 ρ).ws v' d := g
    rw [w] at g'
    exact g'
  | l a ds => exact gvB_put (c2 := .lst ds) g
  | b a c => exact gvB_put g
theorem held_ws (r : RV) (ρ : Ev) : (DL.held r ρ).ws = ρ.ws := by
  cases r <;> rfl
/-- what was held is at hand again -/
theorem Ok.unheld (ok : Ok K T A F' H' σ (DL.held r ρ)) {F1 H1 : Hp} {ρ1 : Ev} (g : Gv K A F1 H1 ρ1 v r) (s : Same F1 F') (w : ρ.ws = ρ1.ws) : Ok K T A F' H' σ ρ ∧ Gv K A F' H' ρ v r := by
  have key : ∀ (a1 : Addr) (c1 : Con), GvB K A F1 H1 ρ1 v a1 c1 → Ok K T A F' H' σ { ρ with hid := (a1, c1) :: ρ.hid } → Ok K T A F' H' σ ρ ∧ GvB K A F' H' ρ v a1 c1 := fun a1 c1 g ok => by
    obtain ⟨sl3, hid3, ws3, gg3⟩ := ρ
    obtain ⟨ok3, g3⟩ := ok.unhideB
    obtain ⟨e1, _⟩ := id g
    subst e1
    exact ⟨ok3, g3⟩
  cases r with
  | v d =>
    have r1 : R K F1 ρ1.ws v d := g
    exact ⟨ok, show R K F' ρ.ws v d by rw [w]; exact r1.mo s⟩
  | l a ds => exact key a (.lst ds) g ok
  | b a c => exact key a c g ok
end held
theorem ds_parV {x y : Str} {i j : Nat} {px py pt : Pos} {kt k2 pt2} (hc : X.calm = true) (hN : X.N.Nodup) (h : DV X T A ρ a (fun r1 ρ1 => DV X T A (held r1 ρ1) b (fun r2 ρ2 => ∃ ρ3, ρ2 = held r1 ρ3 ∧ ρ3.ws = ρ1.ws ∧ O.nx ((ρ3.put i (.of r1)).put j (.of r2))))) (hi : slotOf X.N x = some i := by rfl) (hj : slotOf X.N y = some j := by rfl) (hij : i ≠ j := by decide)
    (hx : X.env.scope.names.lookup x = some .local := by rfl) (hy : X.env.scope.names.lookup y = some .local := by rfl) (hst : starEach [a, b] X.env = (false, eval a X.env) :: starEach [b] X.env := by rfl) (hst2 : starEach [b] X.env = (false, eval b X.env) :: starEach [] X.env := by rfl)
    (hw : swappedStores [.Tuple [.Name x px, .Name y py] kt pt] (.Tuple [a, b] k2 pt2) X.env = pure (some [x, y]) := by rfl)
    (hs : swapsWithSole [.Tuple [.Name x px, .Name y py] kt pt] (.Tuple [a, b] k2 pt2) pos.line X.env = pure false := by rfl) :
    DS X T A ρ (.Assign [.Tuple [.Name x px, .Name y py] kt pt] (.Tuple [a, b] k2 pt2) pos) O :=
  DS.of (ps_par hc hN (slotOf_ok hi) (slotOf_ok hj) hij hx hy (pa_cons pv_go (pa_cons pv_go pa_nil hst2) hst) hw hs) fun E σ H ⟨F, ok, hn, _⟩ => by
    refine ⟨ρ, _, h, F, ok, fun r1 ρ1 h1 v1 F1 H1 s1 w1 ok1 g1 => ?_⟩
    refine ⟨held r1 ρ1, _, h1, F1, ok1.held g1, fun r2 ρ2 ⟨ρ3, e2, w3, c⟩ v2 F2 H2 s2 w2 ok2 g2 => ⟨_, _, rfl, ?_⟩⟩
    subst e2
    obtain ⟨b1, b2⟩ := ok2.unheld g1 s2 w3
    have b3 : Gv X.K A F2 H2 (ρ3.put i (.of r1)) v2 r2 := gv_put g2 (held_ws _ _)
    exact hn _ c _ F2 H2 (s1.trans s2) (by rw [show ((ρ3.put i (.of r1)).put j (.of r2)).ws = ρ3.ws from rfl, w3]; exact mem_eq w1) ((b1.put b2).put b3)
end
end DL
end

section
/-! A list of one's own handed back: its name at the end of the def. -/
namespace DL
open PySem PySem.Spec L2
theorem Ok.handBack {K : PySem.W.Frag} {T : List (Addr × Str)} {A : Anc} {F H : Hp} {σ : L2.St} {ρ : Ev} (ok : Ok K T A F H σ ρ) {i : Nat} {a : Addr} {ds : List D} (e : ρ.sl[i]? = some (.own a ds)) : Ok K T A F H σ (ρ.put i .non) ∧ Gv K A F H (ρ.put i .non) (.ref a) (.l a ds) := ok.takeB e rfl
section
variable {X : Cx} {T : List (Addr × Str)} {A : Anc} {ρ : Ev} {C : CV} {pos : Pos}
theorem dv_back {x : Str} {i : Nat} (h : ownAt ρ i fun a ds => C (.l a ds) (ρ.put i .non)) (hi : slotOf X.N x = some i := by rfl) (hv : Vis X.env.scope x := by first | exact Or.inl rfl | exact Or.inr (Or.inl rfl) | exact Or.inr (Or.inr rfl))
    (hd : (x == ("__debug__" : Str)) = false := by decide) (hcd : (x == ("__classdict__" : Str)) = false := by decide) : DV X T A ρ (.Name x pos) C :=
  DV.of (pe_var (slotOf_ok hi) hv hd hcd) fun σ H Q F ok q => by
    obtain ⟨a, ds, e, c⟩ := ownAt_ok h
    obtain ⟨ok2, g⟩ := ok.handBack e
    exact ⟨.ref a, ok.ownSL e, q (.l a ds) _ c _ F H (Same.refl _) rfl ok2 g⟩
/-- a box at a slot, by its name -/
theorem dv_backB {x : Str} {i : Nat} {a : Addr} {c : Con} (e : ρ.sl[i]? = some (.box a c)) (h : C (.b a c) (ρ.put i .non)) (hi : slotOf X.N x = some i := by rfl) (hv : Vis X.env.scope x := by first | exact Or.inl rfl | exact Or.inr (Or.inl rfl) | exact Or.inr (Or.inr rfl))
    (hd : (x == ("__debug__" : Str)) = false := by decide) (hcd : (x == ("__classdict__" : Str)) = false := by decide) : DV X T A ρ (.Name x pos) C :=
  DV.of (pe_var (slotOf_ok hi) hv hd hcd) fun σ H Q F ok q => by
    obtain ⟨ok2, g⟩ := ok.takeB e rfl
    exact ⟨.ref a, ok.ownS i a c (ownOf_of e rfl), q (.b a c) _ h _ F H (Same.refl _) rfl ok2 g⟩
end
end DL
end

section
/-! number not in <a list of numbers> -/
namespace DL
open PySem PySem.Spec L2 PyProof
theorem toPys_ints : ∀ ns : List Int, toPys (ns.map D.int) = some (ns.map PyData.int)
  | [] => by rw [List.map_nil, toPys]; rfl
  | n :: ns => by
    rw [List.map_cons, toPys, toPys_ints ns]
    rfl
theorem ints_lay : ∀ ns : List Int, PyData.canLayAll0 (ns.map PyData.int) = true
  | [] => by rw [List.map_nil, PyData.canLayAll0]
  | n :: ns => by rw [List.map_cons, PyData.canLayAll0, ints_lay ns, PyData.canLay0]; rfl
theorem ints_depth : ∀ ns : List Int, PyData.depthAll (ns.map PyData.int) ≤ 1
  | [] => by rw [List.map_nil, PyData.depthAll]; omega
  | n :: ns => by
    have h := ints_depth ns
    rw [List.map_cons, PyData.depthAll, PyData.depth]
    omega
def rNinI (K : PySem.W.Frag) : R2 := fun x y H Q => ∃ (i : Int) (ns : List Int), Dp K H x (.int i) ∧ Dp K H y (.list (ns.map PyData.int)) ∧ Q (.bl (!ns.any fun n => n == i)) H
theorem op_ninI {X : Cx} (hu : X.A.units + 64 < cLine) : OpR X (compareOp .NotIn) (rNinI X.K) := by
  intro pins s σ H x y v u Q I rx ry h
  obtain ⟨i, ns, hd, he, q⟩ := h
  obtain ⟨as, r1⟩ := Dp.reads I _ x v hd rx
  obtain ⟨bs, r2⟩ := Dp.reads I _ y u he ry
  refine SeqAt.notIn_list_reads r2 r1 (ints_lay ns) (by rw [PyData.canLay0]) ?_ ?_
  · have := ints_depth ns
    have h2 : min (PyData.depthAll (ns.map PyData.int)) (PyData.depth (.int i)) ≤ PyData.depthAll (ns.map PyData.int) := Nat.min_le_left _ _
    omega
  · rw [List.any_map]
    exact ⟨.bl _, H, I, rfl, q⟩
def ninD (d1 d2 : D) (C : CD) (ρ : Ev) : Prop := ∃ (i : Int) (ns : List Int), d1 = .int i ∧ d2 = .lst (ns.map D.int) ∧ C (.bl (!ns.any fun n => n == i)) ρ
section
variable {X : Cx} {T : List (Addr × Str)} {A : Anc} {ρ : Ev} {a b : Expr} {pos : Pos}
theorem lk_nin : Lk X T A (rNinI X.K) ninD := by
  intro d1 d2 C F H σ ρ x y Q ⟨i, ns, e1, e2, hc⟩ ok r1 r2 q
  subst e1
  subst e2
  exact ⟨i, ns, dp_of ok.sub _ _ _ r1 rfl, dp_of ok.sub _ _ _ r2 (by rw [toPy, toPys_ints]; rfl), q _ _ hc _ F H (Same.refl _) rfl ok (.bl _)⟩
theorem de_nin {C : CD} (hu : X.A.units + 64 < cLine) (h : In2 X T A ρ a b ninD C) (hm : behindInMarks .NotIn b = false := by with_unfolding_all rfl) : DE X T A ρ (.Compare a [.NotIn] [b] pos) C := de_cmp (op_ninI hu) lk_nin hm h
theorem dt_nin {C : CB} (hu : X.A.units + 64 < cLine) (h : In2 X T A ρ a b ninD (asB C)) (hm : behindInMarks .NotIn b = false := by with_unfolding_all rfl) : DT X T A ρ (.Compare a [.NotIn] [b] pos) C := dt_cmp (op_ninI hu) lk_nin hm h
end
end DL
end

section
/-! judgements by weaker ones; functions compared. -/
namespace PySem
open Sem (wp)
namespace FnT
theorem slot_eq : Slot "function" "__eq__" "object.__eq__" :=
  .of (owner := "object") (n := "__eq__") (by rw [typeLookup_type, builtinLookup_eq_fast]; kernel_rfl) (by decide +kernel) (by decide +kernel) (by decide +kernel)
    (by first | exact .inl (by decide +kernel) | exact .inr (by decide +kernel)) (by rw [isSubtype_type]; kernel_rfl)
section
variable {prog : Program} {w : World} {A : Around} {E : Value → Shared → Prop} {h : Heap} {g : Array GenState} {d : Drawn} {t : Nat} {os : OsState} {a : Addr} {o : Obj}
theorem call_eq {Q : Value → Shared → Prop} (hx : h.get? a = some o) (hc : o.cls = .type "function") (hq : Q (.bool true) ⟨h, g, d, t, os⟩) :
    wpAny (model prog w) A (call (.builtin "object.__eq__") [.ref a, .ref a]) Q E ⟨h, g, d, t, os⟩ :=
  wpAny_call (codeAny_call_builtin slot_eq.plain F.cmpEntry_eq (slot_eq.check _ _ _ _ _ _ _ _ (show (⟨h, g, d, t, os⟩ : Shared).TypeIs (.ref a) "function" from ⟨_, hx, hc⟩) (F.cmpArgs_eq _ _) (objEq_entry_same hq)))
theorem try_eq {Q : Option Value → Shared → Prop} (hx : h.get? a = some o) (hc : o.cls = .type "function") (hq : Q (some (.bool true)) ⟨h, g, d, t, os⟩) :
    wpAny (model prog w) A (tryCompare (.ref a) "__eq__" (.ref a)) Q E ⟨h, g, d, t, os⟩ := by
  simp only [tryCompare]
  exact wpAny_bind (wpAny_callSpecialIfBound?_slot (show (⟨h, g, d, t, os⟩ : Shared).TypeIs (.ref a) "function" from ⟨_, hx, hc⟩) slot_eq (call_eq hx hc (wpAny_pure hq)))
theorem rich_eq (hu : A.units < cLine) {Q : Value → Shared → Prop} (hx : h.get? a = some o) (hc : o.cls = .type "function") (hq : Q (.bool true) ⟨h, g, d, t, os⟩) :
    wpAny (model prog w) A (richCompare .Eq (.ref a) (.ref a)) Q E ⟨h, g, d, t, os⟩ := by
  have hT : (⟨h, g, d, t, os⟩ : Shared).TypeIs (.ref a) "function" := ⟨_, hx, hc⟩
  simp only [richCompare, cmpInfo_Eq, oneThing_ref]
  repeat (first | with_reducible refine wpAny_cRoomFor hu ?_ | with_reducible refine try_eq hx hc ?_ | assumption | wp_step)
end
end FnT
end PySem
namespace DL
open PySem PySem.Spec L2
section
variable {X : Cx} {T : List (Addr × Str)} {A : Anc} {ρ : Ev} {e : Expr} {es : List Expr} {st : Stmt} {sts : List Stmt}
theorem dv_imp {C1 C : CV} (h : DV X T A ρ e C1) (k : ∀ r ρ', C1 r ρ' → C r ρ') : DV X T A ρ e C := DV.of h.pe fun σ H Q F ok q => ⟨F, ok, fun r ρ1 h1 => q r ρ1 (k r ρ1 h1)⟩
theorem de_imp {C1 C : CD} (h : DE X T A ρ e C1) (k : ∀ r ρ', C1 r ρ' → C r ρ') : DE X T A ρ e C := DE.of h.pe fun σ H Q F ok q => ⟨F, ok, fun r ρ1 h1 => q r ρ1 (k r ρ1 h1)⟩
theorem dt_imp {C1 C : CB} (h : DT X T A ρ e C1) (k : ∀ r ρ', C1 r ρ' → C r ρ') : DT X T A ρ e C := DT.of h.pe fun σ H Q F ok q => ⟨F, ok, fun r ρ1 h1 => q r ρ1 (k r ρ1 h1)⟩
theorem ds_imp {O1 O : DO} (h : DS X T A ρ st O1) (n : ∀ ρ', O1.nx ρ' → O.nx ρ') (r : ∀ v ρ', O1.rt v ρ' → O.rt v ρ') (b : ∀ ρ', O1.bk ρ' → O.bk ρ') (c : ∀ ρ', O1.ct ρ' → O.ct ρ') : DS X T A ρ st O := DS.of h.pe fun E σ H ⟨F, ok, q1, q2, q3, q4⟩ =>
  ⟨F, ok, fun ρ' z => q1 ρ' (n ρ' z), fun v ρ' z => q2 v ρ' (r v ρ' z), fun ρ' z => q3 ρ' (b ρ' z), fun ρ' z => q4 ρ' (c ρ' z)⟩
theorem dss_imp {O1 O : DO} (h : DSs X T A ρ sts O1) (n : ∀ ρ', O1.nx ρ' → O.nx ρ') (r : ∀ v ρ', O1.rt v ρ' → O.rt v ρ') (b : ∀ ρ', O1.bk ρ' → O.bk ρ') (c : ∀ ρ', O1.ct ρ' → O.ct ρ') : DSs X T A ρ sts O := DSs.of h.pe fun E σ H ⟨F, ok, q1, q2, q3, q4⟩ =>
  ⟨F, ok, fun ρ' z => q1 ρ' (n ρ' z), fun v ρ' z => q2 v ρ' (r v ρ' z), fun ρ' z => q3 ρ' (b ρ' z), fun ρ' z => q4 ρ' (c ρ' z)⟩
/-! ### a function of the text is itself -/
def rFnE (K : PySem.W.Frag) : R2 := fun x y H Q => ∃ a, x = .ref a ∧ y = .ref a ∧ FnAt K a ∧ Q (.bl true) H
theorem op_eqF (hu : X.A.units + 64 < cLine) : OpR X (compareOp .Eq) (rFnE X.K) := by
  intro pins s σ H x y v u Q I rx ry h
  obtain ⟨a, rfl, rfl, ha, q⟩ := h
  obtain rfl : v = Value.ref a := rx
  obtain rfl : u = Value.ref a := ry
  have h1 : (X.K.lookup a).map (·.cls) = some (.type "function") := beq_iff_eq.mp ha.1
  obtain ⟨o, h2, h3⟩ := Option.map_eq_some_iff.mp h1
  obtain ⟨h, g, d, t, os⟩ := s
  exact PySem.FnT.rich_eq (by omega) (I.kIn a o h2) h3 ⟨.bl true, H, I, rfl, q⟩
def eqFD (d1 d2 : D) (C : CD) (ρ : Ev) : Prop := ∃ a, d1 = .fn a ∧ d2 = .fn a ∧ C (.bl true) ρ
theorem lk_eqF : Lk X T A (rFnE X.K) eqFD := by
  intro d1 d2 C F H σ ρ x y Q h ok r1 r2 q
  obtain ⟨a, rfl, rfl, c⟩ := h
  cases r1 with
  | fn h1 =>
    cases r2
    exact ⟨_, rfl, rfl, h1, q _ _ c _ F H (Same.refl _) rfl ok (.bl _)⟩
theorem de_eqF {a b : Expr} {pos : Pos} {C : CD} (hu : X.A.units + 64 < cLine) (h : In2 X T A ρ a b eqFD C) : DE X T A ρ (.Compare a [.Eq] [b] pos) C := de_cmp (op_eqF hu) lk_eqF (nomark _) h
/-! ### dicts: list(d), walks -/
def kD : Key → D
  | .inl i => .int i
  | .inr x => .str x
theorem kD_R {K : PySem.W.Frag} {F : Hp} {ws : List Addr} : ∀ k : Key, R K F ws (kV k) (kD k)
  | .inl i => .int i
  | .inr x => .str x
theorem Rk.keys {K : PySem.W.Frag} {F : Hp} {ws : List Addr} : ∀ {ds : List (Key × D)} {vs : List (Key × V)}, Rk K F ws vs ds → Rs K F ws (vs.map fun kv => kV kv.1) (ds.map fun kv => kD kv.1)
  | [], _, r => by cases r; exact .nil
  | _ :: _, _, r => by
    cases r with
    | cons r t => exact .cons (kD_R _) (Rk.keys t)
theorem Rk.get {K : PySem.W.Frag} {F : Hp} {ws : List Addr} : ∀ {ds : List (Key × D)} {vs : List (Key × V)} {i : Nat} {k : Key} {d : D}, Rk K F ws vs ds → ds[i]? = some (k, d) → ∃ v, vs[i]? = some (k, v) ∧ R K F ws v d
  | [], _, _, _, _, _, e => by simp at e
  | _ :: ds, _, i, k, d, h, e => by
    cases h with
    | cons h t =>
      cases i with
      | zero => simp at e; obtain ⟨rfl, rfl⟩ := e; exact ⟨_, rfl, h⟩
      | succ i =>
        obtain ⟨v, e1, r⟩ := Rk.get (i := i) t (by simpa using e)
        exact ⟨v, by simpa using e1, r⟩
def lstKD : List D → CV → Ev → Prop
  | [.dK kvs], C, ρ => ∀ a, C (.l a (kvs.map fun kv => kD kv.1)) ρ
  | _, _, _ => False
theorem dv_lstK {C : CV} {p pos : Pos} (hc : X.calm = true) (hm : X.mg "list" = none) (h : DA X T A ρ (e :: es) (fun ds ρ1 => lstKD ds C ρ1)) (hg : Gl X "list" := by rfl) (he : starEach (e :: es) X.env = (false, eval e X.env) :: starEach es X.env := by rfl) (hpl : (backTo pos (starEach es X.env)).any (·.1) = false := by rfl) : DV X T A ρ (.Call (.Name "list" p) (e :: es) [] pos) C :=
  dv_callTy (call_listD hc) (by
    intro ds C F H σ ρ xs Q h ok r0 q
    unfold lstKD at h
    split at h
    · obtain ⟨v, rfl, r⟩ := r0.one
      cases r with
      | @dK a o xs _ h1 t =>
        refine ⟨a, xs, rfl, .inr ⟨o, ok.sub _ _ h1⟩, fun l hl => ?_⟩
        obtain ⟨ok2, g2⟩ := ok.mine hl t.keys
        exact q _ _ (h l) _ F _ (Same.refl _) rfl ok2 g2
    · exact h.elim) hm (by decide +kernel) h hg (by decide) (by decide) he hpl
/-- what a walk over a dict's keys, values, pairs yields -/
theorem yields_keys {F : Hp} {ws : List Addr} {p : Addr} {o : Obj} {xs : List (Key × V)} {ds : List (Key × D)} (h : F p = some (.frz o (.dK xs))) (t : Rk X.K F ws xs ds) : Yields X T A (Itk p o xs) F ws (ds.map fun kv => kD kv.1) := by
  have el : (ds.map fun kv => kD kv.1).length = xs.length := by rw [List.length_map, t.len]
  refine ⟨fun i F1 H1 s1 s2 l => ?_, fun i F1 H1 s1 s2 l => ?_, fun i d F1 H1 σ ρ x H2 e s1 ok w y => ?_⟩
  · rw [el] at l
    exact ⟨s2 _ _ (s1 _ _ h), l⟩
  · rw [el] at l
    exact ⟨s2 _ _ (s1 _ _ h), by omega⟩
  · obtain ⟨rfl, k, v, e1, rfl⟩ := y
    rw [List.getElem?_map] at e
    obtain ⟨⟨k', d'⟩, e2, rfl⟩ := Option.map_eq_some_iff.mp e
    obtain ⟨v', e3, _⟩ := t.get e2
    rw [e1] at e3
    cases e3
    exact ⟨F1, Same.refl _, ok, kD_R k⟩
theorem yields_vals {F : Hp} {ws : List Addr} {p : Addr} {o : Obj} {xs : List (Key × V)} {ds : List (Key × D)} (h : F p = some (.frz o (.dK xs))) (t : Rk X.K F ws xs ds) : Yields X T A (Itd p o xs) F ws (ds.map (·.2)) := by
  have el : (ds.map (·.2)).length = xs.length := by rw [List.length_map, t.len]
  refine ⟨fun i F1 H1 s1 s2 l => ?_, fun i F1 H1 s1 s2 l => ?_, fun i d F1 H1 σ ρ x H2 e s1 ok w y => ?_⟩
  · rw [el] at l
    exact ⟨s2 _ _ (s1 _ _ h), l⟩
  · rw [el] at l
    exact ⟨s2 _ _ (s1 _ _ h), by omega⟩
  · obtain ⟨rfl, k, e1⟩ := y
    rw [List.getElem?_map] at e
    obtain ⟨⟨k', d'⟩, e2, rfl⟩ := Option.map_eq_some_iff.mp e
    obtain ⟨v', e3, r⟩ := t.get e2
    rw [e1] at e3
    cases e3
    exact ⟨F1, Same.refl _, ok, R.mono s1 w _ _ r⟩
theorem yields_items {F : Hp} {ws : List Addr} {p : Addr} {o : Obj} {xs : List (Key × V)} {ds : List (Key × D)} (h : F p = some (.frz o (.dK xs))) (t : Rk X.K F ws xs ds) : Yields X T A (Iti p o xs) F ws (ds.map fun kv => .tup [kD kv.1, kv.2]) := by
  have el : (ds.map fun kv => D.tup [kD kv.1, kv.2]).length = xs.length := by rw [List.length_map, t.len]
  refine ⟨fun i F1 H1 s1 s2 l => ?_, fun i F1 H1 s1 s2 l => ?_, fun i d F1 H1 σ ρ x H2 e s1 ok w y => ?_⟩
  · rw [el] at l
    exact ⟨s2 _ _ (s1 _ _ h), l⟩
  · rw [el] at l
    exact ⟨s2 _ _ (s1 _ _ h), by omega⟩
  · obtain ⟨T', k, v, e1, rfl, hT, rfl⟩ := y
    rw [List.getElem?_map] at e
    obtain ⟨⟨k', d'⟩, e2, rfl⟩ := Option.map_eq_some_iff.mp e
    obtain ⟨v', e3, r⟩ := t.get e2
    rw [e1] at e3
    cases e3
    exact ok.newT (.cons (kD_R k) (.cons (R.mono s1 w _ _ r) .nil)) hT
def dkOf : D → Option (List (Key × D))
  | .dK kvs => some kvs
  | _ => none
theorem di_keys {tg : Expr} {C : CL} (h : DE X T A ρ e (fun d ρ1 => ∃ kvs, dkOf d = some kvs ∧ C (kvs.map fun kv => kD kv.1) ρ1)) : DI X T A ρ tg e C :=
  ⟨⟨fun pins s σ H R I ⟨F, ok, q⟩ => (pi_keys (tg := tg) (pe_go (T := T) (A := A) (e := e))).run pins s σ H R I ⟨ρ, _, h, F, ok, fun d ρ1 ⟨kvs, e1, c⟩ v F1 H1 s1 w1 ok1 r1 => by
    unfold dkOf at e1
    split at e1
    · cases e1
      cases r1 with
      | @dK a o xs _ h1 t => exact ⟨a, o, rfl, .inl ⟨xs, ok1.sub _ _ h1, q _ ρ1 c _ F1 H1 s1 w1 ok1 (yields_keys h1 t)⟩⟩
    · cases e1⟩⟩⟩
theorem di_values {tg : Expr} {C : CL} {apos cpos : Pos} (h : DE X T A ρ e (fun d ρ1 => ∃ kvs, dkOf d = some kvs ∧ C (kvs.map (·.2)) ρ1)) (hbase : attributeBase e "values" X.env (eval e X.env) = eval e X.env := by rfl) (hline : (apos.endLine == cpos.line) = true := by rfl) : DI X T A ρ tg (.Call (.Attribute e "values" apos) [] [] cpos) C :=
  ⟨⟨fun pins s σ H R I ⟨F, ok, q⟩ => (pi_values (tg := tg) (pe_go (T := T) (A := A) (e := e)) hbase hline).run pins s σ H R I ⟨ρ, _, h, F, ok, fun d ρ1 ⟨kvs, e1, c⟩ v F1 H1 s1 w1 ok1 r1 => by
    unfold dkOf at e1
    split at e1
    · cases e1
      cases r1 with
      | @dK a o xs _ h1 t => exact ⟨a, o, xs, rfl, ok1.sub _ _ h1, q _ ρ1 c _ F1 H1 s1 w1 ok1 (yields_vals h1 t)⟩
    · cases e1⟩⟩⟩
theorem di_items {elts : List Expr} {kk : Nat} {tpos : Pos} {C : CL} {apos cpos : Pos} (h : DE X T A ρ e (fun d ρ1 => ∃ kvs, dkOf d = some kvs ∧ C (kvs.map fun kv => .tup [kD kv.1, kv.2]) ρ1)) (hbase : attributeBase e "items" X.env (eval e X.env) = eval e X.env := by rfl) (hline : (apos.endLine == cpos.line) = true := by rfl) : DI X T A ρ (.Tuple elts kk tpos) (.Call (.Attribute e "items" apos) [] [] cpos) C :=
  ⟨⟨fun pins s σ H R I ⟨F, ok, q⟩ => (pi_items (elts := elts) (kk := kk) (tpos := tpos) (pe_go (T := T) (A := A) (e := e)) hbase hline).run pins s σ H R I ⟨ρ, _, h, F, ok, fun d ρ1 ⟨kvs, e1, c⟩ v F1 H1 s1 w1 ok1 r1 => by
    unfold dkOf at e1
    split at e1
    · cases e1
      cases r1 with
      | @dK a o xs _ h1 t => exact ⟨a, o, xs, rfl, ok1.sub _ _ h1, q _ ρ1 c _ F1 H1 s1 w1 ok1 (yields_items h1 t)⟩
    · cases e1⟩⟩⟩
/-- a text, sign by sign -/
def chrs (x : Str) : List D := x.cps.toList.map fun c => .str ⟨#[c]⟩
theorem dv_lcKeys0 {own : List (Str × Nat)} {C : CV} {x : Str} {i : Nat} {p pos : Pos} {tg elt : Expr} {ifs : List Expr} {scope : Scope} (hc : X.calm = true) (hN : X.N.Nodup) (ok : BlkOk X.N X.env.scope scope own) (no : noOwn ρ.sl (own.map (·.2)) = true) (e0 : ρ.sl[i]? = some (.dat (.dK []))) (h : ∀ a, C (.l a []) ρ)
    (hi : slotOf X.N x = some i := by rfl) (hv : Vis X.env.scope x := by first | exact Or.inl rfl | exact Or.inr (Or.inl rfl) | exact Or.inr (Or.inr rfl)) (hdb : (x == ("__debug__" : Str)) = false := by decide) (hcd : (x == ("__classdict__" : Str)) = false := by decide)
    (hs : ∀ y, foldedSetIterable (.Name x p) X.env y = pure y := by intro _; rfl) : DV X T A ρ (.ListComp elt [⟨tg, .Name x p, ifs, 0⟩] scope pos) C :=
  dv_lc (hs := hs) hc hN ok (di_keys (de_name (i := i) (hi := hi) (hv := hv) (hd := hdb) (hcd := hcd) (by
    unfold nameD
    rw [e0]
    exact ⟨[], rfl, fun i acc g => i = 0 ∧ acc = [] ∧ g = ρ.g, no, ⟨rfl, rfl, rfl⟩, by decide, fun i d acc g D0 ei => (by simp at ei), fun acc g ⟨_, e1, e2⟩ a => by rw [e1, e2]; exact h a⟩)))
end
end DL
end

section
/-! x.append(e), x.extend(e); an own list of three numbers that becomes a stream. -/
namespace DL
open PySem PySem.Spec L2
section
variable {X : Cx} {T : List (Addr × Str)} {A : Anc} {ρ : Ev} {e : Expr} {O : DO} {x : Str} {i : Nat} {p1 p2 p3 pos : Pos}
theorem ds_app (h0 : ownAt ρ i fun _ _ => True) (h : DE X T A ρ e (fun d ρ1 => ownAt ρ1 i fun a ds => ds.length < sizeLine ∧ O.nx (ρ1.put i (.own a (ds ++ [d])))))
    (hi : slotOf X.N x = some i := by rfl) (hv : Vis X.env.scope x := by first | exact Or.inl rfl | exact Or.inr (Or.inl rfl) | exact Or.inr (Or.inr rfl)) (hd : (x == ("__debug__" : Str)) = false := by decide) (hcd : (x == ("__classdict__" : Str)) = false := by decide)
    (hbase : attributeBase (.Name x p1) "append" X.env (eval (.Name x p1) X.env) = eval (.Name x p1) X.env := by rfl)
    (hfew : ((backTo p3 (starEach [e] X.env)).all (fun x => !x.1) && (backToKw p3 (keywordEach [] X.env)).all (fun x => x.1.isSome)
      && decide (([e] : List Expr).length + ([] : List Keyword).length + (if ([] : List Keyword).isEmpty then 0 else 1) < 30)) = true := by rfl)
    (hline : (p2.endLine == p3.line) = true := by rfl) (hst : starEach [e] X.env = (false, eval e X.env) :: starEach [] X.env := by rfl) (hplain : (backTo p3 (starEach [] X.env)).any (·.1) = false := by rfl)
    (hs : swapsWith (.Call (.Attribute (.Name x p1) "append" p2) [e] [] p3) none pos.line X.env = pure false := by rfl) :
    DS X T A ρ (.Expr (.Call (.Attribute (.Name x p1) "append" p2) [e] [] p3) pos) O :=
  ds_append (fun t ha => pe_bm F.plainAttrs_list F.slot_list_append F.type_list_append mt_append (pvS hi hv hd hcd) ha hbase hfew hline hst hplain) hst hs h0 h
theorem ds_ext (h0 : ownAt ρ i fun _ _ => True) (h : DE X T A ρ e (fun d ρ1 => ownAt ρ1 i fun a ds => ∃ fs, d = .lst fs ∧ ds.length + fs.length ≤ sizeLine ∧ O.nx (ρ1.put i (.own a (ds ++ fs)))))
    (hi : slotOf X.N x = some i := by rfl) (hv : Vis X.env.scope x := by first | exact Or.inl rfl | exact Or.inr (Or.inl rfl) | exact Or.inr (Or.inr rfl)) (hd : (x == ("__debug__" : Str)) = false := by decide) (hcd : (x == ("__classdict__" : Str)) = false := by decide)
    (hbase : attributeBase (.Name x p1) "extend" X.env (eval (.Name x p1) X.env) = eval (.Name x p1) X.env := by rfl)
    (hfew : ((backTo p3 (starEach [e] X.env)).all (fun x => !x.1) && (backToKw p3 (keywordEach [] X.env)).all (fun x => x.1.isSome)
      && decide (([e] : List Expr).length + ([] : List Keyword).length + (if ([] : List Keyword).isEmpty then 0 else 1) < 30)) = true := by rfl)
    (hline : (p2.endLine == p3.line) = true := by rfl) (hst : starEach [e] X.env = (false, eval e X.env) :: starEach [] X.env := by rfl) (hplain : (backTo p3 (starEach [] X.env)).any (·.1) = false := by rfl)
    (hs : swapsWith (.Call (.Attribute (.Name x p1) "extend" p2) [e] [] p3) none pos.line X.env = pure false := by rfl) :
    DS X T A ρ (.Expr (.Call (.Attribute (.Name x p1) "extend" p2) [e] [] p3) pos) O :=
  ds_extend (fun t ha => pe_bm F.plainAttrs_list F.slot_list_extend F.type_list_extend mt_extend (pvS hi hv hd hcd) ha hbase hfew hline hst hplain) hst hs h0 h
/-! ### own lists that become streams -/
theorem Ok.toStrm {K : PySem.W.Frag} {F H : Hp} {σ : L2.St} {ad : Addr} {c m : Int} {g' : Nat} (ok : Ok K T A F H σ ρ) (e : ρ.sl[i]? = some (.own ad [.int c, .int m, .int 0])) (hc : 0 ≤ c) (hm : 0 ≤ m) (hm2 : m < (big : Int)) (hg : ∀ b ∈ ρ.ws, g' ≤ ρ.g) (hg2 : g' ≤ big) :
    Ok K T A F H σ ⟨ρ.sl.set i (.dat .strm), ρ.hid, ad :: ρ.ws, g'⟩ := by
  obtain ⟨f1, f2, f3, vs, f4, f5⟩ := ok.ownL e
  have hi : i < ρ.sl.length := by
    obtain ⟨z, _⟩ := List.getElem?_eq_some_iff.mp e
    exact z
  have evs : vs = [.int c, .int m, .int 0] := by
    cases f5 with
    | cons r1 t1 =>
      cases r1
      cases t1 with
      | cons r2 t2 =>
        cases r2
        cases t2 with
        | cons r3 t3 =>
          cases r3
          cases t3
          rfl
  subst evs
  have hs : ∀ d v, R K F ρ.ws v d → R K F (ad :: ρ.ws) v d := fun d v r => R.mono (Same.refl _) (fun b z => List.mem_cons_of_mem _ z) d v r
  have hat : ∀ p a ds, (⟨ρ.sl.set i (.dat .strm), ρ.hid, ad :: ρ.ws, g'⟩ : Ev).at p = some (a, ds) → ρ.at p = some (a, ds) ∧ p ≠ .inl i := fun p a ds z => by
    rcases at_put (ρ := ρ) (i := i) (s := .dat .strm) (p := p) (x := (a, ds)) z with ⟨_, q, _⟩ | ⟨q1, q2⟩
    · cases q
    · exact ⟨q2, q1⟩
  refine ⟨ok.sub0, ok.sub, ok.keep, ok.apart, ok.there, ok.tabs, fun b w => List.mem_cons_of_mem _ (ok.wsub b w), fun b w => ?_, fun b w => ?_, fun j d q => ?_, fun j a ds q => ?_, fun p a ds q => ?_, fun p q a ds ds' z1 z2 => ?_, ?_⟩
  · rcases List.mem_cons.mp w with rfl | w
    · exact .inr f3
    · exact ok.wnew b w
  · rcases List.mem_cons.mp w with rfl | w
    · exact ⟨⟨c, m, 0, f4, hc, hm, hm2, Int.le_refl 0, by show 0 + (g' : Int) ≤ (big : Int); omega⟩, f1⟩
    · exact ⟨(ok.strm b w).1.less (hg b w), (ok.strm b w).2⟩
  · rcases put_get q with ⟨rfl, q, _⟩ | ⟨_, q⟩
    · cases q
      exact ⟨.ref ad, ok.ownSL e, .strm (List.mem_cons_self ..)⟩
    · obtain ⟨v, e1, r⟩ := ok.slots j d q
      exact ⟨v, e1, hs d v r⟩
  · exact ok.ownS j a ds (hat (.inl j) a ds q).1
  · obtain ⟨q1, q2⟩ := hat p a ds q
    obtain ⟨g1, g2, g3, us, g4, g5⟩ := ok.owns p a ds q1
    refine ⟨g1, fun z => ?_, g3, us, g4, RC.mono (Same.refl _) (fun b z => List.mem_cons_of_mem _ z) g5⟩
    rcases List.mem_cons.mp z with rfl | z
    · exact q2 (ok.dist _ _ _ _ _ q1 (at_of e))
    · exact g2 z
  · exact ok.dist p q a ds ds' (hat p a ds z1).1 (hat q a ds' z2).1
  · show (ρ.sl.set i (.dat .strm)).length ≤ σ.length
    rw [List.length_set]
    exact ok.len
/-- x = e, e a new list of three numbers: from then on a stream -/
theorem ds_strm {x : Str} {i : Nat} {pos' : Pos} (hN : X.N.Nodup) (h : DV X T A ρ e (fun r ρ1 => ∃ (a : Addr) (c m : Int) (g' : Nat), r = .l a [.int c, .int m, .int 0] ∧ 0 ≤ c ∧ 0 ≤ m ∧ m < (big : Int) ∧ (∀ b ∈ ρ1.ws, g' ≤ ρ1.g) ∧ g' ≤ big ∧ i < ρ1.sl.length ∧ O.nx ⟨ρ1.sl.set i (.dat .strm), ρ1.hid, a :: ρ1.ws, g'⟩)) (hi : slotOf X.N x = some i := by rfl) (hx : Loc X.env.scope x := by first | exact Or.inl rfl | exact Or.inr rfl)
    (hs : swapsWith e (some (.Name x pos')) pos.line X.env = pure false := by rfl) (hf : X.fn x = true ∨ X.env.scope.names.lookup x = some .local := by first | exact .inl rfl | exact .inr rfl | assumption) : DS X T A ρ (.Assign [.Name x pos'] e pos) O :=
  DS.of (ps_set hN (slotOf_ok hi) hx pv_go hs hf) fun E σ H ⟨F, ok, hn, _⟩ => ⟨ρ, _, h, F, ok, fun r ρ1 ⟨a, c, m, g', e1, h1, h2, h3, h4, h5, h6, hc⟩ v F1 H1 s1 w1 ok1 g1 => by
    subst e1
    have ok2 := ok1.put (i := i) g1
    have e2 : (ρ1.put i (.of (.l a [.int c, .int m, .int 0]))).sl[i]? = some (.own a [.int c, .int m, .int 0]) := by
      show (ρ1.sl.set i _)[i]? = _
      rw [List.getElem?_set_self h6]
      rfl
    have ok3 := ok2.toStrm e2 h1 h2 h3 h4 h5
    have e3 : (ρ1.put i (.of (.l a [.int c, .int m, .int 0]))).sl.set i (.dat .strm) = ρ1.sl.set i (.dat .strm) := by
      show (ρ1.sl.set i _).set i _ = _
      rw [List.set_set]
    rw [e3] at ok3
    exact hn _ hc _ F1 H1 s1 (fun b z => List.mem_cons_of_mem _ (mem_eq w1 b z)) ok3⟩
end
end DL
end

section
/-! comprehensions whose items draw. -/
namespace DL
open PySem PySem.Spec L2
section
variable {X : Cx} {T : List (Addr × Str)} {A : Anc} {ρ : Ev} {tg elt iter a e2 : Expr} {ifs : List Expr} {scope : Scope} {C : CV} {own : List (Str × Nat)} {p pos tpos : Pos}
theorem lcd_gas {ds : List D} {vs : List Nat} {slW : List Sl} (J : Nat → List D → Nat → Prop) (no : noOwn ρ.sl (own.map (·.2)) = true) (h0 : J 0 [] ρ.g) (hz : ds.length < sizeLine)
    (h : ∀ (i : Nat) d (acc : List D) D0 g, ds[i]? = some d → J i acc g → Blk X scope fun X' => DG X' T A vs ⟨slW, (D0, .lst acc) :: ρ.hid, ρ.ws, g⟩ tg d (fun ρ3 => Blk X scope fun X' => DTs X' T A ρ3 ifs (fun k ρ4 =>
      branch (Blk X scope fun X' => DE X' T A ρ4 elt (fun y ρ5 => ρ5.hid = (D0, .lst acc) :: ρ.hid ∧ wipeS ρ5.sl vs = slW ∧ J (i + 1) (acc ++ [y]) ρ5.g)) (ρ4.hid = (D0, .lst acc) :: ρ.hid ∧ wipeS ρ4.sl vs = slW ∧ J (i + 1) acc ρ4.g) k)))
    (q : ∀ acc g a, J ds.length acc g → C (.l a acc) (ρ.gas g)) (hv : own.map (·.2) = vs := by simp only [List.map_cons, List.map_nil]; rfl)
    (hW : wipeS ρ.sl vs = slW := by simp only [wipeS, List.map_cons, List.map_nil, List.set_cons_zero, List.set_cons_succ]; rfl) : LcD X T A scope own tg elt ifs C ds ρ := by
  subst hv
  subst hW
  exact ⟨J, no, h0, hz, fun i d acc g D0 ed hl hi => h i d acc D0 g ed hi, fun acc g hi a => q acc g a hi⟩
end
end DL
end

section
/-! repr(x) of lists and tuples, where nothing is being shown already; texts compared. -/
namespace DL
open PySem PySem.Spec L2
section
variable {X : Cx} {T : List (Addr × Str)} {A : Anc} {ρ : Ev} {e a b : Expr} {es : List Expr} {p pos : Pos}
def Shows (d : PyData) : Prop := d.showable = true ∧ d.hasDict = false ∧ d.depth ≤ 64 ∧ d.shown.length ≤ sizeLine
def rRepr (K : PySem.W.Frag) : List V → Hp → VK → Prop := fun xs H Q => ∃ (ad : Addr) (d : PyData), xs = [.ref ad] ∧ Dp K H (.ref ad) d ∧ Shows d ∧ Q (.str d.shown) H
theorem call_reprD (hg : X.A.guards = some []) (hu : X.A.units + 70 < cLine) : CallR X (.builtin "repr") (rRepr X.K) := by
  intro pins s σ H xs us Q I r h
  obtain ⟨ad, d, rfl, hd, ⟨h1, h2, h3, h4⟩, q⟩ := h
  obtain ⟨u, rfl, ru⟩ := vals1 r
  cases ru
  obtain ⟨as, rd⟩ := Dp.reads I d _ _ hd (show RelV (.ref ad) (.ref ad) from rfl)
  exact repr_of_reads' rd h1 (PyData.noDict_hsm h2) hg (by omega) (fun _ _ z => z) (fun h' t tk hk => ⟨.str d.shown, H, I.kept (t' := tk) fun b o z => hk b o z, ⟨t, rfl⟩, q⟩) h4
def reprD : List D → CV → Ev → Prop
  | [.lst ds], C, ρ => ∃ d, toPy (.lst ds) = some d ∧ Shows d ∧ C (.v (.str d.shown)) ρ
  | [.tup ds], C, ρ => ∃ d, toPy (.tup ds) = some d ∧ Shows d ∧ C (.v (.str d.shown)) ρ
  | _, _, _ => False
theorem dv_repr {C : CV} (hgd : X.A.guards = some []) (hu : X.A.units + 70 < cLine) (hm : X.mg "repr" = none) (h : DA X T A ρ (e :: es) (fun ds ρ1 => reprD ds C ρ1)) (hg : Gl X "repr" := by rfl) (he : starEach (e :: es) X.env = (false, eval e X.env) :: starEach es X.env := by rfl) (hpl : (backTo pos (starEach es X.env)).any (·.1) = false := by rfl) : DV X T A ρ (.Call (.Name "repr" p) (e :: es) [] pos) C :=
  dv_callB (call_reprD hgd hu) (by
    intro ds C F H σ ρ xs Q h ok r0 q
    unfold reprD at h
    split at h
    · obtain ⟨v, rfl, r⟩ := r0.one
      obtain ⟨d, e1, e2, c⟩ := h
      have hd := dp_of ok.sub _ _ _ r e1
      cases r with
      | lst h1 t => exact ⟨_, d, rfl, hd, e2, q _ _ c _ F H (Same.refl _) rfl ok (.str _)⟩
    · obtain ⟨v, rfl, r⟩ := r0.one
      obtain ⟨d, e1, e2, c⟩ := h
      have hd := dp_of ok.sub _ _ _ r e1
      cases r with
      | tup h1 t => exact ⟨_, d, rfl, hd, e2, q _ _ c _ F H (Same.refl _) rfl ok (.str _)⟩
    · exact h.elim) hm (by decide +kernel) h hg (by decide) (by decide) he hpl
/-- texts compared -/
def neSD : D → D → CD → Ev → Prop
  | .str x, .str y, C, ρ => C (.bl (!(x == y))) ρ
  | _, _, _, _ => False
theorem lk_neS : Lk X T A rNe neSD := by
  intro d1 d2 C F H σ ρ x y Q h ok r1 r2 q
  unfold neSD at h
  split at h
  · cases r1
    cases r2
    refine ⟨rfl, ?_⟩
    rw [dec_str]
    exact q _ _ h _ F H (Same.refl _) rfl ok (.bl _)
  · exact h.elim
theorem dt_neS {C : CB} (h : In2 X T A ρ a b neSD (asB C)) : DT X T A ρ (.Compare a [.NotEq] [b] pos) C := dt_cmp op_ne lk_neS (nomark _) h
end
/-! how long a text of numbers is -/
theorem textFrom_le : ∀ (ts : List Str) (k : Nat) (acc : Str), (textFrom k acc ts).length ≤ acc.length + piled ts
  | [], k, acc => Nat.le_add_right _ _
  | t :: r, k, acc => by
    have ih := textFrom_le r (k + 1) (acc ++ (if k > 0 then ", " else "" : String) ++ t)
    have e : (acc ++ (if k > 0 then ", " else "" : String) ++ t).length = acc.length + (if k > 0 then 2 else 0) + t.length := by
      rw [strLen_append, strLen_append]
      split <;> rfl
    rw [e] at ih
    rw [piled_cons]
    show (textFrom (k + 1) (acc ++ (if k > 0 then ", " else "" : String) ++ t) r).length ≤ _
    have e2 : (if k > 0 then 2 else 0 : Nat) ≤ 2 := by split <;> decide
    generalize (if k > 0 then 2 else 0 : Nat) = n at ih e2
    omega
theorem listText_le (ts : List Str) : (listText ts).length ≤ 2 + piled ts := by
  unfold listText
  rw [strLen_append]
  have h := textFrom_le ts 0 "["
  have e1 : ("[" : Str).length = 1 := rfl
  have e2 : ("]" : Str).length = 1 := rfl
  omega
theorem tupleText_le (ts : List Str) : (tupleText ts).length ≤ 3 + piled ts := by
  unfold tupleText
  rw [strLen_append, strLen_append]
  have e1 : ("(" : Str).length = 1 := rfl
  have e2 : ((if ts.length == 1 then ",)" else ")" : String) : Str).length ≤ 2 := by split <;> decide
  cases ts with
  | nil =>
    have e3 : (Str.join ", " []).length = 0 := rfl
    omega
  | cons t ts =>
    have := join_length_add (t :: ts) (by simp)
    omega
theorem piled_le {ts : List Str} {B : Nat} (h : ∀ t ∈ ts, t.length ≤ B) : piled ts ≤ ts.length * (B + 2) := by
  induction ts with
  | nil => simp [piled]
  | cons t ts ih =>
    rw [piled_cons, List.length_cons, Nat.succ_mul]
    have h1 := h t (List.mem_cons_self ..)
    have h2 := ih fun x m => h x (List.mem_cons_of_mem _ m)
    omega
end DL
end

section
/-! The end of a law that shows things (repr): its run is told for the claim's own caller alone, where nothing is being shown. -/
namespace DL
open PySem PySem.Spec PyProof.Rows L2 LamX
abbrev emptyTab : Obj := { cls := .none, data := .fields #[] }
/-- what the layer sees of the head's heap: the tables, and the script where the frame does not hold it -/
def seenHp (K : PySem.W.Frag) (a : Addr) (ts : List Addr) (o : Obj) (ns : List Int) : Hp := fun b =>
  if b ∈ ts then some (.tbl #[]) else if b = a ∧ (K.lookup a).isNone = true then some (.frz o (.lst (ns.map V.int))) else none
section
variable {K : PySem.W.Frag} {a b : Addr} {ts : List Addr} {o : Obj} {ns : List Int}
theorem seen_tab (h : b ∈ ts) : seenHp K a ts o ns b = some (.tbl #[]) := if_pos h
theorem seen_scr (h1 : a ∉ ts) (h2 : K.lookup a = none) : seenHp K a ts o ns a = some (.frz o (.lst (ns.map V.int))) := by
  unfold seenHp
  rw [if_neg h1, if_pos ⟨rfl, by rw [h2]; rfl⟩]
theorem seen_not (h1 : b ∉ ts) (h2 : b = a → K.lookup a ≠ none) : seenHp K a ts o ns b = none := by
  unfold seenHp
  rw [if_neg h1, if_neg]
  rintro ⟨e, q⟩
  refine h2 e ?_
  cases z : K.lookup a with
  | none => rfl
  | some _ => rw [z] at q; cases q
theorem seen_cases {u : HO} (h : seenHp K a ts o ns b = some u) : (b ∈ ts ∧ u = .tbl #[]) ∨ (b ∉ ts ∧ b = a ∧ K.lookup a = none ∧ u = .frz o (.lst (ns.map V.int))) := by
  by_cases h1 : b ∈ ts
  · rw [seen_tab h1] at h
    exact .inl ⟨h1, (Option.some.inj h).symm⟩
  · unfold seenHp at h
    rw [if_neg h1] at h
    by_cases h2 : b = a ∧ (K.lookup a).isNone = true
    · rw [if_pos h2] at h
      exact .inr ⟨h1, h2.1, Option.isNone_iff_eq_none.mp h2.2, (Option.some.inj h).symm⟩
    · rw [if_neg h2] at h
      cases h
end
/-- the run of the law where it is called by the claim -/
def RunG (P : Program) (w : World) (K : PySem.W.Frag) (mg : Str → Option Value) (fa : Addr) (cs : List (Addr × Addr)) (n : Nat) : Prop :=
  ∀ (base : Heap) (s : Shared) (H : Hp) (a : Addr) (ns : List Int), K.In base → base.Ns mainGlobals mg → (∀ p ∈ cs, TabB base mg p.1 p.2) → Env0 P w K mg base callerA [] s H → (∀ p ∈ cs, H p.2 = some (.tbl #[])) → (∀ b u, H b = some u → b ∈ cs.map (·.2) ∨ ∃ o, u = .frz o (.lst (ns.map V.int))) →
    SqL K H a (ns.map V.int) → ns.length ≤ n → codeAny (model P w) callerA (.call (.ref fa) ⟨[.ref a], []⟩) (CR (L2.CX P w) [] P w H s (fun v _ => v = .bl true) fun _ _ _ => False) s
section
variable {P : Program} {w : World} {K : PySem.W.Frag} {mg mb : Str → Option Value} {fa a : Addr} {cs : List (Addr × Addr)} {s : Shared} {vs : List Value} {ns : List Int} {n : Nat}
theorem callG (run : RunG P w K mg fa cs n) (hK : K.In s.heap) (hG : s.heap.Ns mainGlobals mg) (hB : s.heap.Ns builtinsNs mb) (hboot : ∀ x : Str, x ≠ "__name__" → mb x = bootBuiltins x) (hL : s.heap.NoLimit) (hgen : s.gens = #[])
    (tab : ∀ p ∈ cs, s.heap.get? p.2 = some emptyTab ∧ K.lookup p.2 = none ∧ PySem.W.CodeHd s.heap p.1 p.2)
    (hbm : ∃ (bm : Addr) (ob : Obj), mg "__builtins__" = some (.ref bm) ∧ bm ≠ builtinsNs ∧ s.heap.get? bm = some ob ∧ ob.cls = .type "module" ∧ ob.dict = some builtinsNs ∧ ob.data = .plain)
    (hscr : s.heap.get? a = some { cls := .type "list", data := .seq vs.toArray }) (hints : IntsAre vs ns) (hlen : ns.length ≤ n) (hn : n ≤ sizeLine) :
    codeAny (model P w) callerA (.call (.ref fa) ⟨[.ref a], []⟩) (fun r s' => r = .ok (.ret (.bool true)) ∧ OldK s.heap s'.heap ∧ s'.os = s.os ∧ AllBare s'.gens) s := by
  have hvals := vals_ints hints
  have hvl := hints.length
  obtain ⟨H, eH⟩ : ∃ H, H = seenHp K a (cs.map (·.2)) { cls := .type "list", data := .seq vs.toArray } ns := ⟨_, rfl⟩
  have cases_ : ∀ b u, H b = some u → (b ∈ cs.map (·.2) ∧ u = .tbl #[]) ∨ (b ∉ cs.map (·.2) ∧ b = a ∧ K.lookup a = none ∧ u = .frz { cls := .type "list", data := .seq vs.toArray } (.lst (ns.map V.int))) := fun b u e => seen_cases (by rw [← eH]; exact e)
  have tabObjAt : ∀ b ∈ cs.map (·.2), s.heap.get? b = some emptyTab := fun b hb => by
    obtain ⟨p, hp, rfl⟩ := List.mem_map.mp hb
    exact (tab p hp).1
  have scr_not_tab : a ∉ cs.map (·.2) := fun z => by
    have := hscr.symm.trans (tabObjAt a z)
    injection this with e
    injection e with _ _ e3
    cases e3
  -- all else is not seen
  have unseen : ∀ {b : Addr} {o : Obj}, s.heap.get? b = some o → (∀ xs m, o.data ≠ .seq xs m) → o.data ≠ .fields #[] → H b = none := fun {b o} e h1 h2 => by
    cases q : H b with
    | none => rfl
    | some u =>
      rcases cases_ b u q with ⟨hb, _⟩ | ⟨_, rfl, _, _⟩
      · rw [tabObjAt b hb] at e
        cases e
        exact (h2 rfl).elim
      · rw [hscr] at e
        cases e
        exact (h1 _ _ rfl).elim
  have ofDict : ∀ {b : Addr} {o : Obj} {es : Array DictEntry} {ep : Nat}, s.heap.get? b = some o → o.data = .dict es ep → (hidT s.heap H).get? b = some o := fun {b o es ep} e d =>
    hidT_get e (unseen e (fun xs m z => by rw [d] at z; cases z) fun z => by rw [d] at z; cases z)
  have nsB : ∀ {b : Addr} {m : Str → Option Value}, s.heap.Ns b m → (hidT s.heap H).Ns b m := fun {b m} ⟨o, es, ep, e, d, r⟩ => ⟨o, es, ep, ofDict e d, d, r⟩
  have inB : K.In (hidT s.heap H) := fun b o e => by
    refine hidT_get (hK b o e) ?_
    cases q : H b with
    | none => rfl
    | some u =>
      rcases cases_ b u q with ⟨hb, _⟩ | ⟨_, rfl, hk, _⟩
      · obtain ⟨p, hp, rfl⟩ := List.mem_map.mp hb
        rw [(tab p hp).2.1] at e
        cases e
      · rw [hk] at e
        cases e
  have tabB : ∀ p ∈ cs, TabB (hidT s.heap H) mg p.1 p.2 := fun p hp => by
    obtain ⟨t1, t2, t3⟩ := tab p hp
    refine ⟨?_, ?_, fun z => ?_⟩
    · obtain ⟨o, us, file, tf, flags, tg, inF, text, tt, e1, r1, r2, r3, rest⟩ := t3
      refine ⟨o, us, file, tf, flags, tg, inF, text, tt, hidT_get e1 (unseen e1 (fun xs m z => ?_) fun z => ?_), r1, r2, r3, rest⟩
      · rw [r2] at z
        cases z
      · rw [r2] at z
        injection z with z
        rw [z] at r3
        cases r3
    · obtain ⟨bm, ob, b1, b2, b3, b4, b5, b6⟩ := hbm
      refine ⟨bm, ob, b1, b2, fun z => ?_, fun z => ?_, hidT_get b3 (unseen b3 (fun xs m z => ?_) fun z => ?_), b4, b5, b6⟩
      · obtain ⟨o, es, ep, e, d, _⟩ := hG
        rw [← z, b3] at e
        cases e
        rw [b6] at d
        cases d
      · rw [← z, b3] at t1
        cases t1
        cases b6
      · rw [b6] at z
        cases z
      · rw [b6] at z
        cases z
    · obtain ⟨o, es, ep, e, d, _⟩ := hG
      rw [z, t1] at e
      cases e
      cases d
  have hok : HOk P w H s.heap := fun b u e => by
    rcases cases_ b u e with ⟨hb, rfl⟩ | ⟨_, rfl, _, rfl⟩
    · exact tabObjAt b hb
    · exact ⟨hscr, by rw [List.length_map]; omega, vs, _, hvals, hscr⟩
  have env : Env0 P w K mg (hidT s.heap H) callerA [] s H :=
    ⟨rfl, ⟨inB, nsB hG, ⟨mb, nsB hB, hboot⟩, by obtain ⟨mc, l1, l2⟩ := hL; exact ⟨mc, nsB l1, l2⟩⟩, fun b o e => of_hidT e, Nat.le_of_eq (hidT_size _ _), trivial, (fun b hb => absurd hb (by simp [frs])), hok, .of_eq hgen⟩
  have sq : SqL K H a (ns.map V.int) := by
    cases hk : K.lookup a with
    | none => exact .inl (.inr ⟨_, by rw [eH]; exact seen_scr scr_not_tab hk⟩)
    | some o =>
      have e := hK a o hk
      rw [hscr] at e
      cases e
      exact .inr ⟨_, vs.toArray, _, hk, rfl, rfl, rfl, by rw [List.size_toArray, hvl]; omega, by simpa using hvals⟩
  have go := run (hidT s.heap H) s H a ns inB (nsB hG) tabB env (fun p hp => by rw [eH]; exact seen_tab (List.mem_map.mpr ⟨p, hp, rfl⟩)) (fun b u e => by
    rcases cases_ b u e with ⟨hb, _⟩ | ⟨_, _, _, q⟩
    · exact .inl hb
    · exact .inr ⟨_, q⟩) sq hlen
  refine codeAny_mono go fun r s' done => ?_
  match r, done with
  | .error e, ⟨_, _, _, _, _, _, _, _, _, _, _, _, z⟩ => exact z.elim
  | .ok (.ret u), ⟨v, H', hos, hbare, un, hok', rv, qv⟩ =>
    have qv' : v = .bl true := qv
    subst qv'
    have eu : u = Value.bool true := rv
    subst eu
    have kept : ∀ b o, b ∉ cs.map (·.2) → s.heap.get? b = some o → s'.heap.get? b = some o := fun b o nb e => by
      cases q : H b with
      | none => exact un.keep b o e q (fun z => by cases z) (fun z => by cases z)
      | some u =>
        rcases cases_ b u q with ⟨hb, _⟩ | ⟨_, rfl, _, rfl⟩
        · exact (nb hb).elim
        · have z := (hok' b _ (un.frzs b _ _ q)).1
          rw [hscr] at e
          cases e
          exact z
    have grown : ∀ b ∈ cs.map (·.2), ∃ more : Array Value, s'.heap.get? b = some { cls := .none, data := .fields more } := fun b hb => by
      obtain ⟨more, z⟩ := un.tbls b #[] (by rw [eH]; exact seen_tab hb)
      exact ⟨_, hok' b _ z⟩
    refine ⟨rfl, ⟨fun b o e => ?_, fun b o e => ?_⟩, hos, hbare⟩
    · by_cases hb : b ∈ cs.map (·.2)
      · obtain ⟨p, hp, ep⟩ := List.mem_map.mp hb
        obtain ⟨more, hm⟩ := grown b hb
        have e0 := tabObjAt b hb
        rw [e] at e0
        cases e0
        refine .inr (.inl ⟨?_, rfl, #[], more, rfl, by rw [Array.empty_append]; exact hm⟩)
        rw [← ep]
        exact ((tab p hp).2.2.tab (tab p hp).1).isCodeTable
      · exact .inl (kept b o hb e)
    · by_cases hb : b ∈ cs.map (·.2)
      · obtain ⟨more, hm⟩ := grown b hb
        exact ⟨_, hm⟩
      · exact ⟨o, kept b o hb e⟩
end
/-- the law row's walk -/
theorem walkG {l : PySem.W.OpenLaw} {n : Nat} {q : Program} {loose : List Str} {XP : (Str → Option Value) → Heap → Prop} {YP : World → Heap → Prop} {d : DefRec} {K : Params → PySem.W.Frag} (hmost : l.most = some n) (hn : n ≤ sizeLine) (hdf : d.params.defaults = []) (hY : ∀ (w : World) (h : Heap), YP w h → (K w.params).In h)
    (F : ∀ (w : World) (mg : Str → Option Value) (fa : Addr) (h : Heap), YP w h → (K w.params).In h → h.Ns mainGlobals mg → mg d.name = some (.ref fa) →
      ∃ cs : List (Addr × Addr), (∀ p ∈ cs, h.get? p.2 = some emptyTab ∧ (K w.params).lookup p.2 = none ∧ PySem.W.CodeHd h p.1 p.2) ∧ RunG l.prog w (K w.params) mg fa cs n) :
    PySem.W.WalkO q loose XP YP l.row.toRowW d [] (fun f vs => PySem.call f vs) := by
  refine Att.attach_callB hmost hdf ?_
  intro w s₀ s₁ mg mb fa o pm cd doc a vs ns G Y ho hd hcd hmg hobj hints hlen hbits hg
  obtain ⟨cs, tab, run⟩ := F w mg fa _ Y (hY w _ Y) G.T.g hmg
  exact callG run (hY w _ Y) G.T.g G.T.b G.T.builtins G.T.nolimit hg tab G.T.bmain hobj hints hlen hn
end DL
end

section
/-! a def run at given surroundings; the law's start. -/
namespace DL
open PySem PySem.Spec PyProof.Rows L2 LamX
theorem okRun {P : Program} {w : World} {K : PySem.W.Frag} {mg : Str → Option Value} {base : Heap} {T : List (Addr × Str)} {x qual : Str} {st : Stmt} {f : Addr} {fd : FuncData} {N ps : List Str} {k : Nat} (F : Fun K x qual st f fd) (S : FnScope N ps (defScope st)) {A : Around} {outer : List Env} {s : Shared} {H : Hp} {args : Args} {us : List Value} {vs : List V} {ds : List D} {Q : VK} {E : XK} {Fz : Hp} {g : Nat} {C : Out → Prop}
    (hr : Room (k + 1) A) (e0 : Env0 P w K mg base A outer s H) (hb : BindsTo s fd args (ps.zip us)) (r : Vals vs us) (hl : vs.length = ps.length) (ok : Ok K T ⟨Fz, H, []⟩ Fz H [] (.bare [] g)) (rd : Rs K Fz [] vs ds)
    (hQ : ∀ d g', C (.ret d g') → ∀ v F' H', R K F' [] v d → Q v H') (hN : ∀ ds g', C (.new ds g') → ∀ a H', Q (.ref a) H') (hNB : ∀ c g', C (.newB c g') → ∀ a H', Q (.ref a) H')
    (hbody : ∀ cdv, Room k (A.deeper (PyProof.Rows.envOfC qual (defScope st) s.heap.objs.size f cdv)) → DSs (bodyCx P w K mg base N qual st f cdv A outer s H E) T ⟨Fz, H, []⟩ ⟨pad ds (N.length - ds.length), [], [], g⟩ (defBody st) (bodyO [] C)) :
    codeAny (model P w) A (.call (.ref f) args) (CR (L2.CX P w) outer P w H s Q E) s := by
  obtain ⟨oc, od, kV, doc, pm, an, cdv, ct, osl, rfl, lk, hcd⟩ := F.ex
  refine run_ofS lk hcd S hr e0 hb r hl fun hr' => ?_
  have hb2 := hbody cdv hr'
  refine ⟨_, hb2.pe, Fz, ?_, fun ρ' c σ' F2 H2 s2 w2 ok2 => ?_, fun rv ρ' c v σ' F2 H2 ok2 gv => ?_, fun ρ' c => c.elim, fun ρ' c => c.elim⟩
  · exact ok.padded rd
  · exact hQ _ _ c .non F2 H2 .non
  · cases rv with
    | v d =>
      obtain ⟨hw, c⟩ := c
      refine hQ _ _ c v F2 H2 ?_
      rcases hw with hw | ⟨b, rfl⟩
      · have gv' : R K F2 ρ'.ws v d := gv
        rw [hw] at gv'
        exact gv'
      · cases (show R K F2 ρ'.ws v (.bl b) from gv)
        exact .bl _
    | l a es =>
      obtain ⟨hw, c⟩ := c
      obtain ⟨rfl, _⟩ := id gv
      exact hN _ _ c a H2
    | b a cc =>
      obtain ⟨hw, c⟩ := c
      obtain ⟨rfl, _⟩ := id gv
      exact hNB _ _ c a H2
/-- the frozen heap at the law's start -/
def startF (H : Hp) : Hp := fun b => match H b with
  | some (.tbl _) => none
  | o => o
theorem startF_of {H : Hp} {b : Addr} {o : HO} (h : startF H b = some o) : H b = some o ∧ NoTbl o := by
  unfold startF at h
  split at h
  · cases h
  · rename_i x hx
    refine ⟨h, fun ps z => ?_⟩
    subst z
    exact hx ps h
theorem startF_at {H : Hp} {b : Addr} {o : HO} (h : H b = some o) (n : NoTbl o) : startF H b = some o := by
  unfold startF
  split
  · rename_i ps e
    rw [h] at e
    cases e
    exact absurd rfl (n ps)
  · exact h
theorem start_ok {K : PySem.W.Frag} {T : List (Addr × Str)} {H : Hp} {g : Nat} (t : Tabs T H) : Ok K T ⟨startF H, H, []⟩ (startF H) H [] (.bare [] g) := by
  refine ⟨Same.refl _, fun b o e => (startF_of e).1, fun _ _ e _ _ => e, fun _ _ n => n, fun _ h => h, ⟨t, fun b o e => (startF_of e).2⟩, fun _ h => h, fun _ h => .inl h, fun a m => (by cases m), fun i d e => (by simp at e), fun i a ds e => (by simp [ownOf] at e), fun p a ds e => (by rw [at_bare] at e; cases e), fun p q a ds es e => (by rw [at_bare] at e; cases e), Nat.le_refl _⟩
theorem start_sq {K : PySem.W.Frag} {H : Hp} {a : Addr} {xs : List V} (h : SqL K H a xs) : SqL K (startF H) a xs := by
  rcases h with (h | ⟨o, h⟩) | h
  · exact .inl (.inl (startF_at h (by intro ps z; cases z)))
  · exact .inl (.inr ⟨o, startF_at h (by intro ps z; cases z)⟩)
  · exact .inr h
theorem start_tabs {T : List (Addr × Str)} {H : Hp} (h : ∀ p ∈ T, H p.1 = some (.tbl #[])) : Tabs T H := fun p hp => by
  refine ⟨#[], h p hp, ?_, fun pos cv e => ?_⟩
  · first | trivial | exact .nil | rfl | decide
  · cases e
end DL
end

section
/-! what the head tells of a def, of an exception class. -/
namespace DL
open PySem PySem.Spec PyProof.Rows L2 LamX
structure DefK (K : PySem.W.Frag) (x : Str) (st : Stmt) (f : Addr) : Prop where
  ns : PySem.W.nsIn K mainGlobals x = some (some (.ref f))
  ex : ∃ (oc : Value) (od : Option Addr) (kV doc pm : Value) (an : Option Addr) (cdv ct : Value) (osl : Array (Option Value)), K.lookup f = some ⟨oc, od, .func (PySem.W.fnOf x x (defArgs st) (defBody st) (defScope st) .none kV doc pm an cdv ct), osl⟩ ∧ PySem.W.codeIn K cdv x = true
  kp : PySem.W.keepIn K (.ref f) = true
  fn : PySem.W.isFn K (.ref f) = true
/-- a def that makes lambdas: its code object, its table -/
structure DefCK (K : PySem.W.Frag) (x : Str) (st : Stmt) (f c p : Addr) : Prop where
  ns : PySem.W.nsIn K mainGlobals x = some (some (.ref f))
  ex : ∃ (oc : Value) (od : Option Addr) (kV doc pm : Value) (an : Option Addr) (ct : Value) (osl : Array (Option Value)), K.lookup f = some ⟨oc, od, .func (PySem.W.fnOf x x (defArgs st) (defBody st) (defScope st) .none kV doc pm an (.ref c) ct), osl⟩ ∧ PySem.W.codeIn K (.ref c) x = true
  kp : PySem.W.keepIn K (.ref f) = true
  fn : PySem.W.isFn K (.ref f) = true
  hd : PySem.W.codeHdIn K c p = true
  out : K.lookup p = none
/-- an exception class of one field -/
structure ExcK (P : Program) (K : PySem.W.Frag) (mg : Str → Option Value) (x px fn : Str) (C : Addr) : Prop where
  ns : PySem.W.nsIn K mainGlobals x = some (some (.ref C))
  oex : OexC K C
  xf : XfC K C
  no : PySem.W.findIn K (.ref C) fn = some none
  ini : ∃ (fI : Addr) (fd : FuncData), PySem.W.findIn K (.ref C) "__init__" = some (some (.ref fI)) ∧ PySem.W.typeIn K (.ref fI) = some (.type "function") ∧ IniFn P K mg C fI px fn fd ∧ Binds K fd ["self", px] []
theorem defK {K : PySem.W.Frag} {x : Str} {st : Stmt} {f : Addr} {oc : Value} {od : Option Addr} {kV doc pm : Value} {an : Option Addr} {cdv ct : Value} {osl : Array (Option Value)} (ns : PySem.W.nsIn K mainGlobals x = some (some (.ref f)))
    (l : K.lookup f = some ⟨oc, od, .func (PySem.W.fnOf x x (defArgs st) (defBody st) (defScope st) .none kV doc pm an cdv ct), osl⟩) (c : PySem.W.codeIn K cdv x = true) (kp : PySem.W.keepIn K (.ref f) = true) (fn : PySem.W.isFn K (.ref f) = true) : ∃ f, DefK K x st f :=
  ⟨f, ns, ⟨_, _, _, _, _, _, _, _, _, l, c⟩, kp, fn⟩
theorem defCK {K : PySem.W.Frag} {x : Str} {st : Stmt} {f c0 p : Addr} {oc : Value} {od : Option Addr} {kV doc pm : Value} {an : Option Addr} {ct : Value} {osl : Array (Option Value)} (ns : PySem.W.nsIn K mainGlobals x = some (some (.ref f)))
    (l : K.lookup f = some ⟨oc, od, .func (PySem.W.fnOf x x (defArgs st) (defBody st) (defScope st) .none kV doc pm an (.ref c0) ct), osl⟩) (c : PySem.W.codeIn K (.ref c0) x = true) (kp : PySem.W.keepIn K (.ref f) = true) (fn : PySem.W.isFn K (.ref f) = true)
    (hd : PySem.W.codeHdIn K c0 p = true) (out : K.lookup p = none) : ∃ f c, DefCK K x st f c p :=
  ⟨f, c0, ns, ⟨_, _, _, _, _, _, _, _, l, c⟩, kp, fn, hd, out⟩
/-- a method call on one line -/
theorem line_call {o : Expr} {m x : Str} {apos p3 pos : Pos} (hl : (apos.endLine == pos.line) = true) (env : Env) : ∃ pl : Sem Bool, eval (.Call (.Attribute o m apos) [.Name x p3] [] pos) env = (do
    let ov ← attributeBase o m env (eval o env)
    standAt apos.atName
    let (f, first) ← holding [ov] (getMethod ov m pl)
    callWith pos f first (backTo pos (starEach [.Name x p3] env)) []) := by
  refine ⟨plainOf o env, ?_⟩
  rw [arm_eval_Call]
  congr 1
  funext ov
  congr 1
  funext _
  exact mcall_line rfl hl
theorem excK {P : Program} {K : PySem.W.Frag} {mg : Str → Option Value} {x px fn : Str} {C fI : Addr} {oc cl ccl : Value} {od cdd cld : Option Addr} {osl ccs csl : Array (Option Value)} {qual file : Str} {tf : Tok} {params : Arguments} {scope : Scope} {dV kV doc pm ct : Value} {an : Option Addr} {cda cc : Addr} {vs : Array Value} {p0 p1 p2 p3 p4 p5 p6 p7 p8 p9 : Pos}
    {nm q : Str} {N : Addr} {bs bm : List Value} {sn : List Str} {sub : List Value} {ab : Bool} {col : Option Bool} {dd : Option Addr} {k0 k1 k2 k3 k5 : Option Value}
    (ns : PySem.W.nsIn K mainGlobals x = some (some (.ref C))) (lC : K.lookup C = some (excClassObj nm q C N bs bm true sn sub ab col dd k0 k1 k2 k3 k5 "ValueError.__new__")) (ve : PySem.HandSPX.refsVE bm = true)
    (sa : PySem.W.findIn K (.ref C) "__setattr__" = some (some (.builtin "object.__setattr__"))) (exC : PySem.W.subIn K (.ref C) (.type "BaseException") = some true) (tyC : PySem.W.typeIn K (.ref C) = some (.type "type")) (kC : PySem.W.keepIn K (.ref C) = true)
    (ga : PySem.W.findIn K (.ref C) "__getattribute__" = some (some (.builtin "BaseException.__getattribute__"))) (gg : PySem.W.findIn K (.ref C) "__getattr__" = some none) (hdC : PySem.W.hasDictIn K C = true)
    (no : PySem.W.findIn K (.ref C) fn = some none) (i1 : PySem.W.findIn K (.ref C) "__init__" = some (some (.ref fI))) (i2 : PySem.W.typeIn K (.ref fI) = some (.type "function"))
    (l : K.lookup fI = some ⟨oc, od, .func (PySem.W.ksFn "__init__" qual params [.Expr (.Call (.Attribute (.Call (.Name "super" p0) [] [] p1) "__init__" p2) [.Name px p3] [] p4) p5, .Assign [.Attribute (.Name "self" p6) fn p7] (.Name px p8) p9] scope dV kV doc pm an (.ref cda) ct cc), osl⟩)
    (hcd : PySem.W.codeIn K (.ref cda) qual = true) (lc : K.lookup cda = some ⟨ccl, cdd, .fields vs, ccs⟩) (hv : vs[2]? = some (.str file tf)) (hf : ((P.main.file : Str) == file) = true) (lcc : K.lookup cc = some ⟨cl, cld, .cell (some (.ref C)), csl⟩)
    (hp : ((params.posonlyargs ++ params.args).head?.map (·.arg)) = some "self") (Si : iniSB px scope = true) (hl : (p2.endLine == p4.line) = true)
    (sup : PySem.W.ks_superIn K C C "__init__" = some (some (.builtin "ValueError.__init__"))) (sb : PySem.W.subIn K (.ref C) (.type "ValueError") = some true) (own : PySem.W.mroIn K C (.ref C) = some true) (ic : PySem.W.isClsIn K C = true)
    (hb : ∀ us : List Value, us.length = 2 → bindArgs (PySem.W.ksFn "__init__" qual params [.Expr (.Call (.Attribute (.Call (.Name "super" p0) [] [] p1) "__init__" p2) [.Name px p3] [] p4) p5, .Assign [.Attribute (.Name "self" p6) fn p7] (.Name px p8) p9] scope dV kV doc pm an (.ref cda) ct cc) ⟨us, []⟩ = pure (([("self" : Str), px] : List Str).zip us)) :
    ExcK P K mg x px fn C := by
  have ox : OexC K C := ⟨⟨_, _, _, _, _, _, _, _, _, _, _, _, _, _, _, lC, ve⟩, sa, exC, tyC, kC⟩
  have ic' : (PySem.W.clsIn K C).isSome = true := ic
  exact ⟨ns, ox, ⟨ga, gg, exC, hdC⟩, no, fI, _, i1, i2, ⟨⟨_, _, _, _, _, _, _, _, _, _, _, _, _, _, _, _, _, _, _, _, _, _, _, _, _, _, _, _, _, _, _, _, _, rfl, l, hcd, lc, hv, hf, lcc, hp, iniS_by Si, line_call hl⟩, sup, sb, own, Option.isSome_iff_exists.mp ic', no, ox⟩, .all hb⟩
end DL
end

section
/-! from what the head tells of a def to what a caller knows. -/
open PySem L2 DL PyProof.Rows
namespace DL
section
variable {P : Program} {w : World} {K : PySem.W.Frag} {mg : Str → Option Value} {base : Heap} {T : List (Addr × Str)} {x : Str} {st : Stmt} {f c p : Addr} {k : Nat} {N : DF} {ps : List Str}
abbrev Bnd (x : Str) (st : Stmt) (ps : List Str) : Prop := ∀ (kV doc pm : Value) (an : Option Addr) (cdv ct : Value) (us : List Value), us.length = ps.length → bindArgs (PySem.W.fnOf x x (defArgs st) (defBody st) (defScope st) .none kV doc pm an cdv ct) ⟨us, []⟩ = pure (ps.zip us)
abbrev BndK (x : Str) (st : Stmt) (ps ks : List Str) (idx : List Nat) : Prop := ∀ (kV doc pm : Value) (an : Option Addr) (cdv ct : Value) (us : List Value), us.length = ks.length → bindArgs (PySem.W.fnOf x x (defArgs st) (defBody st) (defScope st) .none kV doc pm an cdv ct) ⟨[], ks.zip us⟩ = pure (ps.zip (perm idx us))
theorem knOf (X : K.In base) (G : base.Ns mainGlobals mg) (d : DefK K x st f) (ok : ∀ fd, Fun K x x st f fd → FnOk P w K mg base (L2.CX P w) k f fd ps (spD K T N)) (hb : Bnd x st ps) : Kn P w K mg base T x k N := by
  obtain ⟨ns, ⟨oc, od, kV, doc, pm, an, cdv, ct, osl, l, hc⟩, kp, fn⟩ := d
  exact ⟨f, _, ps, ok _ (fun_mk l hc kp), PySem.W.mg_of X G ns, kp, .all (hb kV doc pm an cdv ct)⟩
theorem knAOf (X : K.In base) (G : base.Ns mainGlobals mg) (d : DefK K x st f) (ok : ∀ fd, Fun K x x st f fd → FnOk P w K mg base (L2.CX P w) k f fd ps (spD K T N)) (hb : Bnd x st ps) : KnA P w K mg base T f k N := by
  obtain ⟨ns, ⟨oc, od, kV, doc, pm, an, cdv, ct, osl, l, hc⟩, kp, fn⟩ := d
  exact ⟨_, ps, ok _ (fun_mk l hc kp), kp, .all (hb kV doc pm an cdv ct)⟩
theorem knKOf {ks : List Str} {idx : List Nat} (X : K.In base) (G : base.Ns mainGlobals mg) (d : DefK K x st f) (ok : ∀ fd, Fun K x x st f fd → FnOk P w K mg base (L2.CX P w) k f fd ps (spD K T N)) (hb : BndK x st ps ks idx) : KnK P w K mg base T x k N ks idx := by
  obtain ⟨ns, ⟨oc, od, kV, doc, pm, an, cdv, ct, osl, l, hc⟩, kp, fn⟩ := d
  exact ⟨f, _, ps, ok _ (fun_mk l hc kp), PySem.W.mg_of X G ns, kp, hb kV doc pm an cdv ct⟩
theorem knCOf (X : K.In base) (G : base.Ns mainGlobals mg) (d : DefCK K x st f c p) (ok : ∀ fd, FunC K x x st f fd c → FnOk P w K mg base (L2.CX P w) k f fd ps (spD K T N)) (hb : Bnd x st ps) : Kn P w K mg base T x k N := by
  obtain ⟨ns, ⟨oc, od, kV, doc, pm, an, ct, osl, l, hc⟩, kp, fn, _, _⟩ := d
  exact ⟨f, _, ps, ok _ ⟨oc, od, kV, doc, pm, an, ct, osl, rfl, l, hc⟩, PySem.W.mg_of X G ns, kp, .all (hb kV doc pm an (.ref c) ct)⟩
theorem DefK.at_ (d : DefK K x st f) : FnAt K f := ⟨d.fn, d.kp⟩
theorem excOf {fn px : Str} {C : Addr} (X : K.In base) (G : base.Ns mainGlobals mg) (S : SupM P K mg) (e : ExcK P K mg x px fn C) : KnE P w K mg base x C fn := by
  obtain ⟨fI, fd, i1, i2, i3, i4⟩ := e.ini
  exact ⟨PySem.W.mg_of X G e.ns, e.oex, e.xf, e.no, fI, fd, px, i1, i2, ini_ok S i3, i4⟩
end
end DL
end

section
/-! dicts, texts, membership in data. -/
namespace DL
open PySem PySem.Spec L2
/-! ### dicts as data -/
def lookD (kvs : List (Key × D)) (k : Key) : Option D := (kvs.find? fun kv => decide (kv.1 = k)).map (·.2)
def putD (kvs : List (Key × D)) (k : Key) (d : D) : List (Key × D) := if (kvs.any fun kv => decide (kv.1 = k)) = true then kvs.map (fun kv => if kv.1 = k then (kv.1, d) else kv) else kvs ++ [(k, d)]
def mergeD (kvs more : List (Key × D)) : List (Key × D) := more.foldl (fun acc kv => putD acc kv.1 kv.2) kvs
def keyD : D → Option Key
  | .int i => some (.inl i)
  | .str x => some (.inr x)
  | _ => none
section
variable {K : PySem.W.Frag} {F H : Hp} {ws : List Addr}
theorem keyD_V {v : V} {d : D} {k : Key} (r : R K F ws v d) (e : keyD d = some k) : v = kV k := by
  cases r <;> first | (cases e; rfl) | cases e
theorem Rk.look {k : Key} : ∀ {ds : List (Key × D)} {vs : List (Key × V)}, Rk K F ws vs ds → (∃ v d, valV vs k = some v ∧ lookD ds k = some d ∧ R K F ws v d) ∨ (valV vs k = none ∧ lookD ds k = none)
  | [], _, r => by cases r; exact .inr ⟨rfl, rfl⟩
  | (k', d') :: ds, _, r => by
    cases r with
    | @cons _ v vs _ _ h t =>
      by_cases e : k' = k
      · refine .inl ⟨v, d', by rw [valV_pos e], ?_, h⟩
        unfold lookD
        rw [List.find?_cons, decide_eq_true (show (k', d').1 = k from e)]
        rfl
      · have e2 : lookD ((k', d') :: ds) k = lookD ds k := by
          unfold lookD
          rw [List.find?_cons, decide_eq_false (show ¬ (k', d').1 = k from e)]
        rw [valV_neg (show ¬ (k', v).1 = k from e), e2]
        exact Rk.look t
theorem Rk.any {k : Key} : ∀ {ds : List (Key × D)} {vs : List (Key × V)}, Rk K F ws vs ds → (vs.any fun kv => decide (kv.1 = k)) = ds.any fun kv => decide (kv.1 = k)
  | [], _, r => by cases r; rfl
  | _ :: _, _, r => by
    cases r with
    | cons h t => rw [List.any_cons, List.any_cons, Rk.any t]
theorem Rk.app : ∀ {ds es : List (Key × D)} {vs us : List (Key × V)}, Rk K F ws vs ds → Rk K F ws us es → Rk K F ws (vs ++ us) (ds ++ es)
  | [], _, _, _, r, s => by cases r; exact s
  | _ :: _, _, _, _, r, s => by
    cases r with
    | cons h t => exact .cons h (Rk.app t s)
theorem Rk.repl {k : Key} {v : V} {d : D} (r : R K F ws v d) : ∀ {ds : List (Key × D)} {vs : List (Key × V)}, Rk K F ws vs ds → Rk K F ws (vs.map fun kv => if kv.1 = k then (kv.1, v) else kv) (ds.map fun kv => if kv.1 = k then (kv.1, d) else kv)
  | [], _, t => by cases t; exact .nil
  | (k', d') :: _, _, t => by
    cases t with
    | @cons _ v' _ _ _ h t =>
      rw [List.map_cons, List.map_cons]
      by_cases e : k' = k
      · rw [if_pos (show (k', v').1 = k from e), if_pos (show (k', d').1 = k from e)]
        exact .cons r (Rk.repl r t)
      · rw [if_neg (show ¬ (k', v').1 = k from e), if_neg (show ¬ (k', d').1 = k from e)]
        exact .cons h (Rk.repl r t)
theorem Rk.put {k : Key} {v : V} {d : D} (r : R K F ws v d) {ds : List (Key × D)} {vs : List (Key × V)} (t : Rk K F ws vs ds) : Rk K F ws (putK vs k v) (putD ds k d) := by
  unfold putK putD
  rw [Rk.any t]
  split
  · exact Rk.repl r t
  · exact t.app (.cons r .nil)
theorem Rk.merge : ∀ {es ds : List (Key × D)} {us vs : List (Key × V)}, Rk K F ws us es → Rk K F ws vs ds → Rk K F ws (mergeK vs us) (mergeD ds es)
  | [], _, _, _, r, t => by cases r; exact t
  | _ :: _, _, _, _, r, t => by
    cases r with
    | cons h r2 =>
      exact Rk.merge (ds := putD _ _ _) (vs := putK _ _ _) r2 (Rk.put h t)
theorem Rk.mo' {F' : Hp} {ds : List (Key × D)} {vs : List (Key × V)} (r : Rk K F ws vs ds) (s : Same F F') : Rk K F' ws vs ds := Rk.mono s (fun _ z => z) _ _ r
end
section
variable {X : Cx} {T : List (Addr × Str)} {A : Anc} {ρ : Ev} {a b e : Expr} {es : List Expr} {C : CD} {pos p : Pos} {O : DO} {x : Str} {i : Nat}
/-- d[k], d a dict -/
def ixK : D → D → CD → Ev → Prop
  | .dK kvs, k, C, ρ => ∃ key d, keyD k = some key ∧ lookD kvs key = some d ∧ C d ρ
  | _, _, _, _ => False
theorem lk_ixK : Lk X T A (fun x y H Q => ∃ a v, x = .ref a ∧ DGet H a y (some v) ∧ Q v H) ixK := by
  intro d1 d2 C F H σ ρ x y Q h ok r1 r2 q
  unfold ixK at h
  split at h
  · obtain ⟨key, d, e1, e2, c⟩ := h
    cases r1 with
    | @dK a o xs _ h1 t =>
      rw [keyD_V r2 e1]
      rcases t.look (k := key) with ⟨v, d', e3, e4, r⟩ | ⟨_, e4⟩
      · rw [e2] at e4
        cases e4
        exact ⟨a, v, rfl, .inl ⟨xs, key, .inr ⟨o, ok.sub _ _ h1⟩, rfl, e3.symm⟩, q _ _ c _ F H (Same.refl _) rfl ok r⟩
      · rw [e2] at e4
        cases e4
  · exact h.elim
theorem de_ixK (hu : X.A.units + 64 < cLine) (h : In2 X T A ρ a b ixK C) (hs : NoSl b := by exact fun _ _ => rfl) : DE X T A ρ (.Subscript a b pos) C := DE.of (pe_dget (by omega) pe_go pe_go hs) (go2 lk_ixK h)
/-- k in d -/
theorem op_inKd (hu : X.A.units + 1 < cLine) : OpR X (compareOp .In) (fun x y H Q => ∃ a o, y = .ref a ∧ DGet H a x o ∧ Q (.bl o.isSome) H) := by
  intro pins s σ H x y v u Q I rx ry h
  obtain ⟨a, o, rfl, g, q⟩ := h
  obtain rfl : u = Value.ref a := ry
  exact d_in hu I g rx fun s' I' => ⟨.bl _, H, I', rfl, q⟩
theorem op_notinKd (hu : X.A.units + 1 < cLine) : OpR X (compareOp .NotIn) (fun x y H Q => ∃ a o, y = .ref a ∧ DGet H a x o ∧ Q (.bl (!o.isSome)) H) := by
  intro pins s σ H x y v u Q I rx ry h
  obtain ⟨a, o, rfl, g, q⟩ := h
  obtain rfl : u = Value.ref a := ry
  exact d_notIn hu I g rx fun s' I' => ⟨.bl _, H, I', rfl, q⟩
def inK (f : Bool → Bool) : D → D → CD → Ev → Prop
  | k, .dK kvs, C, ρ => ∃ key, keyD k = some key ∧ C (.bl (f (lookD kvs key).isSome)) ρ
  | _, _, _, _ => False
theorem lk_inK {f : Bool → Bool} : Lk X T A (fun x y H Q => ∃ a o, y = .ref a ∧ DGet H a x o ∧ Q (.bl (f o.isSome)) H) (inK f) := by
  intro d1 d2 C F H σ ρ x y Q h ok r1 r2 q
  unfold inK at h
  split at h
  · obtain ⟨key, e1, c⟩ := h
    cases r2 with
    | @dK a o xs _ h1 t =>
      rw [keyD_V r1 e1]
      refine ⟨a, valV xs key, rfl, .inl ⟨xs, key, .inr ⟨o, ok.sub _ _ h1⟩, rfl, rfl⟩, ?_⟩
      have e : (valV xs key).isSome = (lookD ‹_› key).isSome := by
        rcases t.look (k := key) with ⟨v, d', e3, e4, r⟩ | ⟨e3, e4⟩ <;> rw [e3, e4] <;> rfl
      rw [e]
      exact q _ _ c _ F H (Same.refl _) rfl ok (.bl _)
  · exact h.elim
theorem de_inK (hu : X.A.units + 64 < cLine) (h : In2 X T A ρ a b (inK id) C) (hm : behindInMarks .In b = false := by rfl) : DE X T A ρ (.Compare a [.In] [b] pos) C := de_cmp (op_inKd (by omega)) lk_inK hm h
theorem de_ninK (hu : X.A.units + 64 < cLine) (h : In2 X T A ρ a b (inK not) C) (hm : behindInMarks .NotIn b = false := by rfl) : DE X T A ρ (.Compare a [.NotIn] [b] pos) C := de_cmp (op_notinKd (by omega)) lk_inK hm h
theorem dt_inK {B : CB} (hu : X.A.units + 64 < cLine) (h : In2 X T A ρ a b (inK id) (asB B)) (hm : behindInMarks .In b = false := by rfl) : DT X T A ρ (.Compare a [.In] [b] pos) B := dt_cmp (op_inKd (by omega)) lk_inK hm h
theorem dt_ninK {B : CB} (hu : X.A.units + 64 < cLine) (h : In2 X T A ρ a b (inK not) (asB B)) (hm : behindInMarks .NotIn b = false := by rfl) : DT X T A ρ (.Compare a [.NotIn] [b] pos) B := dt_cmp (op_notinKd (by omega)) lk_inK hm h
/-! ### membership in lists and tuples of plain things -/
def flatD : D → Bool
  | .non => true
  | .bl _ => true
  | .int _ => true
  | .str _ => true
  | _ => false
def eqFl : D → D → Bool
  | .non, .non => true
  | .bl a, .bl b => a == b
  | .bl a, .int b => (if a then 1 else 0) == b
  | .int a, .bl b => a == (if b then 1 else 0)
  | .int a, .int b => a == b
  | .str a, .str b => a == b
  | _, _ => false
theorem flat_R {K : PySem.W.Frag} {F : Hp} {ws : List Addr} {v : V} {d : D} (r : R K F ws v d) (h : flatD d = true) : flatV v = true := by
  cases r <;> first | rfl | cases h
theorem flats_R {K : PySem.W.Frag} {F : Hp} {ws : List Addr} : ∀ {ds : List D} {vs : List V}, Rs K F ws vs ds → ds.all flatD = true → vs.all flatV = true
  | [], _, r, _ => by cases r; rfl
  | d :: ds, _, r, h => by
    cases r with
    | cons r t =>
      rw [List.all_cons, Bool.and_eq_true] at h
      rw [List.all_cons, flat_R r h.1, flats_R t h.2]
      rfl
theorem eqFl_R {K : PySem.W.Frag} {F : Hp} {ws : List Addr} {v u : V} {d e : D} (r : R K F ws v d) (s : R K F ws u e) (h : flatD d = true) (h2 : flatD e = true) : eqV v u = eqFl d e := by
  cases r <;> cases s <;> first | rfl | cases h | cases h2
theorem any_R {K : PySem.W.Frag} {F : Hp} {ws : List Addr} {u : V} {e : D} (s : R K F ws u e) (h2 : flatD e = true) : ∀ {ds : List D} {vs : List V}, Rs K F ws vs ds → ds.all flatD = true → (vs.any fun y => eqV y u) = ds.any fun y => eqFl y e
  | [], _, r, _ => by cases r; rfl
  | d :: ds, _, r, h => by
    cases r with
    | cons r t =>
      rw [List.all_cons, Bool.and_eq_true] at h
      rw [List.any_cons, List.any_cons, eqFl_R r s h.1 h2, any_R s h2 t h.2]
def inS (neg : Bool) : D → D → CD → Ev → Prop := fun d1 d2 C ρ => ∃ ds, seqD d2 = some ds ∧ flatD d1 = true ∧ ds.all flatD = true ∧ C (.bl (if neg then !(ds.any fun y => eqFl y d1) else ds.any fun y => eqFl y d1)) ρ
theorem lk_inS {neg : Bool} : Lk X T A (rIn X.K neg) (inS neg) := by
  intro d1 d2 C F H σ ρ x y Q h ok r1 r2 q
  obtain ⟨ds, e, f1, f2, c⟩ := h
  obtain ⟨p, xs, rfl, hs, t⟩ := seq_of ok.sub r2 e
  refine ⟨p, xs, rfl, hs, flat_R r1 f1, flats_R t f2, ?_⟩
  unfold inV
  rw [any_R r1 f1 t f2]
  exact q _ _ c _ F H (Same.refl _) rfl ok (.bl _)
theorem de_inS (h : In2 X T A ρ a b (inS false) C) (hm : behindInMarks .In b = false := by rfl) : DE X T A ρ (.Compare a [.In] [b] pos) C := de_cmp op_in_seq lk_inS hm h
theorem de_ninS (h : In2 X T A ρ a b (inS true) C) (hm : behindInMarks .NotIn b = false := by rfl) : DE X T A ρ (.Compare a [.NotIn] [b] pos) C := de_cmp op_notIn_seq lk_inS hm h
theorem dt_inS {B : CB} (h : In2 X T A ρ a b (inS false) (asB B)) (hm : behindInMarks .In b = false := by rfl) : DT X T A ρ (.Compare a [.In] [b] pos) B := dt_cmp op_in_seq lk_inS hm h
theorem dt_ninS {B : CB} (h : In2 X T A ρ a b (inS true) (asB B)) (hm : behindInMarks .NotIn b = false := by rfl) : DT X T A ρ (.Compare a [.NotIn] [b] pos) B := dt_cmp op_notIn_seq lk_inS hm h
end
end DL
end

section
/-! dict comprehensions; own dicts stored into; x.pop(i), x.insert(0, e) of own lists; wide division. -/
namespace DL
open PySem PySem.Spec L2
section comp
variable {X : Cx} {T : List (Addr × Str)} {A : Anc} {ρ : Ev} {tg iter kx vx : Expr} {ifs : List Expr} {pos : Pos} {scope : Scope}
abbrev Ev.inK (ρ : Ev) (vs : List Nat) (D0 : Addr) (acc : List (Key × D)) (g : Nat) : Ev := ⟨wipeS ρ.sl vs, (D0, .dK acc) :: ρ.hid, ρ.ws, g⟩
def KeptK (ρ : Ev) (own : List (Str × Nat)) (D0 : Addr) (acc : List (Key × D)) (I : List (Key × D) → Nat → Prop) (acc' : List (Key × D)) (ρ5 : Ev) : Prop :=
  ρ5.hid = (D0, .dK acc) :: ρ.hid ∧ wipeS ρ5.sl (own.map (·.2)) = wipeS ρ.sl (own.map (·.2)) ∧ I acc' ρ5.g
def DcD (X : Cx) (T : List (Addr × Str)) (A : Anc) (scope : Scope) (own : List (Str × Nat)) (tg kx vx : Expr) (ifs : List Expr) (C : CV) (ds : List D) (ρ1 : Ev) : Prop :=
  ∃ I : Nat → List (Key × D) → Nat → Prop, noOwn ρ1.sl (own.map (·.2)) = true ∧ I 0 [] ρ1.g ∧ ds.length < sizeLine ∧
    (∀ i d (acc : List (Key × D)) g D0, ds[i]? = some d → acc.length ≤ i → I i acc g → Blk X scope fun X' => DG X' T A (own.map (·.2)) (ρ1.inK (own.map (·.2)) D0 acc g) tg d (fun ρ3 => Blk X scope fun X' => DTs X' T A ρ3 ifs (fun k ρ4 =>
      branch (Blk X scope fun X' => DE X' T A ρ4 kx (fun dk ρ5 => Blk X scope fun X' => DE X' T A ρ5 vx (fun dv ρ6 => ∃ key, keyD dk = some key ∧ KeptK ρ1 own D0 acc (I (i + 1)) (putD acc key dv) ρ6))) (KeptK ρ1 own D0 acc (I (i + 1)) acc ρ4) k))) ∧
    (∀ acc g, I ds.length acc g → ∀ a, C (.b a (.dK acc)) (ρ1.gas g))
theorem putD_len (acc : List (Key × D)) (k : Key) (d : D) : (putD acc k d).length ≤ acc.length + 1 := by
  unfold putD
  split
  · rw [List.length_map]; omega
  · rw [List.length_append]; exact Nat.le_refl _
theorem dc_read {own : List (Str × Nat)} {C : CV} (h : DI X T A ρ tg iter (fun ds ρ1 => DcD X T A scope own tg kx vx ifs C ds ρ1)) (σ : L2.St) (H : Hp) (Q : VK) (F : Hp) (ok : Ok X.K T A F H σ ρ)
    (q : ∀ r ρ', C r ρ' → ∀ v F' H', Same F F' → ρ'.ws = ρ.ws → Ok X.K T A F' H' σ ρ' → Gv X.K A F' H' ρ' v r → Q v H') : tDc (goI X T A tg iter) (goGB X T A scope tg) (goTB X T A scope ifs) (goEB X T A scope kx) (goEB X T A scope vx) (own.map (·.2)) σ H Q := by
  refine ⟨ρ, _, h, F, ok, fun ds ρ1 ⟨I, no, i0, hz, it, ie⟩ J F1 H1 s1 w1 ok1 y D0 hD => ?_⟩
  obtain ⟨okD, gD⟩ := ok1.mineB (c := .dK []) hD (.dK .nil)
  have ok0 := okD.hideB gD
  refine ⟨fun i m H2 => m = ds.length - i ∧ i ≤ ds.length ∧ ∃ (F2 : Hp) (acc : List (Key × D)) (g : Nat), Same F1 F2 ∧ acc.length ≤ i ∧ Ok X.K T A F2 H2 σ ⟨ρ1.sl, (D0, .dK acc) :: ρ1.hid, ρ1.ws, g⟩ ∧ I i acc g, ⟨_, rfl, Nat.zero_le _, F1, [], ρ1.g, Same.refl _, Nat.le_refl _, ok0, i0⟩, ?_⟩
  rintro i m H2 ⟨rfl, hi, F2, acc, g, s2, ha, ok2, i2⟩
  by_cases hl : i < ds.length
  · refine .inr ⟨y.1 i F2 H2 s2 ok2.sub hl, fun H3 => ∃ (F3 : Hp) (acc : List (Key × D)) (g : Nat), Same F1 F3 ∧ acc.length ≤ i + 1 ∧ Ok X.K T A F3 H3 σ ⟨ρ1.sl, (D0, .dK acc) :: ρ1.hid, ρ1.ws, g⟩ ∧ I (i + 1) acc g, fun H3 ⟨F3, acc', g', s3, ha', ok3, i3⟩ => ⟨ds.length - (i + 1), by omega, rfl, hl, F3, acc', g', s3, ha', ok3, i3⟩, fun x H3 hy => ?_⟩
    have ed : ds[i]? = some ds[i] := List.getElem?_eq_getElem hl
    obtain ⟨F3, s3, ok3, r3⟩ := y.2.2 i _ F2 H2 σ _ x H3 ed s2 ok2 (fun _ z => z) hy
    have okB : Ok X.K T A F3 H3 (wipe σ (own.map (·.2))) (ρ1.inK (own.map (·.2)) D0 acc g) := ok3.wiped
    have gg := it i _ acc g D0 ed ha i2
    refine ⟨own.map (·.2), _, _, _, gg, F3, okB, r3, fun ρ4 c4 σ4 F4 H4 s4 w4 e4 ok4 => ⟨?_, ?_⟩⟩
    · rw [e4]
      exact wipe_id _ fun u m x e => absurd m (wipe_some e).2
    · have hw4 : ρ4.ws = ρ1.ws := w4
      refine ⟨ρ4, _, c4, F4, ok4, fun k ρ5 c5 F5 H5 s5 w5 ok5 => ?_⟩
      have hw5 : ρ5.ws = ρ1.ws := w5.trans hw4
      cases k with
      | false =>
        dsimp only
        rw [if_neg Bool.false_ne_true]
        obtain ⟨e1, e2, e3⟩ := c5.2 rfl
        obtain ⟨sl5, hid5, ws5, g5⟩ := ρ5
        cases e1
        cases hw5
        exact ⟨F5, acc, g5, s2.trans (s3.trans (s4.trans s5)), by omega, ok3.unwiped (s4.trans s5) ok5 e2 no, e3⟩
      | true =>
        dsimp only
        rw [if_pos rfl]
        refine ⟨ρ5, _, c5.1 rfl, F5, ok5, fun dk ρ6 c6 v F6 H6 s6 w6 ok6 r6 => ?_⟩
        refine ⟨ρ6, _, c6, F6, ok6, fun dv ρ7 ⟨key, ek, e1, e2, e3⟩ u F7 H7 s7 w7 ok7 r7 => ?_⟩
        have := keyD_V r6 ek
        subst this
        obtain ⟨sl7, hid7, ws7, g7⟩ := ρ7
        cases e1
        have hw7 : ws7 = ρ1.ws := w7.trans (w6.trans hw5)
        subst hw7
        have ok8 := ok3.unwiped (s4.trans (s5.trans (s6.trans s7))) ok7 e2 no
        obtain ⟨_, _, _, o4, e4, r4⟩ := ok8.owns (.inr 0) D0 (.dK acc) rfl
        obtain ⟨xs, rfl, t4⟩ := r4.dict
        have l4 := t4.len
        exact ⟨xs, key, rfl, e4, by omega, F7, putD acc key dv, g7, s2.trans (s3.trans (s4.trans (s5.trans (s6.trans s7)))), Nat.le_trans (putD_len _ _ _) (by omega), ok8.hidChg (.dK (Rk.put r7 t4)), e3⟩
  · have ei : i = ds.length := by omega
    subst ei
    obtain ⟨ok3, gv⟩ := ok2.unhideB
    exact .inl ⟨y.2.1 _ F2 H2 s2 ok2.sub rfl, q _ _ (ie acc g i2 D0) _ F2 H2 (s1.trans s2) w1 ok3 gv⟩
theorem dv_dc {own : List (Str × Nat)} {C : CV} (hc : X.calm = true) (hN : X.N.Nodup) (ok : BlkOk X.N X.env.scope scope own) (h : DI X T A ρ tg iter (fun ds ρ1 => DcD X T A scope own tg kx vx ifs C ds ρ1))
    (hs : ∀ x, foldedSetIterable iter X.env x = pure x := by intro _; rfl) : DV X T A ρ (.DictComp kx vx [⟨tg, iter, ifs, 0⟩] scope pos) C :=
  DV.of (pe_dc (g := goGB X T A scope tg) (tt := goTB X T A scope ifs) (tk := goEB X T A scope kx) (tv := goEB X T A scope vx) hc hN pi_go ok
    (fun s H Cc cl fp => ⟨fun pins s' σ H' v u Q I r ⟨_, _, _, _, h, q⟩ => (h s H Cc cl fp).pe.run pins s' σ H' v u Q I r q⟩)
    (fun s H Cc cl fp => ⟨fun pins s' σ H' Q I ⟨_, _, h, q⟩ => (h s H Cc cl fp).pe.run pins s' σ H' Q I q⟩)
    (fun s H Cc cl fp => ⟨fun pins s' σ H' Q I ⟨_, _, h, q⟩ => (h s H Cc cl fp).pe.run pins s' σ H' Q I q⟩)
    (fun s H Cc cl fp => ⟨fun pins s' σ H' Q I ⟨_, _, h, q⟩ => (h s H Cc cl fp).pe.run pins s' σ H' Q I q⟩) hs) (dc_read h)
/-- a dict comprehension that maps: each item puts none or one pair -/
theorem dcd_fold {own : List (Str × Nat)} {C : CV} {ds : List D} {vs : List Nat} {slW : List Sl} (f : D → Option (Key × D)) (no : noOwn ρ.sl (own.map (·.2)) = true) (hz : ds.length < sizeLine)
    (h : ∀ (i : Nat) d (acc : List (Key × D)) D0, ds[i]? = some d → Blk X scope fun X' => DG X' T A vs ⟨slW, (D0, .dK acc) :: ρ.hid, ρ.ws, ρ.g⟩ tg d (fun ρ3 => Blk X scope fun X' => DTs X' T A ρ3 ifs (fun k ρ4 =>
      branch (Blk X scope fun X' => DE X' T A ρ4 kx (fun dk ρ5 => Blk X scope fun X' => DE X' T A ρ5 vx (fun dv ρ6 => ∃ key, keyD dk = some key ∧ f d = some (key, dv) ∧ ρ6.hid = (D0, .dK acc) :: ρ.hid ∧ wipeS ρ6.sl vs = slW ∧ ρ6.g = ρ.g))) (f d = none ∧ ρ4.hid = (D0, .dK acc) :: ρ.hid ∧ wipeS ρ4.sl vs = slW ∧ ρ4.g = ρ.g) k)))
    (q : ∀ a, C (.b a (.dK (mergeD [] (ds.filterMap f)))) ρ) (hv : own.map (·.2) = vs := by rfl) (hW : wipeS ρ.sl (own.map (·.2)) = slW := by rfl) : DcD X T A scope own tg kx vx ifs C ds ρ := by
  subst hv hW
  refine ⟨fun i acc g => g = ρ.g ∧ acc = mergeD [] ((ds.take i).filterMap f), no, ⟨rfl, rfl⟩, hz, fun i d acc g D0 ed ha ⟨eg, ea⟩ => ?_, fun acc g ⟨eg, ea⟩ a => ?_⟩
  · subst eg
    have et : ds.take (i + 1) = ds.take i ++ [d] := by rw [List.take_add_one, ed]; rfl
    intro s H Cc cl fp
    refine ⟨⟨fun pins s' σ H' v u Q I r ⟨F, ok, rr, qq⟩ => (h i d acc D0 ed s H Cc cl fp).pe.run pins s' σ H' v u Q I r ⟨F, ok, rr, fun ρ' c => qq ρ' (fun s H Cc cl fp => ?_)⟩⟩⟩
    refine ⟨⟨fun pins s' σ H' Q I ⟨F, ok, qq⟩ => (c s H Cc cl fp).pe.run pins s' σ H' Q I ⟨F, ok, fun b ρ4 c4 => qq b ρ4 ⟨fun e s H Cc cl fp => ?_, fun e => ?_⟩⟩⟩⟩
    · refine ⟨⟨fun pins s' σ H' Q I ⟨F, ok, qq⟩ => (c4.1 e s H Cc cl fp).pe.run pins s' σ H' Q I ⟨F, ok, fun dk ρ5 c5 => qq dk ρ5 (fun s H Cc cl fp => ?_)⟩⟩⟩
      refine ⟨⟨fun pins s' σ H' Q I ⟨F, ok, qq⟩ => (c5 s H Cc cl fp).pe.run pins s' σ H' Q I ⟨F, ok, fun dv ρ6 ⟨key, ek, ef, e1, e2, e3⟩ => qq dv ρ6 ⟨key, ek, e1, e2, e3, ?_⟩⟩⟩⟩
      rw [et, List.filterMap_append, ea]
      unfold mergeD
      rw [List.foldl_append]
      have ef' : [d].filterMap f = [(key, dv)] := by simp [ef]
      rw [ef']
      rfl
    · obtain ⟨ef, e1, e2, e3⟩ := c4.2 e
      refine ⟨e1, e2, e3, ?_⟩
      have ef' : [d].filterMap f = [] := by simp [ef]
      rw [et, List.filterMap_append, ea, ef', List.append_nil]
  · subst eg
    rw [ea, List.take_length]
    exact q a
end comp
section
variable {X : Cx} {T : List (Addr × Str)} {A : Anc} {ρ : Ev} {e b : Expr} {es : List Expr} {C : CD} {x : Str} {i : Nat} {p p1 p2 p3 pos : Pos} {O : DO}
def boxK (ρ : Ev) (i : Nat) (P : Addr → List (Key × D) → Prop) : Prop := match ρ.sl[i]? with
  | some (.box a (.dK kvs)) => P a kvs
  | _ => False
theorem boxK_ok {ρ : Ev} {P : Addr → List (Key × D) → Prop} (h : boxK ρ i P) : ∃ a kvs, ρ.sl[i]? = some (.box a (.dK kvs)) ∧ P a kvs := by
  unfold boxK at h
  split at h
  · exact ⟨_, _, by assumption, h⟩
  · exact h.elim
/-- x[k] as a target, x one's own dict -/
theorem dg_ownK {vs : List Nat} {d : D} {C : Ev → Prop} (hu : X.A.units + 64 < cLine) (h0 : boxK ρ i fun _ _ => True) (h : DE X T A ρ b (fun d2 ρ1 => boxK ρ1 i fun a kvs => ∃ key, keyD d2 = some key ∧ kvs.length < sizeLine ∧ C (ρ1.put i (.box a (.dK (putD kvs key d)))))) (hi : slotOf X.N x = some i := by rfl)
    (hv : Vis X.env.scope x := by first | exact Or.inl rfl | exact Or.inr (Or.inl rfl) | exact Or.inr (Or.inr rfl)) (hd : (x == ("__debug__" : Str)) = false := by decide) (hcd : (x == ("__classdict__" : Str)) = false := by decide)
    (ha : ∀ v, assign (.Subscript (.Name x p) b pos) X.env v = (do
      let ov ← holding [v] (eval (.Name x p) X.env)
      let iv ← holding [v, ov] (eval b X.env)
      standAt pos
      holding [v, ov, iv] (setItem ov iv v)
      release [v, ov, iv] []) := by intro _; rfl) : DG X T A vs ρ (.Subscript (.Name x p) b pos) d C :=
  ⟨⟨fun pins s σ H v u Q I r ⟨F, ok, rr, q⟩ => (pg_sub (pe_var (slotOf_ok hi) hv hd hcd) (pe_go (T := T) (A := A)) (set_dict (by omega)) ha).run pins s σ H v u Q I r (by
    obtain ⟨a0, ds0, e0, _⟩ := boxK_ok h0
    have es0 := ok.ownS i a0 _ (ownOf_of e0 rfl)
    refine ⟨.ref a0, es0, ρ, _, h, F, ok, fun d2 ρ1 h1 v2 F1 H1 s1 w1 ok1 r1 => ?_⟩
    obtain ⟨a, kvs, e1, key, ek, hz, c⟩ := boxK_ok h1
    have e2 := ok1.ownS i a _ (ownOf_of e1 rfl)
    rw [es0] at e2
    cases e2
    obtain ⟨g1, g2, g3, o, g4, g5⟩ := ok1.owns _ a0 _ (at_ofB e1 rfl)
    obtain ⟨us, rfl, t⟩ := g5.dict
    have := keyD_V r1 ek
    subst this
    exact ⟨a0, _, rfl, .inl ⟨us, key, g4, rfl, by rw [t.len]; exact hz, rfl⟩, q _ c σ F1 _ s1 w1 rfl (ok1.boxUpd (s2 := .box a0 (.dK (putD kvs key d))) e1 rfl rfl (.dK (Rk.put (by rw [w1]; exact rr.mo s1) t)))⟩)⟩⟩
/-- x[k] read, x one's own dict -/
theorem de_ixBox (hu : X.A.units + 64 < cLine) (h0 : boxK ρ i fun _ _ => True) (h : DE X T A ρ b (fun d ρ1 => boxK ρ1 i fun _ kvs => ∃ key d', keyD d = some key ∧ lookD kvs key = some d' ∧ C d' ρ1)) (hi : slotOf X.N x = some i := by rfl)
    (hv : Vis X.env.scope x := by first | exact Or.inl rfl | exact Or.inr (Or.inl rfl) | exact Or.inr (Or.inr rfl)) (hd : (x == ("__debug__" : Str)) = false := by decide) (hcd : (x == ("__classdict__" : Str)) = false := by decide)
    (hs : NoSl b := by exact fun _ _ => rfl) : DE X T A ρ (.Subscript (.Name x p) b pos) C :=
  DE.of (pe_dget (by omega) (pe_var (slotOf_ok hi) hv hd hcd) pe_go hs) fun σ H Q F ok q => by
    obtain ⟨a0, ds0, e0, _⟩ := boxK_ok h0
    have es0 := ok.ownS i a0 _ (ownOf_of e0 rfl)
    refine ⟨.ref a0, es0, ρ, _, h, F, ok, fun d ρ1 h1 v F1 H1 s1 w1 ok1 r1 => ?_⟩
    obtain ⟨a, kvs, e1, key, d', ek, el, c⟩ := boxK_ok h1
    have e2 := ok1.ownS i a _ (ownOf_of e1 rfl)
    rw [es0] at e2
    cases e2
    obtain ⟨g1, g2, g3, o, g4, g5⟩ := ok1.owns _ a0 _ (at_ofB e1 rfl)
    obtain ⟨us, rfl, t⟩ := g5.dict
    have := keyD_V r1 ek
    subst this
    rcases t.look (k := key) with ⟨u, d2, e3, e4, r⟩ | ⟨_, e4⟩
    · rw [el] at e4
      cases e4
      exact ⟨a0, u, rfl, .inl ⟨us, key, .inl g4, rfl, e3.symm⟩, q _ _ c u F1 H1 s1 w1 ok1 r⟩
    · rw [el] at e4
      cases e4
end
end DL
end

section
/-! a, b, c = .., .., .. of own things; x.get(k) of an own dict; x.insert(i, e); xs.index(e); e.append(f), e a new list. -/
namespace DL
open PySem PySem.Spec L2
section
variable {X : Cx} {T : List (Addr × Str)} {A : Anc} {ρ : Ev} {a b c e f : Expr} {es : List Expr} {C : CD} {O : DO} {x y z : Str} {i j l : Nat} {p p1 p2 p3 pos px py pz pt : Pos}
theorem Ev.put_comm {ρ : Ev} {i j : Nat} {s t : Sl} (h : i ≠ j) : (ρ.put i s).put j t = (ρ.put j t).put i s := by
  unfold Ev.put
  dsimp only
  rw [List.set_comm _ _ h]
theorem held_put {r : RV} {j : Nat} {s : Sl} : (held r ρ).put j s = held r (ρ.put j s) := by cases r <;> rfl
theorem ds_parV3 {kt k2 pt2} (hc : X.calm = true) (hN : X.N.Nodup) (h : DV X T A ρ a (fun r1 ρ1 => DV X T A (held r1 ρ1) b (fun r2 ρ2 => ∃ ρ3, ρ2 = held r1 ρ3 ∧ ρ3.ws = ρ1.ws ∧
      DV X T A (held r2 (held r1 ρ3)) c (fun r3 ρ4 => ∃ ρ5, ρ4 = held r2 (held r1 ρ5) ∧ ρ5.ws = ρ3.ws ∧ O.nx (((ρ5.put i (.of r1)).put j (.of r2)).put l (.of r3))))))
    (hi : slotOf X.N x = some i := by rfl) (hj : slotOf X.N y = some j := by rfl) (hl : slotOf X.N z = some l := by rfl) (hij : i ≠ j := by decide) (hil : i ≠ l := by decide) (hjl : j ≠ l := by decide)
    (hx : X.env.scope.names.lookup x = some .local := by rfl) (hy : X.env.scope.names.lookup y = some .local := by rfl) (hz : X.env.scope.names.lookup z = some .local := by rfl) (hst : starEach [a, b, c] X.env = (false, eval a X.env) :: starEach [b, c] X.env := by rfl) (hst2 : starEach [b, c] X.env = (false, eval b X.env) :: starEach [c] X.env := by rfl) (hst3 : starEach [c] X.env = (false, eval c X.env) :: starEach [] X.env := by rfl)
    (hw : swappedStores [.Tuple [.Name x px, .Name y py, .Name z pz] kt pt] (.Tuple [a, b, c] k2 pt2) X.env = pure (some [x, y, z]) := by rfl)
    (hs : swapsWithSole [.Tuple [.Name x px, .Name y py, .Name z pz] kt pt] (.Tuple [a, b, c] k2 pt2) pos.line X.env = pure false := by rfl) :
    DS X T A ρ (.Assign [.Tuple [.Name x px, .Name y py, .Name z pz] kt pt] (.Tuple [a, b, c] k2 pt2) pos) O :=
  DS.of (ps_par3 hc hN (slotOf_ok hi) (slotOf_ok hj) (slotOf_ok hl) hij hil hjl hx hy hz (pa_cons pv_go (pa_cons pv_go (pa_cons pv_go pa_nil hst3) hst2) hst) hw hs) fun E σ H ⟨F, ok, hn, _⟩ => by
    refine ⟨ρ, _, h, F, ok, fun r1 ρ1 h1 v1 F1 H1 s1 w1 ok1 g1 => ?_⟩
    refine ⟨held r1 ρ1, _, h1, F1, ok1.held g1, fun r2 ρ2 ⟨ρ3, e2, w3, h2⟩ v2 F2 H2 s2 w2 ok2 g2 => ?_⟩
    subst e2
    refine ⟨held r2 (held r1 ρ3), _, h2, F2, ok2.held g2, fun r3 ρ4 ⟨ρ5, e4, w5, q⟩ v3 F3 H3 s3 w4 ok3 g3 => ⟨_, _, _, rfl, ?_⟩⟩
    subst e4
    obtain ⟨b1, b2⟩ := ok3.unheld g2 s3 (by rw [held_ws, held_ws]; exact w5)
    obtain ⟨c1, c2⟩ := b1.unheld g1 (s2.trans s3) (w5.trans w3)
    have d2 : Gv X.K A F3 H3 (ρ5.put i (.of r1)) v2 r2 := gv_put b2 (held_ws _ _)
    have d3 : Gv X.K A F3 H3 ((held r1 ρ5).put j (.of r2)) v3 r3 := gv_put g3 (held_ws _ _)
    rw [held_put] at d3
    have d4 : Gv X.K A F3 H3 ((ρ5.put j (.of r2)).put i (.of r1)) v3 r3 := gv_put d3 (held_ws _ _)
    rw [← Ev.put_comm hij] at d4
    exact hn _ q _ F3 H3 (s1.trans (s2.trans s3)) (by rw [show (((ρ5.put i (.of r1)).put j (.of r2)).put l (.of r3)).ws = ρ5.ws from rfl, w5, w3]; exact mem_eq w1) (((c1.put c2).put d2).put d4)
/-- x.get(k), x one's own dict -/
theorem de_getBox (hu : X.A.units + 64 < cLine) (h0 : boxK ρ i fun _ _ => True) (h : DE X T A ρ b (fun d ρ1 => boxK ρ1 i fun _ kvs => ∃ key, keyD d = some key ∧ C ((lookD kvs key).getD .non) ρ1)) (hi : slotOf X.N x = some i := by rfl)
    (hv : Vis X.env.scope x := by first | exact Or.inl rfl | exact Or.inr (Or.inl rfl) | exact Or.inr (Or.inr rfl)) (hd : (x == ("__debug__" : Str)) = false := by decide) (hcd : (x == ("__classdict__" : Str)) = false := by decide)
    (m : M1 X (.Name x p) "get" p2 b p3 := by exact ⟨by rfl, by rfl, by rfl, by rfl⟩) : DE X T A ρ (.Call (.Attribute (.Name x p) "get" p2) [b] [] p3) C :=
  DE.of (pe_dget1 (by omega) (pe_var (slotOf_ok hi) hv hd hcd) pe_go m) fun σ H Q F ok q => by
    obtain ⟨a0, ds0, e0, _⟩ := boxK_ok h0
    have es0 := ok.ownS i a0 _ (ownOf_of e0 rfl)
    obtain ⟨_, _, _, o0, g40, g50⟩ := ok.owns _ a0 _ (at_ofB e0 rfl)
    obtain ⟨us0, rfl, _⟩ := g50.dict
    refine ⟨.ref a0, es0, a0, rfl, .inl ⟨us0, .inl g40⟩, ρ, _, h, F, ok, fun d ρ1 h1 v F1 H1 s1 w1 ok1 r1 => ?_⟩
    obtain ⟨a, kvs, e1, key, ek, c⟩ := boxK_ok h1
    have e2 := ok1.ownS i a _ (ownOf_of e1 rfl)
    rw [es0] at e2
    cases e2
    obtain ⟨g1, g2, g3, o, g4, g5⟩ := ok1.owns _ a0 _ (at_ofB e1 rfl)
    obtain ⟨us, rfl, t⟩ := g5.dict
    have := keyD_V r1 ek
    subst this
    rcases t.look (k := key) with ⟨u, d2, e3, e4, r⟩ | ⟨e3, e4⟩
    · rw [e4] at c
      exact ⟨some u, .inl ⟨us, key, .inl g4, rfl, e3.symm⟩, q _ _ c u F1 H1 s1 w1 ok1 r⟩
    · rw [e4] at c
      exact ⟨none, .inl ⟨us, key, .inl g4, rfl, e3.symm⟩, q _ _ c .non F1 H1 s1 w1 ok1 .non⟩
/-- x.insert(i, e), x one's own list -/
theorem ds_ins (h0 : ownAt ρ i fun _ _ => True) (h : DA X T A ρ [e, f] (fun es ρ1 => ownAt ρ1 i fun a ds => ∃ (k : Int) (d : D), es = [.int k, d] ∧ 0 ≤ k ∧ k < 2 ^ 63 ∧ ds.length < sizeLine ∧ O.nx (ρ1.put i (.own a (ds.take k.toNat ++ [d] ++ ds.drop k.toNat)))))
    (hi : slotOf X.N x = some i := by rfl) (hv : Vis X.env.scope x := by first | exact Or.inl rfl | exact Or.inr (Or.inl rfl) | exact Or.inr (Or.inr rfl)) (hd : (x == ("__debug__" : Str)) = false := by decide) (hcd : (x == ("__classdict__" : Str)) = false := by decide)
    (hbase : attributeBase (.Name x p1) "insert" X.env (eval (.Name x p1) X.env) = eval (.Name x p1) X.env := by rfl)
    (hfew : ((backTo p3 (starEach [e, f] X.env)).all (fun x => !x.1) && (backToKw p3 (keywordEach [] X.env)).all (fun x => x.1.isSome)
      && decide (([e, f] : List Expr).length + ([] : List Keyword).length + (if ([] : List Keyword).isEmpty then 0 else 1) < 30)) = true := by rfl)
    (hline : (p2.endLine == p3.line) = true := by rfl) (hst : starEach [e, f] X.env = (false, eval e X.env) :: starEach [f] X.env := by rfl) (hplain : (backTo p3 (starEach [f] X.env)).any (·.1) = false := by rfl)
    (hs : swapsWith (.Call (.Attribute (.Name x p1) "insert" p2) [e, f] [] p3) none pos.line X.env = pure false := by rfl) :
    DS X T A ρ (.Expr (.Call (.Attribute (.Name x p1) "insert" p2) [e, f] [] p3) pos) O :=
  DS.of (ps_expr (pe_bm F.plainAttrs_list F.slot_list_insert F.type_list_insert mt_insert (pvS hi hv hd hcd) (pa_go (T := T) (A := A)) hbase hfew hline hst hplain) hs) fun E σ H ⟨F, ok, hn, _⟩ => by
    obtain ⟨a0, ds0, e0, _⟩ := ownAt_ok h0
    obtain ⟨f1, f2, f3, vs, f4, f5⟩ := ok.ownL e0
    refine ⟨.ref a0, ok.ownSL e0, .inl ⟨rfl, _, .of f4⟩, ρ, _, h, F, ok, fun es ρ1 h1 us F1 H1 s1 w1 ok1 r1 => ?_⟩
    obtain ⟨a, ds, e1, k, d, e3, k0, k1, hz, c⟩ := ownAt_ok h1
    subst e3
    have e2 := ok1.ownSL e1
    rw [ok.ownSL e0] at e2
    cases e2
    obtain ⟨v1, v2, rfl, q1, q2⟩ := r1.two
    cases q1
    obtain ⟨g1, g2, g3, us, g4, g5⟩ := ok1.ownL e1
    exact ⟨a0, us, k, v2, rfl, rfl, g4, by rw [g5.len]; exact hz, k0, k1, hn _ c σ F1 _ s1 (mem_eq w1) (ok1.ownUpd e1 (((g5.take k.toNat).app (.cons q2 .nil)).app (g5.drop k.toNat)))⟩
/-- xs.index(e): the first place of an equal one, all of them plain -/
theorem de_index (h : DE X T A ρ a (fun d ρ1 => ∃ ds, seqL d = some ds ∧ DA X T A ρ1 [e] (fun es ρ2 => ∃ (y z : D) (j : Nat), es = [y] ∧ flatD y = true ∧ ds.all flatD = true ∧ ds[j]? = some z ∧ eqFl z y = true ∧ (∀ (m : Nat) (z' : D), m < j → ds[m]? = some z' → eqFl z' y = false) ∧ C (.int (j : Nat)) ρ2)))
    (hbase : attributeBase a "index" X.env (eval a X.env) = eval a X.env := by rfl)
    (hfew : ((backTo p3 (starEach [e] X.env)).all (fun x => !x.1) && (backToKw p3 (keywordEach [] X.env)).all (fun x => x.1.isSome)
      && decide (([e] : List Expr).length + ([] : List Keyword).length + (if ([] : List Keyword).isEmpty then 0 else 1) < 30)) = true := by rfl)
    (hline : (p2.endLine == p3.line) = true := by rfl) (hst : starEach [e] X.env = (false, eval e X.env) :: starEach [] X.env := by rfl) (hplain : (backTo p3 (starEach [] X.env)).any (·.1) = false := by rfl) :
    DE X T A ρ (.Call (.Attribute a "index" p2) [e] [] p3) C :=
  DE.of (pe_bm F.plainAttrs_list F.slot_list_index F.type_list_index mt_index (pe_go (T := T) (A := A)) (pa_go (T := T) (A := A)) hbase hfew hline hst hplain) fun σ H Q F ok q => by
    refine ⟨ρ, _, h, F, ok, fun d ρ1 ⟨ds, e1, h1⟩ v F1 H1 s1 w1 ok1 r1 => ?_⟩
    obtain ⟨ad, xs, rfl, hs, t⟩ := seqL_of ok1.sub r1 e1
    refine ⟨?_, ρ1, _, h1, F1, ok1, fun es ρ2 ⟨y, z, j, e2, fy, fds, hz, hzy, hno, c⟩ us F2 H2 s2 w2 ok2 r2 => ?_⟩
    · exact .inl ⟨rfl, _, hs⟩
    · subst e2
      obtain ⟨u, rfl, ru⟩ := r2.one
      obtain ⟨ad', xs', ea, hs', t'⟩ := seqL_of ok2.sub (r1.mo s2) e1
      cases ea
      obtain ⟨zv, ez, rz⟩ := t'.get hz
      rw [← w2] at t' rz
      refine ⟨ad, xs', u, j, zv, rfl, rfl, hs', flat_R ru fy, flats_R t' fds, ez, ?_, fun m z' hm em => ?_, q _ _ c _ F2 H2 (s1.trans s2) (w2.trans w1) ok2 (.int _)⟩
      · rw [eqFl_R rz ru (List.all_eq_true.mp fds z (List.mem_of_getElem? hz)) fy]; exact hzy
      · have hl : m < ds.length := by
          have := (List.getElem?_eq_some_iff.mp em).1
          rw [t'.len] at this
          exact this
        obtain ⟨zv2, ez2, rz2⟩ := t'.get (List.getElem?_eq_getElem hl)
        rw [em] at ez2
        cases ez2
        rw [eqFl_R rz2 ru (List.all_eq_true.mp fds _ (List.getElem_mem hl)) fy]
        exact hno m _ hm (List.getElem?_eq_getElem hl)
/-- e.append(f), e a list that nobody has -/
theorem ds_appNew (h : DV X T A ρ a (fun r ρ1 => ∃ ad ds, r = .l ad ds ∧ DE X T A (held r ρ1) e (fun d ρ2 => ∃ ρ3, ρ2 = held r ρ3 ∧ ρ3.ws = ρ1.ws ∧ ds.length < sizeLine ∧ O.nx ρ3)))
    (hbase : attributeBase a "append" X.env (eval a X.env) = eval a X.env := by rfl)
    (hfew : ((backTo p3 (starEach [e] X.env)).all (fun x => !x.1) && (backToKw p3 (keywordEach [] X.env)).all (fun x => x.1.isSome)
      && decide (([e] : List Expr).length + ([] : List Keyword).length + (if ([] : List Keyword).isEmpty then 0 else 1) < 30)) = true := by rfl)
    (hline : (p2.endLine == p3.line) = true := by rfl) (hst : starEach [e] X.env = (false, eval e X.env) :: starEach [] X.env := by rfl) (hplain : (backTo p3 (starEach [] X.env)).any (·.1) = false := by rfl)
    (hs : swapsWith (.Call (.Attribute a "append" p2) [e] [] p3) none pos.line X.env = pure false := by rfl) :
    DS X T A ρ (.Expr (.Call (.Attribute a "append" p2) [e] [] p3) pos) O :=
  DS.of (ps_expr (pe_bm F.plainAttrs_list F.slot_list_append F.type_list_append mt_append (pv_go (T := T) (A := A)) (pa_cons pe_go pa_nil hst) hbase hfew hline hst hplain) hs) fun E σ H ⟨F, ok, hn, _⟩ => by
    refine ⟨ρ, _, h, F, ok, fun r ρ1 ⟨ad, ds, er, h1⟩ v F1 H1 s1 w1 ok1 g1 => ?_⟩
    subst er
    obtain ⟨rfl, k1, k2, k3, ⟨o, k4, k5⟩, k6⟩ := id g1
    obtain ⟨xs, rfl, k7⟩ := k5.list
    refine ⟨.inl ⟨rfl, _, .of k4⟩, held (.l ad ds) ρ1, _, h1, F1, ok1.held g1, fun d ρ2 ⟨ρ3, e2, w3, hz, c⟩ u F2 H2 s2 w2 ok2 r2 => ?_⟩
    subst e2
    obtain ⟨sl, hid, ws, gg⟩ := ρ3
    obtain ⟨m1, m2, m3, vs, m4, m5⟩ := ok2.owns (.inr 0) ad (.lst ds) rfl
    obtain ⟨ys, rfl, m7⟩ := m5.list
    have ok3 := ok2.hidApp m4 r2
    obtain ⟨ok4, _⟩ := ok3.unhide
    exact ⟨ad, ys, u, rfl, rfl, m4, by rw [m7.len]; exact hz, hn _ c σ F2 _ (s1.trans s2) (by rw [show (⟨sl, hid, ws, gg⟩ : Ev).ws = ws from rfl]; rw [show ws = ρ1.ws from w3]; exact mem_eq w1) ok4⟩
/-- x += e, x a plain name with a whole number -/
theorem ds_augI {pos' : Pos} (hN : X.N.Nodup) (h : ∃ k : Int, ρ.sl[i]? = some (.dat (.int k)) ∧ DE X T A ρ e (fun d ρ1 => ∃ j : Int, d = .int j ∧ O.nx (ρ1.put i (.dat (.int (k + j)))))) (hi : slotOf X.N x = some i := by rfl) (hx : Loc X.env.scope x := by first | exact Or.inl rfl | exact Or.inr rfl)
    (hf : X.fn x = true ∨ X.env.scope.names.lookup x = some .local := by first | exact .inl rfl | exact .inr rfl | assumption) : DS X T A ρ (.AugAssign (.Name x pos') .Add e pos) O :=
  DS.of (ps_aug hN (slotOf_ok hi) hx (pe_go (T := T) (A := A)) ip_add hf) fun E σ H ⟨F, ok, hn, _⟩ => by
    obtain ⟨k, e0, h⟩ := h
    obtain ⟨v, e1, r⟩ := ok.slots i _ e0
    cases r
    refine ⟨_, e1, ρ, _, h, F, ok, fun d ρ1 ⟨j, ed, c⟩ y F1 H1 s1 w1 ok1 r1 => ?_⟩
    subst ed
    cases r1
    exact ⟨k, j, rfl, rfl, hn _ c _ F1 H1 s1 (mem_eq w1) (ok1.put (r := .v (.int (k + j))) (show R X.K F1 ρ1.ws (.int (k + j)) (.int (k + j)) from .int _))⟩
end
end DL
end

section
/-! y = [.. for .. in ..], own lists only read. -/
namespace DL
open PySem PySem.Spec L2
section
variable {X : Cx} {T : List (Addr × Str)} {A : Anc} {ρ ρ' : Ev} {F F' H H' : Hp} {σ : L2.St} {C : CV} {O : DO}
theorem look_back {K : PySem.W.Frag} {r : RV} {v : V} (ok : Ok K T A F H σ ρ) (c : lookV C ρ r ρ') (w' : ρ'.ws = ρ.ws) (ok' : Ok K T ⟨lentF F H ρ, H, ρ.ws⟩ F' H' σ ρ') (g' : Gv K ⟨lentF F H ρ, H, ρ.ws⟩ F' H' ρ' v r) :
    C r (ρ.gas ρ'.g) ∧ Ok K T A F H' σ (ρ.gas ρ'.g) ∧ Gv K A F H' (ρ.gas ρ'.g) v r := by
  have ok2 := ok.regain ok' w'
  cases r with
  | v d =>
    obtain ⟨hg, c⟩ := c
    have g2 : R K F' ρ'.ws v d := g'
    rw [w'] at g2
    exact ⟨c, ok2, g2.ground hg⟩
  | l a ds =>
    obtain ⟨hg, c⟩ := c
    obtain ⟨e1, e2, e3, e4, ⟨o, e5, e6⟩, _⟩ := g'
    obtain ⟨vs, rfl, e7⟩ := e6.list
    rw [w'] at e3 e7
    have e4 : H a = none := e4
    have fn : F a = none := by
      cases z : F a with
      | none => rfl
      | some o =>
        rw [ok.sub _ _ z] at e4
        cases e4
    refine ⟨c, ok2, e1, fn, e3, ok.anone e4, ⟨_, e5, .lst (e7.ground hg)⟩, fun p ds' z => ?_⟩
    obtain ⟨_, _, _, us, z2, _⟩ := ok.owns p a ds' z
    rw [e4] at z2
    cases z2
  | b a cc => exact c.elim
theorem ds_setLcLook {own : List (Str × Nat)} {y : Str} {py spos pos : Pos} {i : Nat} {elt tg iter : Expr} {ifs : List Expr} {scope : Scope} (hc : X.calm = true) (hN : X.N.Nodup) (ok : BlkOk X.N X.env.scope scope own) (hyl : X.env.scope.names.lookup y = some .local)
    (hsw : swapsWith (.ListComp elt [⟨tg, iter, ifs, 0⟩] scope pos) (some (.Name y py)) spos.line X.env = pure true)
    (h : ∀ An : Anc, An.ws = ρ.ws → DI X T An (lookE ρ) tg iter (fun ds ρ1 => LcD X T An scope own tg elt ifs (lookV (fun r ρ2 => O.nx (ρ2.put i (.of r))) ρ) ds ρ1)) (hi : slotOf X.N y = some i := by rfl)
    (hs : ∀ x, foldedSetIterable iter X.env x = pure x := by intro _; rfl) : DS X T A ρ (.Assign [.Name y py] (.ListComp elt [⟨tg, iter, ifs, 0⟩] scope pos) spos) O :=
  ⟨⟨fun pins s σ H E I ⟨F, ok0, hn, _⟩ => by
    refine (ps_setLc (g := goGB X T ⟨lentF F H ρ, H, ρ.ws⟩ scope tg) (tt := goTB X T ⟨lentF F H ρ, H, ρ.ws⟩ scope ifs) (te := goEB X T ⟨lentF F H ρ, H, ρ.ws⟩ scope elt) hc hN (slotOf_ok hi) hyl hsw (pi_go (T := T) (A := ⟨lentF F H ρ, H, ρ.ws⟩)) ok
      (fun s H Cc cl fp => ⟨fun pins s' σ H' v u Q I r ⟨_, _, _, _, h, q⟩ => (h s H Cc cl fp).pe.run pins s' σ H' v u Q I r q⟩)
      (fun s H Cc cl fp => ⟨fun pins s' σ H' Q I ⟨_, _, h, q⟩ => (h s H Cc cl fp).pe.run pins s' σ H' Q I q⟩)
      (fun s H Cc cl fp => ⟨fun pins s' σ H' Q I ⟨_, _, h, q⟩ => (h s H Cc cl fp).pe.run pins s' σ H' Q I q⟩) hs).run pins s σ H E I ?_
    have := lc_read (h ⟨lentF F H ρ, H, ρ.ws⟩ rfl) σ H (fun v H' => E.nx (σ.set i (some v)) H') (lentF F H ρ) ok0.lend fun r ρ' c v F' H' s' w' ok' gv => by
      obtain ⟨c2, ok2, g2⟩ := look_back ok0 c w' ok' gv
      exact hn _ c2 _ F H' (Same.refl _) (mem_eq rfl) (ok2.put g2)
    exact this⟩⟩
/-- a + b, a new list -/
theorem dv_cat {a b : Expr} {pos : Pos} (h : DE X T A ρ a (fun d1 ρ1 => DE X T A ρ1 b (fun d2 ρ2 => ∃ xs ys, d1 = .lst xs ∧ d2 = .lst ys ∧ xs.length + ys.length ≤ sizeLine ∧ ∀ p, C (.l p (xs ++ ys)) ρ2))) : DV X T A ρ (.BinOp a .Add b pos) C :=
  DV.of (pe_op op_cat (pe_go (T := T) (A := A)) (pe_go (T := T) (A := A))) fun σ H Q F ok q => by
    refine ⟨ρ, _, h, F, ok, fun d1 ρ1 h1 v1 F1 H1 s1 w1 ok1 r1 => ?_⟩
    refine ⟨ρ1, _, h1, F1, ok1, fun d2 ρ2 ⟨xs, ys, e1, e2, hz, c⟩ v2 F2 H2 s2 w2 ok2 r2 => ?_⟩
    subst e1
    subst e2
    cases r1 with
    | lst k1 t1 =>
      cases r2 with
      | lst k2 t2 =>
        refine ⟨_, _, _, _, rfl, rfl, ok2.sub _ _ (s2 _ _ k1), ok2.sub _ _ k2, by rw [t1.len, t2.len]; exact hz, fun p hp => ?_⟩
        obtain ⟨ok3, g3⟩ := ok2.mine hp (((by rw [w2]; exact t1.mo s2 : Rs X.K F2 ρ2.ws _ _)).app t2)
        exact q _ _ (c p) _ F2 _ (s1.trans s2) (w2.trans w1) ok3 g3
end
end DL
end

section
/-! {**d, k: v, ..}: at the library's level. -/
namespace PySem
namespace StarD
open Sem (wp)
section
variable {prog : Program} {w : World} {K : Type} [DecidableEq K] {knd : KeyKind prog w K} {A : Around} {E : Value → Shared → Prop} {s : Shared}
theorem wpAny_dictPut_pairs {d : Addr} {kvs : List (K × Value)} {k : K} {key v : Value} {Q : Unit → Shared → Prop} (hkey : knd.is k key = true) (hm : s.heap.DictOf knd d kvs)
    (hQ : ∀ h', h'.DictOf knd d (stored kvs k v) → Heap.SameBut d s.heap h' → Q () { s with heap := h' }) (hsz : kvs.length ≤ sizeLine) :
    wpAny (model prog w) A (dictPut d (knd.hash k) key v) Q E s := by
  obtain ⟨o, es, ep, ho, hc, hd, hk, hp, hn⟩ := hm
  have hes : es.size ≤ sizeLine := by
    have e1 := hp.length
    have e2 : es.toList.length = es.size := by simp
    omega
  unfold dictPut
  refine wpAny_bind (wpAny_dictFind_of hkey ho hd hk ?_)
  have hidx : (es.findIdx? fun e => knd.is k e.key) = kvs.findIdx? fun kv => decide (kv.1 = k) := by
    rw [← hp.findIdx k]; obtain ⟨l⟩ := es; simp
  cases hi : es.findIdx? fun e => knd.is k e.key with
  | some i =>
    refine wpAny_updateDict ho hd (hQ _ ⟨_, _, ep, Heap.get?_update_self _ ho (Obj.isFreed_of_dict (Obj.data_mapDict hd _)),
      hc.mapDict _, Obj.data_mapDict hd _, hk.modify _ _, ?_, ?_⟩ (Heap.SameBut.update ..))
    · rw [stored, if_pos (any_of_findIdx_some (hidx ▸ hi))]
      have hl : (es.toList.findIdx? fun e => knd.is k e.key) = some i := by rw [← hi]; obtain ⟨l⟩ := es; simp
      have := hp.modify hn hl v
      obtain ⟨l⟩ := es
      simpa using this
    · rw [stored, if_pos (any_of_findIdx_some (hidx ▸ hi)), keys_map_store]; exact hn
  | none =>
    have hnot : k ∉ kvs.map (·.1) := not_mem_of_findIdx_none (hidx ▸ hi)
    have hany : ¬ (kvs.any fun kv => decide (kv.1 = k)) = true := by
      rw [List.any_eq_true]; rintro ⟨kv, hkv, he⟩
      exact hnot (List.mem_map.mpr ⟨kv, hkv, of_decide_eq_true he⟩)
    refine wpAny_updateDictKeys (hz := hes) ho hd (hQ _ ⟨_, _, ep + 1, Heap.get?_update_self _ ho (Obj.isFreed_of_dict (Obj.data_mapDictKeys hd _)),
      hc.mapDictKeys _, Obj.data_mapDictKeys hd _, hk.push hkey _, ?_, ?_⟩ (Heap.SameBut.update ..))
    · rw [stored, if_neg hany]
      have := hp.append hkey (knd.hash k) v
      obtain ⟨l⟩ := es
      simpa using this
    · rw [stored, if_neg hany, List.map_append, List.nodup_append]
      refine ⟨hn, by simp, ?_⟩
      intro a ha b hb
      simp only [List.map_cons, List.map_nil, List.mem_singleton] at hb
      subst hb
      exact fun e => hnot (e ▸ ha)
theorem wpAny_mergeMapping {d o : Addr} {kvs more : List (K × Value)} {Q : Unit → Shared → Prop} (nr : ∀ k key, knd.is k key = true → ∀ a, key ≠ .ref a) (hdo : d ≠ o) (hoS : (o == sysModules) = false)
    (hd : s.heap.DictOf knd d kvs) (ho : s.heap.DictOf knd o more)
    (hQ : ∀ h', h'.DictOf knd d (merged kvs more) → h'.DictOf knd o more → Heap.SameBut d s.heap h' → Q () { s with heap := h' })
    (hsz : kvs.length + more.length ≤ sizeLine) :
    wpAny (model prog w) A (mergeMapping d (.ref o) false) Q E s := by
  obtain ⟨od, esd, epd, hod, hcd, hdd, hkd, hpd, hnd⟩ := id hd
  obtain ⟨oo, eso, epo, hoo, hco, hdo', hko, hpo, hno⟩ := id ho
  have hlen : more.length = eso.size := by rw [← hpo.length]; simp
  unfold mergeMapping
  refine wpAny_bind (wpAny_isInstance ho.typeIs isSubtype_dict_dict ?_)
  rw [if_pos rfl]
  refine wpAny_bind (wpAny_specialOf ho.typeIs F.slot_dict_iter.lookup (wpAny_bind (wpAny_pure ?_)))
  rw [show ((some (Value.builtin "dict.__iter__") == some (.builtin "dict.__iter__")) = true) from by decide]
  dsimp only
  rw [if_neg (by rw [hoS]; exact Bool.false_ne_true)]
  have loop : wpAny (model prog w) A (do
      let l ← dictEntries o
      have size : Nat := l.size
      let epoch ← dictEpoch o
      forIn (List.range size) PUnit.unit fun i (_ : PUnit) => (do
        let l' ← dictEntries o
        match l'[i]? with
          | some e => do
            holding [e.key, e.val] (dictPut d e.hash e.key e.val)
            let ep' ← dictEpoch o
            if (ep' != epoch) = true then do
                (unsupported "dict.changed-during-merge" : Sem PUnit)
                pure (ForInStep.yield PUnit.unit)
              else pure (ForInStep.yield PUnit.unit)
          | _ => do
            (unsupported "dict.changed-during-merge" : Sem PUnit)
            pure (ForInStep.yield PUnit.unit) : Sem (ForInStep PUnit))
      pure ()) Q E s := by
    refine wpAny_bind (wpAny_dictEntries hoo hdo' ?_)
    refine wpAny_bind (wpAny_dictEpoch hoo hdo' ?_)
    refine wpAny_bind ?_
    refine wpAny_forIn_list _
      (fun rest _ s' => ∃ h' i, s' = { s with heap := h' } ∧ rest = List.range' i (eso.size - i) ∧ i ≤ eso.size ∧ h'.DictOf knd d (merged kvs (more.take i)) ∧ h'.get? o = some oo ∧ Heap.SameBut d s.heap h')
      _ ?_ ?_ _ _ ⟨s.heap, 0, rfl, by simp [List.range_eq_range'], Nat.zero_le _, by simpa [merged] using hd, hoo, Heap.SameBut.refl _ _⟩
    · rintro x rest b s' ⟨h', i, rfl, hr, hi, hd', hoo', hs'⟩
      have hlt : i < eso.size := by
        rcases Nat.lt_or_ge i eso.size with h | h
        · exact h
        · rw [Nat.sub_eq_zero_of_le h] at hr; simp at hr
      obtain ⟨rfl, hrest⟩ : x = i ∧ rest = List.range' (i + 1) (eso.size - (i + 1)) := by
        have e : eso.size - i = (eso.size - (i + 1)) + 1 := by omega
        rw [e, List.range'_succ] at hr
        injection hr with h1 h2
        exact ⟨h1, h2⟩
      refine wpAny_bind (wpAny_dictEntries hoo' hdo' ?_)
      rw [Array.getElem?_eq_getElem hlt]
      obtain ⟨kv, hkv⟩ : ∃ kv, more[x]? = some kv := ⟨more[x]'(by rw [hlen]; exact hlt), List.getElem?_eq_getElem _⟩
      obtain ⟨k, v⟩ := kv
      obtain ⟨hkey, hval⟩ := hpo.get? (e := eso[x]) (by simp [hlt]) hkv
      obtain ⟨k', hkey', hhash⟩ := hko eso[x] (Array.getElem_mem hlt)
      obtain rfl : k' = k := knd.inj _ _ _ hkey' hkey
      show wpAny _ _ (holding [eso[x].key, eso[x].val] (dictPut d eso[x].hash eso[x].key eso[x].val) >>= _) _ _ _
      rw [hhash, hval]
      have hmx : (merged kvs (more.take x)).length ≤ sizeLine := by
        have e1 := merged_length_le kvs (more.take x)
        have e2 : (more.take x).length ≤ more.length := by rw [List.length_take]; omega
        omega
      refine wpAny_bind (wpAny_holding (wpAny_dictPut_pairs hkey hd' (fun h'' hd'' hs'' => ?_) hmx))
      have hoo'' : h''.get? o = some oo := (hs''.2 o (Ne.symm hdo)).trans hoo'
      refine wpAny_bind (wpAny_dictEpoch hoo'' hdo' ?_)
      rw [if_neg (by simp)]
      exact wpAny_pure ⟨h'', x + 1, rfl, hrest, hlt, by rw [merged_take_succ kvs more x (k', v) hkv]; exact hd'', hoo'', hs'.trans hs''⟩
    · rintro b s' ⟨h', i, rfl, hr, hi, hd', hoo', hs'⟩
      have hin : i = eso.size := by
        rcases Nat.lt_or_ge i eso.size with h | h
        · have e : eso.size - i = (eso.size - (i + 1)) + 1 := by omega
          rw [e, List.range'_succ] at hr; exact nomatch hr
        · exact Nat.le_antisymm hi h
      refine wpAny_pure (hQ h' ?_ ⟨oo, eso, epo, hoo', hco, hdo', hko, hpo, hno⟩ hs')
      rw [hin, ← hlen, List.take_length] at hd'; exact hd'
  refine wpAny_bind (wpAny_dictEntries hod hdd ?_)
  split
  · refine wpAny_bind (wpAny_dictEntries hoo hdo' ?_)
    refine wpAny_bind ?_
    rw [← Array.forIn_toList]
    refine wpAny_forIn_list _ (fun rest _ s' => s' = s ∧ ∀ e ∈ rest, e ∈ eso) _ ?_ ?_ _ _ ⟨rfl, fun e m => by simpa using m⟩
    · rintro x rest b s' ⟨rfl, hm⟩
      obtain ⟨k', hkey', hhash⟩ := hko x (hm x (List.mem_cons_self ..))
      have key := nr k' x.key hkey'
      split
      · rename_i a e
        exact absurd e (key a)
      · exact wpAny_pure ⟨rfl, fun e m => hm e (List.mem_cons_of_mem _ m)⟩
    · rintro b s' ⟨rfl, _⟩
      exact loop
  · exact loop
theorem forIn_gather_at (a : Addr) (f : (Option (Sem Value) × Sem Value) → (Option Addr × List (Sem Value × Sem Value)) → Sem (ForInStep (Option Addr × List (Sem Value × Sem Value))))
    (hf : ∀ (p : Sem Value × Sem Value) (run : List (Sem Value × Sem Value)), run.length + 1 < 17 → f (some p.1, p.2) (some a, run) = pure (.yield (some a, run ++ [p]))) :
    ∀ (items run : List (Sem Value × Sem Value)), run.length + items.length < 17 → forIn (items.map fun p => (some p.1, p.2)) ((some a : Option Addr), run) f = pure (some a, run ++ items)
  | [], run, _ => by simp
  | p :: rest, run, h => by
    rw [List.map_cons, List.forIn_cons, hf p run (by simp at h; omega), pure_bind]
    have := forIn_gather_at a f hf rest (run ++ [p]) (by simp at h ⊢; omega)
    simpa using this
theorem wpAny_display_star {tm : Sem Value} {pairs : List (Sem Value × Sem Value)} {Q : Value → Shared → Prop} (h0 : pairs ≠ []) (hlen : pairs.length ≤ 15)
    (h : wpAny (model prog w) A tm (fun m s1 => wpAny (model prog w) A (mergeMapping s.heap.objs.size m false) (fun _ s2 => wpAny (model prog w) A (subDict pairs) (fun sub s3 => wpAny (model prog w) A (mergeMapping s.heap.objs.size (.ref sub) false) (fun _ s4 => Q (.ref s.heap.objs.size) s4) (fun _ _ => False) s3) E s2) (fun _ _ => False) s1) E { s with heap := s.heap.push { cls := .type "dict", data := .dict #[] } }) :
    wpAny (model prog w) A (dictDisplay ((none, tm) :: pairs.map fun p => (some p.1, p.2))) Q E s := by
  unfold dictDisplay
  dsimp only
  rw [List.forIn_cons]
  refine wpAny_bind (wpAny_bind ?_)
  dsimp only
  rw [if_pos (show ([] : List (Sem Value × Sem Value)).isEmpty = true from rfl)]
  refine wpAny_bind (wpAny_pure ?_)
  dsimp only
  refine wpAny_bind (wpAny_alloc ?_)
  refine wpAny_bind (wpAny_holding (wpAny_mono h (fun m s1 h1 => ?_) fun _ _ e => e))
  refine wpAny_bind (wpAny_onRaise (wpAny_tryCatch (wpAny_onRaise (wpAny_holding (wpAny_mono h1 (fun _ s2 h2 => ?_) fun _ _ z => z.elim)))))
  refine wpAny_pure ?_
  dsimp only
  rw [forIn_gather_at s.heap.objs.size _ (fun p run h => by
    have hne : ((run ++ [(p.1, p.2)]).length == 17) = false := by simp; omega
    simp only [hne, Bool.false_eq_true, if_false]) pairs [] (by simpa using (show pairs.length < 17 by omega))]
  rw [List.nil_append]
  refine wpAny_pure ?_
  dsimp only
  rw [if_neg (by simpa using h0)]
  refine wpAny_bind (wpAny_bind (wpAny_holding (wpAny_mono h2 (fun sub s3 h3 => ?_) fun _ _ e => e)))
  refine wpAny_bind (wpAny_onRaise (wpAny_holding (wpAny_mono h3 (fun _ s4 h4 => ?_) fun _ _ z => z.elim)))
  exact wpAny_pure (wpAny_pure h4)
end
end StarD
end PySem
end

section
/-! {**d, k: v, ..} and {k: v, ..} over the hand layer. -/
namespace DL
open PySem PySem.Spec L2
theorem keyIs_ref (k : Key) (key : Value) (h : keyIs k key = true) (a : Addr) : key ≠ .ref a := fun z => by
  rcases keyIs_shape h with ⟨i, t, rfl, e⟩ | ⟨x, t, rfl, e⟩ <;> (rw [z] at e; cases e)
abbrev TPs := L2.St → Hp → (List (V × V) → Hp → Prop) → Prop
def Prs : List (V × V) → List (Value × Value) → Prop := Paired fun p q => RelV p.1 q.1 ∧ RelV p.2 q.2
structure PPs (X : Cx) (keys : List (Option Expr)) (vals : List Expr) (t : TPs) : Prop where
  run : ∀ (pins : List (Addr × Obj)) (s : Shared) (σ : L2.St) (H : Hp) (Q : List (V × V) → Hp → Prop) (pos : Pos), Inv X pins σ H s → t σ H Q → wpAny (model X.prog X.w) X.A (evalPairs (pairTrees keys vals X.env pos)) (fun us s' => ∃ vs H', Inv X pins σ H' s' ∧ Prs vs us ∧ Q vs H') X.xe s
section
variable {X : Cx} {k v m : Expr} {keys : List (Option Expr)} {vals : List Expr} {pos : Pos}
theorem pps_nil : PPs X [] [] (fun _ H Q => Q [] H) := ⟨fun pins s σ H Q pos I q => evalPairs_nil ⟨[], H, I, .nil, q⟩⟩
theorem pps_cons {tk tv : TE} {tr : TPs} (hk : PE X k tk) (hv : PE X v tv) (hr : PPs X keys vals tr) : PPs X (some k :: keys) (v :: vals) (fun σ H Q => tk σ H fun x H1 => tv σ H1 fun y H2 => tr σ H2 fun ps H3 => Q ((x, y) :: ps) H3) :=
  ⟨fun pins s σ H Q pos I q => evalPairs_cons (thn (hk.run pins s σ H _ I q) fun u s1 ⟨x, H1, I1, rx, q1⟩ => wpAny_bind (thn (hv.run pins s1 σ H1 _ I1 q1) fun w s2 ⟨y, H2, I2, ry, q2⟩ => wpAny_bind (wpAny_standAt (wpAny_pure (thn (hr.run pins s2 σ H2 _ pos I2 q2) fun us s3 ⟨vs, H3, I3, rs, q3⟩ => ⟨_, H3, I3, .cons ⟨rx, ry⟩ rs, q3⟩)))))⟩
theorem relV_keyIs {k : Key} {u : Value} (h : RelV (kV k) u) : keyIs k u = true := by
  cases k with
  | inl i =>
    obtain ⟨t, rfl⟩ := (show ∃ t, u = Value.int i t from h)
    show Value.isInt i (.int i t) = true
    simp [Value.isInt]
  | inr x =>
    obtain ⟨t, rfl⟩ := (show ∃ t, u = Value.str x t from h)
    show Value.isStrOf x (.str x t) = true
    simp [Value.isStrOf]
theorem carries_of {P : Program} {w : World} : ∀ {kps : List (Key × V)} {us : List (Value × Value)}, Prs (kps.map fun p => (kV p.1, p.2)) us → ∃ rps, Carries (mixKind P w) us rps ∧ KV kps rps
  | [], us, h => by
    cases h
    exact ⟨[], trivial, .nil⟩
  | (k, v) :: kps, us, h => by
    cases h with
    | @cons p q ps qs h t =>
      obtain ⟨rps, h1, h2⟩ := carries_of t
      obtain ⟨a, b⟩ := q
      exact ⟨(k, b) :: rps, ⟨relV_keyIs h.1, rfl, h1⟩, .cons ⟨rfl, h.2⟩ h2⟩
def tDStar (tm : TE) (tp : TPs) : TE := fun σ H Q => ∀ d, H d = none → tm σ (upd H d (.dK [])) fun x H1 => ∃ a kvs, x = .ref a ∧ a ≠ d ∧ Rd H1 a (.dK kvs) ∧ H1 d = some (.dK []) ∧
  ∀ e, e ≠ d → (upd H1 d (.dK kvs)) e = none → tp σ (upd (upd H1 d (.dK kvs)) e (.dK [])) fun ps H2 => ∃ (kps kvs2 : List (Key × V)), ps = kps.map (fun p => (kV p.1, p.2)) ∧ H2 d = some (.dK kvs2) ∧ H2 e = some (.dK []) ∧ kvs2.length + kps.length ≤ sizeLine ∧
    Q (.ref d) (upd (upd H2 e (.dK (mergeK [] kps))) d (.dK (mergeK kvs2 (mergeK [] kps))))
theorem dk_ok {P : Program} {w : World} {H : Hp} {h : Heap} {d : Addr} {kvs : List (Key × V)} {rs : List (Key × Value)} (z : kvs.length ≤ sizeLine) (hm : (d == sysModules) = false) (r : KV kvs rs) (dd : h.DictOf (mixKind P w) d rs) : ObjOk P w (upd H d (.dK kvs)) h d (.dK kvs) := ⟨z, hm, rs, r, dd⟩
theorem pe_dstar {tm : TE} {tp : TPs} (hm : PE X m tm) (hp : PPs X keys vals tp) (hall : keys.all (·.isSome) = true := by rfl) (hl : keys.length = vals.length := by rfl) (h0 : keys ≠ [] := by simp) (hlen : keys.length ≤ 15 := by decide) : PE X (.Dict (none :: keys) (m :: vals) pos) (tDStar tm tp) := by
  refine ⟨fun pins s σ H Q I h => ?_⟩
  have hz : (evalEachOpt (none :: keys) X.env).zip ((evalEach (m :: vals) X.env).map fun v => do let x ← v; standAt pos; pure x) = (none, (do let x ← eval m X.env; standAt pos; pure x)) :: (pairTrees keys vals X.env pos).map fun p => (some p.1, p.2) := by
    rw [← zip_pairTrees keys vals X.env pos hall hl]
    rfl
  rw [arm_eval_Dict, hz]
  have hn := pairTrees_length keys vals X.env pos hall hl
  have hp0 : pairTrees keys vals X.env pos ≠ [] := by
    intro he
    rw [he] at hn
    exact h0 (List.length_eq_zero_iff.mp hn.symm)
  refine wpAny_bind (wpAny_standAt (StarD.wpAny_display_star hp0 (by rw [hn]; exact hlen) ?_))
  -- the new dict
  have hmod : (s.heap.objs.size == sysModules) = false := beq_eq_false_iff_ne.mpr (Nat.ne_of_gt I.big)
  have I1 : Inv X pins σ (upd H s.heap.objs.size (.dK [])) { s with heap := s.heap.push { cls := .type "dict", data := .dict #[] } } :=
    I.laid (t' := s.toks) (fun b u e => Heap.get?_push_of_some _ e) (Nat.le_refl _) (dk_ok (Nat.zero_le _) hmod .nil (Heap.DictOf.new s.heap))
  refine wpAny_bind (thn (hm.run pins _ σ _ _ I1 (h _ (I.hok.fresh (Nat.le_refl _)))) fun u s1 ⟨x, H1, I2, rx, a, kvs, ex, had, hrd, hd1, q⟩ => wpAny_bind (wpAny_standAt (wpAny_pure ?_)))
  subst ex
  obtain rfl : u = Value.ref a := rx
  obtain ⟨z1, hS, rs, rel, da⟩ := dk_rd I2.hok hrd
  obtain ⟨_, _, rs0, rel0, dd0⟩ := dk_of I2.hok hd1
  cases rel0
  have hnod : (rs.map (·.1)).Nodup := let ⟨_, _, _, _, _, _, _, _, hn⟩ := da; hn
  refine StarD.wpAny_mergeMapping (knd := mixKind X.prog X.w) keyIs_ref (Ne.symm had) hS dd0 da (fun h1 hd' ha' hs => ?_) (by rw [List.length_nil, Nat.zero_add, ← rel.length]; exact z1)
  rw [merged_nil_of_nodup rs hnod] at hd'
  have I3 : Inv X pins σ (upd H1 s.heap.objs.size (.dK kvs)) { s1 with heap := h1 } := by
    obtain ⟨o1, e1⟩ : ∃ o, h1.get? s.heap.objs.size = some o := let ⟨o, _, _, ho, _⟩ := hd'; ⟨o, ho⟩
    exact I2.write (x := s.heap.objs.size) (e := s.heap.objs.size) (t' := s1.toks) (by rw [hd1]; trivial) (.inl rfl) (fun b u hb e => (hs.2 b hb).trans e) ⟨o1, e1⟩ (dk_ok z1 hmod rel hd')
  -- the pairs' dict
  have hlt : s.heap.objs.size < h1.objs.size := let ⟨o, _, _, ho, _⟩ := hd'; Heap.lt_size ho
  have hne : h1.objs.size ≠ s.heap.objs.size := Nat.ne_of_gt hlt
  have hmod2 : (h1.objs.size == sysModules) = false := beq_eq_false_iff_ne.mpr (Nat.ne_of_gt I3.big)
  have I4 : Inv X pins σ (upd (upd H1 s.heap.objs.size (.dK kvs)) h1.objs.size (.dK [])) { s1 with heap := h1.push { cls := .type "dict", data := .dict #[] } } :=
    I3.laid (t' := s1.toks) (fun b u e => Heap.get?_push_of_some _ e) (Nat.le_refl _) (dk_ok (Nat.zero_le _) hmod2 .nil (Heap.DictOf.new h1))
  refine wpAny_subDict (knd := mixKind X.prog X.w) (by rw [hn]; exact hlen) (thn (hp.run pins _ σ _ _ pos I4 (q _ hne (I3.hok.fresh (Nat.le_refl _)))) fun us s2 ⟨vs, H2, I5, rv, kps, kvs2, evs, ed, ee, hsz, q2⟩ => ?_)
  subst evs
  obtain ⟨rps, hc, rkv⟩ := carries_of rv
  obtain ⟨_, _, rse, rele, dde⟩ := dk_of I5.hok ee
  cases rele
  refine ⟨rps, hc, dde, fun h2 hd2 hs2 => ?_⟩
  have zp : (mergeK [] kps).length ≤ kps.length := by
    have := length_mergeK kps []
    rw [List.length_nil, Nat.zero_add] at this
    exact this
  have I6 : Inv X pins σ (upd H2 h1.objs.size (.dK (mergeK [] kps))) { s2 with heap := h2, toks := s2.toks + us.length } := by
    obtain ⟨o1, e1⟩ : ∃ o, h2.get? h1.objs.size = some o := let ⟨o, _, _, ho, _⟩ := hd2; ⟨o, ho⟩
    exact I5.write (x := h1.objs.size) (e := h1.objs.size) (by rw [ee]; trivial) (.inl rfl) (fun b u hb e => (hs2.2 b hb).trans e) ⟨o1, e1⟩ (dk_ok (by omega) hmod2 (KV.merge rkv .nil) hd2)
  have ed2 : (upd H2 h1.objs.size (.dK (mergeK [] kps))) s.heap.objs.size = some (.dK kvs2) := by rw [upd_ne (Ne.symm hne)]; exact ed
  obtain ⟨_, _, rsd, reld, ddd⟩ := dk_of I6.hok ed2
  have zm : (mergeK kvs2 (mergeK [] kps)).length ≤ sizeLine := Nat.le_trans (length_mergeK _ _) (by omega)
  refine StarD.wpAny_mergeMapping (knd := mixKind X.prog X.w) keyIs_ref (Ne.symm hne) hmod2 ddd hd2 (fun h3 hd3 ha3 hs3 => ?_) (by
    have e1 := (KV.merge rkv .nil : KV (mergeK [] kps) (merged [] rps)).length
    have e2 := reld.length
    omega)
  have I7 : Inv X pins σ (upd (upd H2 h1.objs.size (.dK (mergeK [] kps))) s.heap.objs.size (.dK (mergeK kvs2 (mergeK [] kps)))) { s2 with heap := h3, toks := s2.toks + us.length } := by
    obtain ⟨o1, e1⟩ : ∃ o, h3.get? s.heap.objs.size = some o := let ⟨o, _, _, ho, _⟩ := hd3; ⟨o, ho⟩
    exact I6.write (x := s.heap.objs.size) (e := s.heap.objs.size) (t' := s2.toks + us.length) (by rw [ed2]; trivial) (.inl rfl) (fun b u hb e => (hs3.2 b hb).trans e) ⟨o1, e1⟩ (dk_ok zm hmod (KV.merge (KV.merge rkv .nil) reld) hd3)
  exact ⟨.ref s.heap.objs.size, _, I7, rfl, q2⟩
/-- {k: v, ..} -/
def tDLit (tp : TPs) : TE := fun σ H Q => ∀ e, H e = none → tp σ (upd H e (.dK [])) fun ps H2 => ∃ kps : List (Key × V), ps = kps.map (fun p => (kV p.1, p.2)) ∧ H2 e = some (.dK []) ∧ Q (.ref e) (upd H2 e (.dK (mergeK [] kps)))
theorem pe_dlit {tp : TPs} (hp : PPs X keys vals tp) (hall : keys.all (·.isSome) = true := by rfl) (hl : keys.length = vals.length := by rfl) (h0 : keys ≠ [] := by simp) (hlen : keys.length ≤ 15 := by decide) : PE X (.Dict keys vals pos) (tDLit tp) := by
  refine ⟨fun pins s σ H Q I h => ?_⟩
  have hn := pairTrees_length keys vals X.env pos hall hl
  have hp0 : pairTrees keys vals X.env pos ≠ [] := by
    intro he
    rw [he] at hn
    exact h0 (List.length_eq_zero_iff.mp hn.symm)
  have hmod : (s.heap.objs.size == sysModules) = false := beq_eq_false_iff_ne.mpr (Nat.ne_of_gt I.big)
  have I1 : Inv X pins σ (upd H s.heap.objs.size (.dK [])) { s with heap := s.heap.push { cls := .type "dict", data := .dict #[] } } :=
    I.laid (t' := s.toks) (fun b u e => Heap.get?_push_of_some _ e) (Nat.le_refl _) (dk_ok (Nat.zero_le _) hmod .nil (Heap.DictOf.new s.heap))
  refine wpAny_Dict_pairs (knd := mixKind X.prog X.w) (zip_pairTrees keys vals X.env pos hall hl) hp0 (by rw [hn]; exact hlen) (thn (wpAny_evalPairs_len (hp.run pins _ σ _ _ pos I1 (h _ (I.hok.fresh (Nat.le_refl _))))) fun us s2 ⟨hul, vs, H2, I5, rv, kps, evs, ee, q2⟩ => ?_)
  subst evs
  obtain ⟨rps, hc, rkv⟩ := carries_of rv
  obtain ⟨_, _, rse, rele, dde⟩ := dk_of I5.hok ee
  cases rele
  refine ⟨rps, hc, dde, fun h2 hd2 hs2 => ?_⟩
  have zp : (mergeK [] kps).length ≤ 15 := by
    have := length_mergeK kps []
    rw [List.length_nil, Nat.zero_add] at this
    have e1 := rkv.length
    have e2 := hc.length
    omega
  have I6 : Inv X pins σ (upd H2 s.heap.objs.size (.dK (mergeK [] kps))) { s2 with heap := h2, toks := s2.toks + us.length } := by
    obtain ⟨o1, e1⟩ : ∃ o, h2.get? s.heap.objs.size = some o := let ⟨o, _, _, ho, _⟩ := hd2; ⟨o, ho⟩
    exact I5.write (x := s.heap.objs.size) (e := s.heap.objs.size) (by rw [ee]; trivial) (.inl rfl) (fun b u hb e => (hs2.2 b hb).trans e) ⟨o1, e1⟩ (dk_ok (Nat.le_trans zp (by decide)) hmod (KV.merge rkv .nil) hd2)
  exact ⟨.ref s.heap.objs.size, _, I6, rfl, q2⟩
end
end DL
end

section
/-! dicts made: displays, comprehensions, copies; list(d.items()); slices of tuples; texts walked. -/
namespace DL
open PySem PySem.Spec L2
section
variable {X : Cx} {e : Expr} {te : TE} {p apos cpos pos : Pos}
/-- list(d.items()), d locked or not -/
def rItemsR : V → Hp → VK → Prop := fun x H Q => ∃ (d : Addr) (kvs : List (Key × V)), x = .ref d ∧ Rd H d (.dK kvs) ∧
  ∀ (H' : Hp) (p : Addr) (ts : List Addr), (∀ b o, H b = some o → H' b = some o) → H p = none → (∀ t ∈ ts, H t = none) → p ∉ ts → H' p = some (.lst (ts.map V.ref)) → Paired (fun (t : Addr) (q : Key × V) => H' t = some (.tup [kV q.1, q.2])) ts kvs → Q (.ref p) H'
theorem pe_listItemsR (hc : X.calm = true) (he : PE X e te) (hg : Gl X "list") (hm : X.mg "list" = none) (hv : bootBuiltins "list" = some (.type "list")) (hbase : attributeBase e "items" X.env (eval e X.env) = eval e X.env := by rfl) (hline : (apos.endLine == cpos.line) = true := by rfl)
    (hs : starEach [.Call (.Attribute e "items" apos) [] [] cpos] X.env = (false, eval (.Call (.Attribute e "items" apos) [] [] cpos) X.env) :: starEach [] X.env := by rfl) :
    PE X (.Call (.Name "list" p) [.Call (.Attribute e "items" apos) [] [] cpos] [] pos) (fun σ H Q => te σ H fun x H1 => rItemsR x H1 Q) := by
  refine ⟨fun pins s σ H Q I hq => wpAny_Call_Name_kw (ld_blt I hg hm hv (PyProof.Rows.callWith_type1 ?_ hs rfl))⟩
  rw [hs]
  show wpAny _ _ (spliced ((false, eval (.Call (.Attribute e "items" apos) [] [] cpos) X.env) :: backTo pos (starEach [] X.env))) _ _ s
  refine Calls.spliced_cons (wpAny_Call_method (T := "dict") (id := "dict.items") hbase rfl hline F.plainAttrs_dict F.slot_dict_items F.type_dict_items (thn (he.run pins s σ H _ I hq) fun u s1 ⟨x, H1, I1, rx, d, kvs, ex, hd, q⟩ => ?_))
  subst ex
  obtain rfl : u = Value.ref d := rx
  obtain ⟨hz, hs0, vs, kv, hdo⟩ := dk_rd I1.hok hd
  obtain ⟨ep, hat⟩ := hdo.dictAt
  have lk : kvs.length = vs.length := Paired.length kv
  have I2 : Inv X pins σ H1 { s1 with heap := s1.heap.push { cls := .type "dict_items", data := .fields #[.ref d] } } := I1.kept (t' := s1.toks) fun b ob q => Heap.get?_push_of_some _ q
  refine ⟨hdo.typeIs, hdo.mapOf.noDict, ?_⟩
  show wpAny _ _ (callWith cpos (.builtin "dict.items") [.ref d] [] []) _ X.xe s1
  refine method_meetsIn F.slot_dict_items F.entry_dict_items rfl (PySem.evalArgs_none ⟨rfl, hdo.typeIs, F.args_dict_items_1 _, _, meets_dict_items (mixKind X.prog X.w) d hs0, ⟨vs, hdo⟩, Calls.spliced_nil ?_⟩)
  refine PySem.W.kdx_call (knd := mixKind X.prog X.w) (kvs := vs) (ep := ep) (I1.ok.hd hc) ⟨_, Heap.get?_push_size _ rfl, rfl, rfl⟩ (hat.push _) (by omega) fun h' tk acc c as hk hS hl hG hacc => ?_
  obtain ⟨H', k1, k2, k3, k4, k5, k6, J⟩ := LiI.items_laid (tk := tk) I2 hz kv hk hS hl hG hacc
  exact ⟨.ref _, H', J, rfl, q H' _ as k1 k2 k3 k4 k5 k6⟩
end
/-! ### new things in numbers -/
theorem Ok.newL2 {K : PySem.W.Frag} {T : List (Addr × Str)} {A : Anc} {F H H' : Hp} {σ : L2.St} {ρ : Ev} (ok : Ok K T A F H σ ρ) {ts : List Addr} {xs : List (Key × V)} {ds : List (Key × D)} (t : Rk K F ρ.ws xs ds) (k1 : Same H H') (k3 : ∀ t ∈ ts, H t = none) (k6 : Paired (fun (t : Addr) (q : Key × V) => H' t = some (.tup [kV q.1, q.2])) ts xs) :
    ∃ F', Same F F' ∧ (∀ b, b ∉ ts → F' b = F b) ∧ Ok K T A F' H' σ ρ ∧ Rs K F' ρ.ws (ts.map V.ref) (ds.map fun kv => .tup [kD kv.1, kv.2]) := by
  classical
  let F' : Hp := fun b => if b ∈ ts then H' b else F b
  have s1 : Same F F' := fun b o e => by
    show (if b ∈ ts then H' b else F b) = some o
    split
    · exact k1 _ _ (ok.sub _ _ e)
    · exact e
  have at_ : ∀ t ∈ ts, F' t = H' t := fun t m => if_pos m
  have off : ∀ b, b ∉ ts → F' b = F b := fun b m => if_neg m
  have tup : ∀ {ts : List Addr} {xs : List (Key × V)}, Paired (fun (t : Addr) (q : Key × V) => H' t = some (.tup [kV q.1, q.2])) ts xs → ∀ t ∈ ts, ∃ q, H' t = some (.tup q) := by
    intro ts xs h
    induction h with
    | nil => intro t m; cases m
    | cons h t ih =>
      intro b m
      rcases List.mem_cons.mp m with rfl | m
      · exact ⟨_, h⟩
      · exact ih b m
  refine ⟨F', s1, off, ok.up s1 (fun b o e => ?_) k1 (fun a n1 n2 => ?_) (fun a o e n => ?_), ?_⟩
  · by_cases m : b ∈ ts
    · rwa [at_ b m] at e
    · rw [off b m] at e
      exact k1 _ _ (ok.sub _ _ e)
  · by_cases m : a ∈ ts
    · exact k3 a m
    · rw [off a m] at n1
      exact absurd n2 n1
  · by_cases m : a ∈ ts
    · rw [at_ a m] at e
      obtain ⟨q, e2⟩ := tup k6 a m
      rw [e2] at e
      cases e
      intro ps z
      cases z
    · rw [off a m, n] at e
      cases e
  · have key : ∀ {us : List Addr} {xs : List (Key × V)} {ds : List (Key × D)}, (∀ t ∈ us, t ∈ ts) → Rk K F ρ.ws xs ds → Paired (fun (t : Addr) (q : Key × V) => H' t = some (.tup [kV q.1, q.2])) us xs → Rs K F' ρ.ws (us.map V.ref) (ds.map fun kv => .tup [kD kv.1, kv.2]) := by
      intro us xs ds hu t h
      induction h generalizing ds with
      | nil => cases t; exact .nil
      | @cons u q us qs h _ ih =>
        cases t with
        | cons r t =>
          refine .cons (.tup (.inl (.inl ?_)) (.cons (kD_R _) (.cons (r.mo s1) .nil))) (ih (fun x m => hu x (List.mem_cons_of_mem _ m)) t)
          rw [at_ u (hu u (List.mem_cons_self ..))]
          exact h
    exact key (fun t m => m) t k6
section
variable {X : Cx} {T : List (Addr × Str)} {A : Anc} {ρ : Ev} {e : Expr} {es : List Expr} {C : CV} {p apos cpos pos : Pos}
theorem dv_listItems (hc : X.calm = true) (hm : X.mg "list" = none) (h : DE X T A ρ e (fun d ρ1 => ∃ kvs, dkOf d = some kvs ∧ ∀ a, C (.l a (kvs.map fun kv => .tup [kD kv.1, kv.2])) ρ1)) (hg : Gl X "list" := by rfl)
    (hbase : attributeBase e "items" X.env (eval e X.env) = eval e X.env := by rfl) (hline : (apos.endLine == cpos.line) = true := by rfl)
    (hs : starEach [.Call (.Attribute e "items" apos) [] [] cpos] X.env = (false, eval (.Call (.Attribute e "items" apos) [] [] cpos) X.env) :: starEach [] X.env := by rfl) : DV X T A ρ (.Call (.Name "list" p) [.Call (.Attribute e "items" apos) [] [] cpos] [] pos) C :=
  DV.of (pe_listItemsR hc (pe_go (T := T) (A := A)) hg hm (by decide +kernel) hbase hline hs) fun σ H Q F ok q => ⟨ρ, _, h, F, ok, fun d ρ1 ⟨kvs, e1, c⟩ v F1 H1 s1 w1 ok1 r1 => by
    unfold dkOf at e1
    split at e1
    · cases e1
      cases r1 with
      | @dK a o xs _ h1 t =>
        refine ⟨a, xs, rfl, .inr ⟨o, ok1.sub _ _ h1⟩, fun H' l ts k1 k2 k3 k4 k5 k6 => ?_⟩
        obtain ⟨F2, s2, off, ok2, r2⟩ := ok1.newL2 t k1 k3 k6
        refine q _ _ (c l) _ F2 H' (s1.trans s2) w1 ok2 ⟨rfl, by rw [off l k4]; exact ok1.fnone k2, fun m => ?_, ok1.anone k2, ⟨_, k5, .lst r2⟩, fun pp ds' z => ?_⟩
        · obtain ⟨⟨_, _, _, e, _⟩, _⟩ := ok1.strm l m
          rw [k2] at e
          cases e
        · obtain ⟨_, _, _, us, z2, _⟩ := ok1.owns pp l ds' z
          rw [k2] at z2
          cases z2
    · cases e1⟩
/-- dict(d): a copy -/
def cpD : List D → CV → Ev → Prop
  | [.dK kvs], C, ρ => ∀ a, C (.b a (.dK kvs)) ρ
  | _, _, _ => False
theorem dv_dictC (hm : X.mg "dict" = none) (h : DA X T A ρ (e :: es) (fun ds ρ1 => cpD ds C ρ1)) (hg : Gl X "dict" := by rfl) (he : starEach (e :: es) X.env = (false, eval e X.env) :: starEach es X.env := by rfl) (hpl : (backTo pos (starEach es X.env)).any (·.1) = false := by rfl) : DV X T A ρ (.Call (.Name "dict" p) (e :: es) [] pos) C :=
  dv_callTy (call_dictD) (by
    intro ds C F H σ ρ xs Q h ok r0 q
    unfold cpD at h
    split at h
    · obtain ⟨v, rfl, r⟩ := r0.one
      cases r with
      | @dK a o xs _ h1 t =>
        refine ⟨a, xs, rfl, .inr ⟨o, ok.sub _ _ h1⟩, fun l hl => ?_⟩
        obtain ⟨ok2, g2⟩ := ok.mineB (c := .dK _) hl (.dK t)
        exact q _ _ (h l) _ F _ (Same.refl _) rfl ok2 g2
    · exact h.elim) hm (by decide +kernel) h hg (by decide) (by decide) he hpl
/-- dict(pairs) -/
def pairsD : List D → Option (List (Key × D))
  | [] => some []
  | .tup [k, d] :: r => match keyD k, pairsD r with
    | some k, some ps => some ((k, d) :: ps)
    | _, _ => none
  | _ => none
theorem pairs_R {K : PySem.W.Frag} {F H : Hp} {ws : List Addr} (s : Same F H) : ∀ {ds : List D} {xs : List V} {ps : List (Key × D)}, Rs K F ws xs ds → pairsD ds = some ps → ∃ (as : List Addr) (kvs : List (Key × V)), xs = as.map V.ref ∧ Paired (fun p kv => SqT K H p [kV kv.1, kv.2]) as kvs ∧ Rk K F ws kvs ps
  | [], _, ps, r, e => by
    cases r
    cases e
    exact ⟨[], [], rfl, .nil, .nil⟩
  | d :: ds, _, ps, r, e => by
    cases r with
    | cons r t =>
      unfold pairsD at e
      split at e
      · rename_i heq
        cases heq
      · rename_i k d' r' heq
        cases heq
        split at e
        · rename_i k' ps' e1 e2
          cases e
          obtain ⟨as, kvs, h1, h2, h3⟩ := pairs_R s t e2
          cases r with
          | @tup a xs' _ hq tq =>
            cases tq with
            | cons rk tq =>
              cases tq with
              | cons rd tq =>
                cases tq
                have := keyD_V rk e1
                subst this
                exact ⟨a :: as, (k', _) :: kvs, by rw [h1]; rfl, .cons (sqT_mono s hq) h2, .cons rd h3⟩
        · cases e
      · cases e
def dpD : List D → CV → Ev → Prop
  | [d], C, ρ => ∃ ds ps, seqL d = some ds ∧ pairsD ds = some ps ∧ ∀ a, C (.b a (.dK (mergeD [] ps))) ρ
  | _, _, _ => False
theorem dv_dictP (hc : X.calm = true) (hm : X.mg "dict" = none) (h : DA X T A ρ (e :: es) (fun ds ρ1 => dpD ds C ρ1)) (hg : Gl X "dict" := by rfl) (he : starEach (e :: es) X.env = (false, eval e X.env) :: starEach es X.env := by rfl) (hpl : (backTo pos (starEach es X.env)).any (·.1) = false := by rfl) : DV X T A ρ (.Call (.Name "dict" p) (e :: es) [] pos) C :=
  dv_callTy (call_dictP hc) (by
    intro ds C F H σ ρ xs Q h ok r0 q
    unfold dpD at h
    split at h
    · obtain ⟨v, rfl, r⟩ := r0.one
      obtain ⟨ds, ps, e1, e2, c⟩ := h
      obtain ⟨a, us, rfl, hs, t⟩ := seqL_of ok.sub r e1
      obtain ⟨as, kvs, rfl, h2, h3⟩ := pairs_R ok.sub t e2
      refine ⟨a, as, kvs, rfl, hs, h2, fun l hl => ?_⟩
      obtain ⟨ok2, g2⟩ := ok.mineB (c := .dK (mergeD [] ps)) hl (.dK (Rk.merge h3 .nil))
      exact q _ _ (c l) _ F _ (Same.refl _) rfl ok2 g2
    · exact h.elim) hm (by decide +kernel) h hg (by decide) (by decide) he hpl
/-- a slice of a tuple -/
theorem de_sliceT {C : CD} {lo hi : Option Expr} {p2 : Pos} (h : DE X T A ρ e (fun d ρ1 => DP X T A ρ1 lo (fun l ρ2 => DP X T A ρ2 hi (fun u ρ3 => ∃ ds, d = .tup ds ∧ C (.tup (cutD ds l u)) ρ3)))) : DE X T A ρ (.Subscript e (.Slice lo hi none p2) pos) C :=
  DE.of (pe_slice sl_tupA pe_go po_go po_go) fun σ H Q F ok q => ⟨ρ, _, h, F, ok, fun d ρ1 h1 v F1 H1 s1 w1 ok1 r1 => ⟨ρ1, _, h1, F1, ok1, fun l ρ2 h2 F2 H2 s2 w2 ok2 => ⟨ρ2, _, h2, F2, ok2, fun u ρ3 ⟨ds, e3, h3⟩ F3 H3 s3 w3 ok3 => by
    subst e3
    cases r1 with
    | @tup a xs _ hs t =>
      have hs' := sqT_mono (s2.trans (s3.trans ok3.sub)) hs
      have t3 : Rs X.K F3 ρ3.ws xs ds := by rw [w3, w2]; exact t.mo (s2.trans s3)
      refine ⟨a, xs, rfl, hs', fun hw => ?_, fun _ p hp => ?_⟩
      · have e4 : cutD ds l u = ds := by
          unfold cutD
          rw [← t3.len, hw.1, hw.2, Nat.sub_zero, List.drop_zero, t3.len, List.take_length]
        rw [e4] at h3
        exact q _ _ h3 _ F3 _ (s1.trans (s2.trans s3)) (w3.trans (w2.trans w1)) ok3 (.tup (sqT_mono (s2.trans s3) hs) t3)
      · obtain ⟨F4, s4, ok4, r4⟩ := ok3.newT (cut_of t3 l u) hp
        exact q _ _ h3 _ F4 _ (s1.trans (s2.trans (s3.trans s4))) (w3.trans (w2.trans w1)) ok4 r4⟩⟩⟩
/-- a text, sign by sign -/
theorem yields_str {F : Hp} {ws : List Addr} {x : Str} : Yields X T A (Its x) F ws (chrs x) := by
  have el : (chrs x).length = x.cps.size := by unfold chrs; rw [List.length_map, Array.length_toList]
  refine ⟨fun i F1 H1 s1 s2 l => ?_, fun i F1 H1 s1 s2 l => ?_, fun i d F1 H1 σ ρ v H2 e s1 ok w y => ?_⟩
  · rw [el] at l
    exact l
  · rw [el] at l
    exact Nat.le_of_eq l
  · obtain ⟨rfl, c, e1, rfl⟩ := y
    unfold chrs at e
    rw [List.getElem?_map, Array.getElem?_toList, e1] at e
    cases e
    exact ⟨F1, Same.refl _, ok, .str _⟩
def strOf : D → Option Str
  | .str x => some x
  | _ => none
theorem di_str {tg : Expr} {C : CL} (h : DE X T A ρ e (fun d ρ1 => ∃ x, strOf d = some x ∧ C (chrs x) ρ1)) : DI X T A ρ tg e C :=
  ⟨⟨fun pins s σ H R I ⟨F, ok, q⟩ => (pi_str (tg := tg) (pe_go (T := T) (A := A) (e := e))).run pins s σ H R I ⟨ρ, _, h, F, ok, fun d ρ1 ⟨x, e1, c⟩ v F1 H1 s1 w1 ok1 r1 => by
    unfold strOf at e1
    split at e1
    · cases e1
      cases r1
      exact ⟨x, rfl, q _ ρ1 c _ F1 H1 s1 w1 ok1 yields_str⟩
    · cases e1⟩⟩⟩
/-- one sign in a text -/
def inSg (f : Bool → Bool) : D → D → CD → Ev → Prop
  | .str x, .str z, C, ρ => ∃ c, x = ⟨#[c]⟩ ∧ C (.bl (f (decide (c ∈ z.cps.toList)))) ρ
  | _, _, _, _ => False
theorem lk_inSg : Lk X T A (fun x y H Q => ∃ (c : Nat) (z : Str), x = .str ⟨#[c]⟩ ∧ y = .str z ∧ Q (.bl (decide (c ∈ z.cps.toList))) H) (inSg id) := by
  intro d1 d2 C F H σ ρ x y Q h ok r1 r2 q
  unfold inSg at h
  split at h
  · obtain ⟨c, rfl, hc⟩ := h
    cases r1
    cases r2
    exact ⟨c, _, rfl, rfl, q _ _ hc _ F H (Same.refl _) rfl ok (.bl _)⟩
  · exact h.elim
theorem lk_ninSg : Lk X T A (fun x y H Q => ∃ (c : Nat) (z : Str), x = .str ⟨#[c]⟩ ∧ y = .str z ∧ Q (.bl (!decide (c ∈ z.cps.toList))) H) (inSg not) := by
  intro d1 d2 C F H σ ρ x y Q h ok r1 r2 q
  unfold inSg at h
  split at h
  · obtain ⟨c, rfl, hc⟩ := h
    cases r1
    cases r2
    exact ⟨c, _, rfl, rfl, q _ _ hc _ F H (Same.refl _) rfl ok (.bl _)⟩
  · exact h.elim
theorem de_inSg {a b : Expr} {C : CD} (h : In2 X T A ρ a b (inSg id) C) (hm : behindInMarks .In b = false := by rfl) : DE X T A ρ (.Compare a [.In] [b] pos) C := de_cmp op_in_sign lk_inSg hm h
theorem de_ninSg {a b : Expr} {C : CD} (h : In2 X T A ρ a b (inSg not) C) (hm : behindInMarks .NotIn b = false := by rfl) : DE X T A ρ (.Compare a [.NotIn] [b] pos) C := de_cmp op_notIn_sign lk_ninSg hm h
theorem dt_inSg {a b : Expr} {B : CB} (h : In2 X T A ρ a b (inSg id) (asB B)) (hm : behindInMarks .In b = false := by rfl) : DT X T A ρ (.Compare a [.In] [b] pos) B := dt_cmp op_in_sign lk_inSg hm h
theorem dt_ninSg {a b : Expr} {B : CB} (h : In2 X T A ρ a b (inSg not) (asB B)) (hm : behindInMarks .NotIn b = false := by rfl) : DT X T A ρ (.Compare a [.NotIn] [b] pos) B := dt_cmp op_notIn_sign lk_ninSg hm h
/-- a constant of the module: a text, a number -/
theorem de_globS {x : Str} {z : Str} {t : Tok} {C : CD} (hm : X.mg x = some (.str z t)) (h : C (.str z) ρ) (hg : Gl X x := by rfl) (hd : (x == ("__debug__" : Str)) = false := by decide) : DE X T A ρ (.Name x pos) C :=
  DE.of (pe_glob (v := .str z) hg hm ⟨t, rfl⟩ hd) fun σ H Q F ok q => q _ _ h _ F H (Same.refl _) rfl ok (.str z)
/-- {**d, k: v, ..} -/
structure DPs (X : Cx) (T : List (Addr × Str)) (A : Anc) (ρ : Ev) (keys : List (Option Expr)) (vals : List Expr) (C : List (Key × D) → Ev → Prop) : Prop where
  pe : PPs X keys vals (fun σ H Q => ∃ F, Ok X.K T A F H σ ρ ∧ ∀ ps ρ', C ps ρ' → ∀ (kvs : List (Key × V)) F' H', Same F F' → ρ'.ws = ρ.ws → Ok X.K T A F' H' σ ρ' → Rk X.K F' ρ'.ws kvs ps → Q (kvs.map fun p => (kV p.1, p.2)) H')
theorem dps_nil {C : List (Key × D) → Ev → Prop} (h : C [] ρ) : DPs X T A ρ [] [] C := ⟨⟨fun pins s σ H Q pos I ⟨F, ok, q⟩ => pps_nil.run pins s σ H Q pos I (q [] ρ h [] F H (Same.refl _) rfl ok .nil)⟩⟩
def goPs (X : Cx) (T : List (Addr × Str)) (A : Anc) (keys : List (Option Expr)) (vals : List Expr) : TPs := fun σ H Q => ∃ ρ C, DPs X T A ρ keys vals C ∧ ∃ F, Ok X.K T A F H σ ρ ∧ ∀ ps ρ', C ps ρ' → ∀ (kvs : List (Key × V)) F' H', Same F F' → ρ'.ws = ρ.ws → Ok X.K T A F' H' σ ρ' → Rk X.K F' ρ'.ws kvs ps → Q (kvs.map fun p => (kV p.1, p.2)) H'
theorem pps_go {keys : List (Option Expr)} {vals : List Expr} : PPs X keys vals (goPs X T A keys vals) := ⟨fun pins s σ H Q pos I ⟨_, _, h, q⟩ => h.pe.run pins s σ H Q pos I q⟩
theorem dps_cons {k v : Expr} {keys : List (Option Expr)} {vals : List Expr} {C : List (Key × D) → Ev → Prop} (h : DE X T A ρ k (fun dk ρ1 => DE X T A ρ1 v (fun dv ρ2 => ∃ key, keyD dk = some key ∧ DPs X T A ρ2 keys vals (fun ps ρ3 => C ((key, dv) :: ps) ρ3)))) : DPs X T A ρ (some k :: keys) (v :: vals) C :=
  ⟨⟨fun pins s σ H Q pos I ⟨F, ok, q⟩ => (pps_cons (pe_go (T := T) (A := A)) (pe_go (T := T) (A := A)) (pps_go (T := T) (A := A))).run pins s σ H Q pos I ⟨ρ, _, h, F, ok, fun dk ρ1 h1 x F1 H1 s1 w1 ok1 r1 => ⟨ρ1, _, h1, F1, ok1, fun dv ρ2 ⟨key, e2, h2⟩ y F2 H2 s2 w2 ok2 r2 => ⟨ρ2, _, h2, F2, ok2, fun ps ρ3 c kvs F3 H3 s3 w3 ok3 r3 => by
    have := keyD_V r1 e2
    subst this
    have ry : R X.K F3 ρ3.ws y dv := by rw [w3]; exact r2.mo s3
    exact q _ _ c ((key, y) :: kvs) F3 H3 (s1.trans (s2.trans s3)) (w3.trans (w2.trans w1)) ok3 (.cons ry r3)⟩⟩⟩⟩⟩
abbrev Ev.hide (ρ : Ev) (a : Addr) (c : Con) : Ev := { ρ with hid := (a, c) :: ρ.hid }
theorem length_mergeD : ∀ (more kvs : List (Key × D)), (mergeD kvs more).length ≤ kvs.length + more.length
  | [], kvs => by show kvs.length ≤ kvs.length + 0; omega
  | p :: r, kvs => by
    have h1 := length_mergeD r (putD kvs p.1 p.2)
    have h2 : (putD kvs p.1 p.2).length ≤ kvs.length + 1 := by
      unfold putD
      split
      · rw [List.length_map]; omega
      · rw [List.length_append]; exact Nat.le_refl _
    show (mergeD (putD kvs p.1 p.2) r).length ≤ _
    rw [List.length_cons]
    omega
theorem dv_dstar {m : Expr} {keys : List (Option Expr)} {vals : List Expr} (h : ∀ d, DE X T A (ρ.hide d (.dK [])) m (fun dm ρ1 => ∃ (kvs : List (Key × D)) (ρ2 : Ev), dkOf dm = some kvs ∧ ρ1 = ρ2.hide d (.dK []) ∧
      ∀ e, DPs X T A ((ρ2.hide d (.dK kvs)).hide e (.dK [])) keys vals (fun ps ρ3 => ∃ ρ4 : Ev, ρ3 = (ρ4.hide d (.dK kvs)).hide e (.dK []) ∧ kvs.length + ps.length ≤ sizeLine ∧ C (.b d (.dK (mergeD kvs (mergeD [] ps)))) ρ4)))
    (hall : keys.all (·.isSome) = true := by rfl) (hl : keys.length = vals.length := by rfl) (h0 : keys ≠ [] := by simp) (hlen : keys.length ≤ 15 := by decide) : DV X T A ρ (.Dict (none :: keys) (m :: vals) pos) C :=
  DV.of (pe_dstar (pe_go (T := T) (A := A)) (pps_go (T := T) (A := A)) hall hl h0 hlen) fun σ H Q F ok q d hd => by
    obtain ⟨okd, gd⟩ := ok.mineB (c := .dK []) hd (.dK .nil)
    have ok0 := okd.hideB gd
    refine ⟨ρ.hide d (.dK []), _, h d, F, ok0, fun dm ρ1 ⟨kvs, ρ2, e1, e2, h2⟩ v F1 H1 s1 w1 ok1 r1 => ?_⟩
    subst e2
    unfold dkOf at e1
    split at e1
    · cases e1
      cases r1 with
      | @dK a o xs _ h1 t =>
        obtain ⟨f1, f2, f3, o1, f4, f5⟩ := ok1.owns (.inr 0) d (.dK []) rfl
        obtain ⟨ys, rfl, tz⟩ := f5.dict
        cases tz
        have had : a ≠ d := fun z => by rw [z, f1] at h1; cases h1
        refine ⟨a, xs, rfl, had, .inr ⟨o, ok1.sub _ _ h1⟩, f4, fun e hed he => ?_⟩
        have ok2 : Ok X.K T A F1 (upd H1 d (.dK xs)) σ (ρ2.hide d (.dK kvs)) := ok1.hidChg (.dK t)
        obtain ⟨oke, ge⟩ := ok2.mineB (c := .dK []) he (.dK .nil)
        have ok3 := oke.hideB ge
        refine ⟨_, _, h2 e, F1, ok3, fun ps ρ3 ⟨ρ4, e3, hz, c⟩ us F2 H2 s2 w2 ok4 r2 => ?_⟩
        subst e3
        obtain ⟨_, _, _, oe, g4, g5⟩ := ok4.owns (.inr 0) e (.dK []) rfl
        obtain ⟨ye, rfl, te⟩ := g5.dict
        cases te
        obtain ⟨_, _, _, od, k4, k5⟩ := ok4.owns (.inr 1) d (.dK kvs) rfl
        obtain ⟨yd, rfl, td⟩ := k5.dict
        have hed' : d ≠ e := Ne.symm hed
        refine ⟨us, yd, rfl, k4, g4, by rw [td.len, r2.len]; exact hz, ?_⟩
        have ok5 : Ok X.K T A F2 (upd H2 e (.dK (mergeK [] us))) σ ((ρ4.hide d (.dK kvs)).hide e (.dK (mergeD [] ps))) := ok4.hidChg (.dK (Rk.merge r2 .nil))
        obtain ⟨ok6, g6⟩ := ok5.unhideB
        have ok7 : Ok X.K T A F2 (upd (upd H2 e (.dK (mergeK [] us))) d (.dK (mergeK yd (mergeK [] us)))) σ (ρ4.hide d (.dK (mergeD kvs (mergeD [] ps)))) := ok6.hidChg (.dK (Rk.merge (Rk.merge r2 .nil) td))
        obtain ⟨ok8, g8⟩ := ok7.unhideB
        exact q _ _ c _ F2 _ (s1.trans s2) (w2.trans w1) ok8 g8
    · cases e1
end
end DL
end

section
/-! objects: fields, methods, makers; things held by reference. -/
namespace DL
open PySem PySem.Spec L2
theorem Rf.getN {K : PySem.W.Frag} {F : Hp} {ws : List Addr} {f : Str} : ∀ {ds : List (Str × D)} {xs : List (Str × V)}, Rf K F ws xs ds → ds.lookup f = none → xs.lookup f = none
  | [], _, h, e => by cases h; rfl
  | (k, d') :: ds, _, h, e => by
    cases h with
    | cons h t =>
      rw [List.lookup_cons] at e ⊢
      cases hk : f == k with
      | true => rw [hk] at e; cases e
      | false =>
        rw [hk] at e
        exact Rf.getN t e
theorem Rf.len {K : PySem.W.Frag} {F : Hp} {ws : List Addr} : ∀ {ds : List (Str × D)} {xs : List (Str × V)}, Rf K F ws xs ds → xs.length = ds.length
  | [], _, h => by cases h; rfl
  | _ :: _, _, h => by
    cases h with
    | cons h t => rw [List.length_cons, List.length_cons, Rf.len t]
def putFD (f : Str) (v : D) : List (Str × D) → List (Str × D)
  | [] => [(f, v)]
  | (g, x) :: r => if g = f then (g, v) :: r else (g, x) :: putFD f v r
theorem Rf.put {K : PySem.W.Frag} {F : Hp} {ws : List Addr} {f : Str} {v : V} {d : D} (r : R K F ws v d) : ∀ {ds : List (Str × D)} {xs : List (Str × V)}, Rf K F ws xs ds → Rf K F ws (putF f v xs) (putFD f d ds)
  | [], _, h => by cases h; exact .cons r .nil
  | (k, d') :: ds, _, h => by
    cases h with
    | cons h t =>
      unfold putF putFD
      by_cases e : k = f
      · rw [if_pos e, if_pos e]
        exact .cons r t
      · rw [if_neg e, if_neg e]
        exact .cons h (Rf.put r t)
/-- the j-th hidden thing holds c -/
abbrev Ev.hset (ρ : Ev) (j : Nat) (a : Addr) (c : Con) : Ev := { ρ with hid := ρ.hid.set j (a, c) }
section
variable {K : PySem.W.Frag} {T : List (Addr × Str)} {A : Anc} {F H : Hp} {σ : L2.St} {ρ : Ev}
theorem Ok.hsetC (ok : Ok K T A F H σ ρ) {j : Nat} {a : Addr} {c c2 : Con} {o : HO} (e : ρ.hid[j]? = some (a, c)) (r : RC K F ρ.ws o c2) : Ok K T A F (upd H a o) σ (ρ.hset j a c2) := by
  refine ok.chg (p0 := .inr j) (c := c) e r rfl rfl (Nat.le_refl _) (fun _ _ z => z) (fun p x q => ?_)
  cases p with
  | inl i => exact .inr ⟨by simp, q⟩
  | inr i =>
    have q' : (ρ.hid.set j (a, c2))[i]? = some x := q
    by_cases h : j = i
    · subst h
      have hl : j < ρ.hid.length := (List.getElem?_eq_some_iff.mp e).1
      rw [List.getElem?_set_self hl] at q'
      exact .inl ⟨rfl, (Option.some.inj q').symm⟩
    · rw [List.getElem?_set_ne h] at q'
      exact .inr ⟨by simp [Ne.symm h], q'⟩
end
section
variable {X : Cx} {T : List (Addr × Str)} {A : Anc} {ρ : Ev} {a b e o value : Expr} {es : List Expr} {C : CD} {CVv : CV} {pos pos' p p1 p2 p3 apos : Pos} {O : DO} {f m x : Str} {Cc : Addr}
/-! ### fields of data objects -/
theorem de_fld {Cc : Addr} (n : NoAttr X.K Cc f) (h : DE X T A ρ e (fun d ρ1 => ∃ fs d', d = .obj Cc fs ∧ fs.lookup f = some d' ∧ C d' ρ1)) (hb : attributeBase e f X.env (eval e X.env) = eval e X.env := by rfl) : DE X T A ρ (.Attribute e f pos) C :=
  DE.of (pe_fld (pe_go (T := T) (A := A)) hb) fun σ H Q F ok q => ⟨ρ, _, h, F, ok, fun d ρ1 ⟨fs, d', ed, el, c⟩ v F1 H1 s1 w1 ok1 r1 => by
    subst ed
    cases r1 with
    | @obj a C dx xs _ hc h1 t =>
      obtain ⟨u, e1, r⟩ := t.get el
      exact ⟨a, Cc, dx, xs, u, rfl, ok1.sub _ _ h1, hc.cl, n, e1, q _ _ c u F1 H1 s1 w1 ok1 r⟩⟩
/-! ### methods of data objects -/
structure KnM (P : Program) (w : World) (K : PySem.W.Frag) (mg : Str → Option Value) (base : Heap) (T : List (Addr × Str)) (Cc : Addr) (m : Str) (k : Nat) (N : DF) (dD : List D) : Prop where
  own : OwnC K Cc
  ex : ∃ (f : Addr) (fd : FuncData) (ps : List Str) (ds : List Value) (dvs : List V), Meth K Cc m f ∧ FnOk P w K mg base (L2.CX P w) k f fd ps (spD K T N) ∧ Binds K fd ps ds ∧ Vals dvs ds ∧ ∀ F ws, Rs K F ws dvs dD
theorem dv_meth {k : Nat} {N : DF} {dD : List D} {xc : XC} {pl : Sem Bool} (F : KnM X.prog X.w X.K X.mg X.base T Cc m k N dD) (hr : Room k X.A) (tk : Takes X (WD X.K T A xc))
    (h : DE X T A ρ o (fun d ρ1 => ∃ fs, d = .obj Cc fs ∧ fs.lookup m = none ∧ DA X T A ρ1 (e :: es) (fun ds ρ2 => N (d :: (ds ++ dD)) ρ2.g (outD A xc CVv ρ2))))
    (hst : starEach (e :: es) X.env = (false, eval e X.env) :: starEach es X.env := by rfl) (hpl : (backTo pos (starEach es X.env)).any (·.1) = false := by rfl)
    (ht : eval (.Call (.Attribute o m apos) (e :: es) [] pos) X.env = (do
      let ov ← eval o X.env
      standAt apos.atName
      let (f, first) ← holding [ov] (getMethod ov m pl)
      callWith pos f first (backTo pos (starEach (e :: es) X.env)) (backToKw pos (keywordEach [] X.env))) := by rfl) : DV X T A ρ (.Call (.Attribute o m apos) (e :: es) [] pos) CVv := by
  have own := F.own
  obtain ⟨f, fd, ps, ds, dvs, hm, F, hb, hd, rD⟩ := F.ex
  refine DV.of (pe_meth (pl := pl) (pe_go (T := T) (A := A)) own.cl hm F hr hb hd (E := fun cls d H => WD X.K T A xc cls d [] H) (passes_call tk fun _ _ _ _ z => z) (pa_go (T := T) (A := A)) hst hpl ht) fun σ H Q Fz ok q => ⟨ρ, _, h, Fz, ok, fun d ρ1 ⟨fs, ed, el, h1⟩ v F1 H1 s1 w1 ok1 r1 => ?_⟩
  subst ed
  cases r1 with
  | @obj a C dx xs _ hc h2 t =>
    refine ⟨a, dx, xs, rfl, ok1.sub _ _ h2, t.getN el, ρ1, _, h1, F1, ok1, fun as ρ2 hN vs F2 H2 s2 w2 ok2 r2 => ?_⟩
    have rs : R X.K F2 ρ2.ws (.ref a) (.obj Cc fs) := by
      rw [w2]
      exact R.mo (.obj hc h2 t) s2
    exact call_sp ok2 (.cons rs (r2.app (rD _ _))) hN (fun d ρ' c v F' H' s' w' ok' r' => q d ρ' c v F' H' (s1.trans (s2.trans s')) (w'.trans (w2.trans w1)) ok' r') fun _ _ _ z => z
theorem dv_meth0 {k : Nat} {N : DF} {dD : List D} {xc : XC} {pl : Sem Bool} (F : KnM X.prog X.w X.K X.mg X.base T Cc m k N dD) (hr : Room k X.A) (tk : Takes X (WD X.K T A xc))
    (h : DE X T A ρ o (fun d ρ1 => ∃ fs, d = .obj Cc fs ∧ fs.lookup m = none ∧ N (d :: dD) ρ1.g (outD A xc CVv ρ1)))
    (ht : eval (.Call (.Attribute o m apos) [] [] pos) X.env = (do
      let ov ← eval o X.env
      standAt apos.atName
      let (f, first) ← holding [ov] (getMethod ov m pl)
      callWith pos f first (backTo pos (starEach [] X.env)) (backToKw pos (keywordEach [] X.env))) := by rfl) : DV X T A ρ (.Call (.Attribute o m apos) [] [] pos) CVv := by
  have own := F.own
  obtain ⟨f, fd, ps, ds, dvs, hm, F, hb, hd, rD⟩ := F.ex
  refine DV.of (pe_meth0 (pl := pl) (pe_go (T := T) (A := A)) own.cl hm F hr hb hd (E := fun cls d H => WD X.K T A xc cls d [] H) (passes_call tk fun _ _ _ _ z => z) ht) fun σ H Q Fz ok q => ⟨ρ, _, h, Fz, ok, fun d ρ1 ⟨fs, ed, el, hN⟩ v F1 H1 s1 w1 ok1 r1 => ?_⟩
  subst ed
  cases r1 with
  | @obj a C dx xs _ hc h2 t =>
    refine ⟨a, dx, xs, rfl, ok1.sub _ _ h2, t.getN el, ?_⟩
    exact call_sp ok1 (.cons (.obj hc h2 t) (rD _ _)) hN (fun d ρ' c v F' H' s' w' ok' r' => q d ρ' c v F' H' (s1.trans s') (w'.trans w1) ok' r') fun _ _ _ z => z
/-! ### isinstance of an own class -/
/-- what a class is to the built-in types and to the own classes of the text -/
structure ClsI (K : PySem.W.Frag) (Cc : Addr) : Prop where
  ty : ∀ n ∈ ["NoneType", "bool", "int", "str", "list", "tuple", "dict", "function"], PySem.W.kitOne K (.type n) (.ref Cc) = some false
/-- isinstance(d, C): own objects by their class -/
def isC (K : PySem.W.Frag) (Cc : Addr) : D → Option Bool
  | .obj C' _ => PySem.W.kitOne K (.ref C') (.ref Cc)
  | .non => some false | .bl _ => some false | .int _ => some false | .str _ => some false | .lst _ => some false | .kl _ => some false | .tup _ => some false | .dK _ => some false | .fn _ => some false
  | _ => none
theorem isC_of {K : PySem.W.Frag} {F H : Hp} {ws : List Addr} {v : V} {d : D} {Cc : Addr} {k : Bool} (I : ClsI K Cc) (s : Same F H) (r : R K F ws v d) (e : isC K Cc d = some k) : ∃ t, TyZ K H v t ∧ PySem.W.kitOne K t (.ref Cc) = some k := by
  have bt : ∀ {n : String}, n ∈ ["NoneType", "bool", "int", "str", "list", "tuple", "dict", "function"] → some false = some k → TyZ K H v (.type n) → ∃ t, TyZ K H v t ∧ PySem.W.kitOne K t (.ref Cc) = some k := fun {n} m e z => ⟨_, z, by rw [I.ty n m]; exact e⟩
  cases r with
  | non => exact bt (by simp) e <| .inl <| .base .non
  | bl b => exact bt (by simp) e <| .inl <| .base (.bl _)
  | int i => exact bt (by simp) e <| .inl <| .base (.int _)
  | str x => exact bt (by simp) e <| .inl <| .base (.str _)
  | lst h t => exact bt (by simp) e <| .inl <| .base (.lst (s _ _ h))
  | kl h t =>
    rcases h with (h | ⟨o, h⟩) | ⟨o, its, n, h1, h2, h3⟩
    · exact bt (by simp) e <| .inl <| .base (.lst (s _ _ h))
    · exact bt (by simp) e <| .inl <| .base (.frz (s _ _ h))
    · exact bt (by simp) e <| .inl (.kList h1 h2)
  | tup h t =>
    rcases h with (h | ⟨o, h⟩) | ⟨o, its, n, h1, h2, h3⟩
    · exact bt (by simp) e <| .inl <| .base (.tup (s _ _ h))
    · exact bt (by simp) e <| .inl (.fTuple (s _ _ h))
    · exact bt (by simp) e <| .inl (.kTuple h1 h2)
  | dK h t => exact bt (by simp) e <| .inl (.fDict (s _ _ h))
  | dT h t => cases e
  | obj hc h t => exact ⟨_, .inl (.base (.ins (s _ _ h) hc.cl hc.ha hc.hn hc.htk hc.hm)), e⟩
  | @fn a h =>
    have h1 : (K.lookup a).map (·.cls) = some (.type "function") := beq_iff_eq.mp h.1
    obtain ⟨o, h2, h3⟩ := Option.map_eq_some_iff.mp h1
    exact bt (by simp) e <| .inr ⟨a, o, rfl, rfl, h2, h3⟩
  | strm h => cases e
  | exc h t => cases e
  | ref => cases e
theorem de_isC {p1 : Pos} (hmi : X.mg "isinstance" = none) (I : ClsI X.K Cc) (hm : X.mg x = some (.ref Cc)) (h : DE X T A ρ e (fun d ρ1 => ∃ k, isC X.K Cc d = some k ∧ C (.bl k) ρ1)) (hg : Gl X x := by rfl) (hgi : Gl X "isinstance" := by rfl) (hd : (x == ("__debug__" : Str)) = false := by decide)
    (he : starEach [e, .Name x p1] X.env = (false, eval e X.env) :: starEach [.Name x p1] X.env := by rfl) (he2 : starEach [.Name x p1] X.env = (false, eval (.Name x p1) X.env) :: starEach [] X.env := by rfl) (hpl : (backTo pos (starEach [.Name x p1] X.env)).any (·.1) = false := by rfl) : DE X T A ρ (.Call (.Name "isinstance" p) [e, .Name x p1] [] pos) C :=
  DE.of (pe_callB call_isiZ hgi hmi (by decide +kernel) (pa_cons pe_go (pa_cons (pe_glob (v := .ref Cc) hg hm rfl hd) pa_nil he2) he) (by decide) (by decide) he hpl) fun σ H Q F ok q => ⟨ρ, _, h, F, ok, fun d ρ1 ⟨k, e1, c⟩ v F1 H1 s1 w1 ok1 r1 => by
    obtain ⟨t, h1, h2⟩ := isC_of I ok1.sub r1 e1
    exact ⟨v, .ref Cc, t, .ref Cc, k, rfl, .own Cc, h1, h2, q _ _ c _ F1 H1 s1 w1 ok1 (.bl _)⟩⟩
end
end DL
end

section
/-! own objects: made by __init__, lent to methods that read, handed to methods that write. -/
namespace DL
open PySem PySem.Spec L2
def RV.fd : RV → D
  | .v d => d
  | .l a _ => .ref a
  | .b a _ => .ref a
section
variable {X : Cx} {T : List (Addr × Str)} {A : Anc} {ρ : Ev} {a b e o value : Expr} {es : List Expr} {C : CD} {CVv : CV} {pos pos' p p1 p2 p3 apos : Pos} {O : DO} {f m x : Str} {Cc : Addr}
/-! ### things held by reference -/
theorem de_fldR {Cc : Addr} (n : NoAttr X.K Cc f) (h : DE X T A ρ e (fun d ρ1 => ∃ a p dx fs d', d = .ref a ∧ ρ1.at p = some (a, .ins Cc dx fs) ∧ fs.lookup f = some d' ∧ C d' ρ1)) (hb : attributeBase e f X.env (eval e X.env) = eval e X.env := by rfl) : DE X T A ρ (.Attribute e f pos) C :=
  DE.of (pe_fld (pe_go (T := T) (A := A)) hb) fun σ H Q F ok q => ⟨ρ, _, h, F, ok, fun d ρ1 ⟨a, p, dx, fs, d', ed, ea, el, c⟩ v F1 H1 s1 w1 ok1 r1 => by
    subst ed
    cases r1
    obtain ⟨_, _, _, o, h4, h5⟩ := ok1.owns p a _ ea
    obtain ⟨hc, xs, rfl, t⟩ := h5.inst
    obtain ⟨u, e1, r⟩ := t.get el
    exact ⟨a, Cc, dx, xs, u, rfl, h4, hc.cl, n, e1, q _ _ c u F1 H1 s1 w1 ok1 r⟩⟩
theorem fd_R {K : PySem.W.Frag} {F F' H : Hp} {ρ1 : Ev} {ws : List Addr} {v : V} {r : RV} (g : Gv K A F H ρ1 v r) (s : Same F F') (w : ws = ρ1.ws) : R K F' ws v r.fd := by
  cases r with
  | v d =>
    have g' : R K F ρ1.ws v d := g
    rw [w]
    exact g'.mo s
  | l a ds =>
    obtain ⟨rfl, _⟩ := g
    exact .ref
  | b a c =>
    obtain ⟨rfl, _⟩ := g
    exact .ref
/-- o.f = value, o an own object -/
theorem ds_fldO {Cc : Addr} (n : NoAttr X.K Cc f) (h : DV X T A ρ value (fun r ρ1 => DE X T A (held r ρ1) o (fun d ρ2 => ∃ a j dx fs, d = .ref a ∧ ρ2.hid[j]? = some (a, .ins Cc dx fs) ∧ fs.length < 1000 ∧ O.nx (ρ2.hset j a (.ins Cc dx (putFD f r.fd fs))))))
    (hs : swapsWith value (some (.Attribute o f pos')) pos.line X.env = pure false := by rfl) : DS X T A ρ (.Assign [.Attribute o f pos'] value pos) O :=
  DS.of (ps_fld (pe_go (T := T) (A := A)) (pv_go (T := T) (A := A)) hs) fun E σ H ⟨F, ok, hn, _⟩ => ⟨ρ, _, h, F, ok, fun r ρ1 h1 v F1 H1 s1 w1 ok1 g1 => ⟨held r ρ1, _, h1, F1, ok1.held g1, fun d ρ2 ⟨a, j, dx, fs, ed, ej, hz, c⟩ u F2 H2 s2 w2 ok2 r2 => by
    subst ed
    cases r2
    obtain ⟨_, _, _, o, h4, h5⟩ := ok2.owns (.inr j) a _ ej
    obtain ⟨hc, xs, rfl, t⟩ := h5.inst
    have w3 : ρ2.ws = ρ1.ws := w2.trans (held_ws r ρ1)
    exact ⟨a, Cc, dx, xs, rfl, h4, hc.cl, n, by rw [t.len]; exact hz, hn _ c σ F2 _ (s1.trans s2) (mem_eq (w3.trans w1)) (ok2.hsetC ej (.ins hc (Rf.put (fd_R g1 s2 w3) t)))⟩⟩⟩
/-- o.append(e), o a reference to an own list -/
theorem ds_appR (h : DE X T A ρ o (fun d ρ1 => ∃ a p ds0, d = .ref a ∧ ρ1.at p = some (a, .lst ds0) ∧ DE X T A ρ1 e (fun d2 ρ2 => ∃ j ds, ρ2.hid[j]? = some (a, .lst ds) ∧ ds.length < sizeLine ∧ O.nx (ρ2.hset j a (.lst (ds ++ [d2]))))))
    (hbase : attributeBase o "append" X.env (eval o X.env) = eval o X.env := by rfl)
    (hfew : ((backTo p3 (starEach [e] X.env)).all (fun x => !x.1) && (backToKw p3 (keywordEach [] X.env)).all (fun x => x.1.isSome)
      && decide (([e] : List Expr).length + ([] : List Keyword).length + (if ([] : List Keyword).isEmpty then 0 else 1) < 30)) = true := by rfl)
    (hline : (p2.endLine == p3.line) = true := by rfl) (hst : starEach [e] X.env = (false, eval e X.env) :: starEach [] X.env := by rfl) (hplain : (backTo p3 (starEach [] X.env)).any (·.1) = false := by rfl)
    (hs : swapsWith (.Call (.Attribute o "append" p2) [e] [] p3) none pos.line X.env = pure false := by rfl) :
    DS X T A ρ (.Expr (.Call (.Attribute o "append" p2) [e] [] p3) pos) O :=
  DS.of (ps_expr (pe_bm F.plainAttrs_list F.slot_list_append F.type_list_append mt_append (pe_go (T := T) (A := A)) (pa_cons (pe_go (T := T) (A := A)) pa_nil hst) hbase hfew hline hst hplain) hs) fun E σ H ⟨F, ok, hn, _⟩ => by
    refine ⟨ρ, _, h, F, ok, fun d ρ1 ⟨a, pp, ds0, ed, ea, h1⟩ v F1 H1 s1 w1 ok1 r1 => ?_⟩
    subst ed
    cases r1
    obtain ⟨_, _, _, o0, f4, f5⟩ := ok1.owns pp a _ ea
    obtain ⟨vs0, rfl, _⟩ := f5.list
    refine ⟨.inl ⟨rfl, _, .of f4⟩, ρ1, _, h1, F1, ok1, fun d2 ρ2 ⟨j, ds, ej, hz, c⟩ u F2 H2 s2 w2 ok2 r2 => ?_⟩
    obtain ⟨_, _, _, o1, g4, g5⟩ := ok2.owns (.inr j) a _ ej
    obtain ⟨us, rfl, t⟩ := g5.list
    exact ⟨a, us, u, rfl, rfl, g4, by rw [t.len]; exact hz, hn _ c σ F2 _ (s1.trans s2) (mem_eq (w2.trans w1)) (ok2.hsetC ej (.lst (t.app (.cons r2 .nil))))⟩
/-- o[b], o a reference to an own list -/
theorem de_ixR (h : DE X T A ρ o (fun d ρ1 => DE X T A ρ1 b (fun d2 ρ2 => ∃ a p ds k d', d = .ref a ∧ ρ2.at p = some (a, .lst ds) ∧ d2 = .int k ∧ atI ds k = some d' ∧ C d' ρ2))) (hs : PlainIx b := by exact fun _ _ => rfl) : DE X T A ρ (.Subscript o b pos) C :=
  DE.of (pe_ix ix_list pe_go pe_go hs) fun σ H Q F ok q => ⟨ρ, _, h, F, ok, fun d ρ1 h1 v F1 H1 s1 w1 ok1 r1 => ⟨ρ1, _, h1, F1, ok1, fun d2 ρ2 ⟨a, pp, ds, k, d', ed, ea, ek, el, c⟩ u F2 H2 s2 w2 ok2 r2 => by
    subst ed
    subst ek
    cases r1
    cases r2
    obtain ⟨_, _, _, o1, g4, g5⟩ := ok2.owns pp a _ ea
    obtain ⟨us, rfl, t⟩ := g5.list
    obtain ⟨y, e4, r4⟩ := atI_of t el
    exact ⟨a, us, k, y, rfl, rfl, .of g4, e4, q _ _ c y F2 H2 (s1.trans s2) (w2.trans w1) ok2 r4⟩⟩⟩
end
/-! ### what an own thing is when it is let go with all that it holds -/
def ownR (ρ : Ev) (a : Addr) (c : Con) : Prop := ∃ p, ρ.at p = some (a, c)
mutual
inductive LR (own : Addr → Con → Prop) : D → D → Prop
  | same (d : D) : LR own d d
  | lst {a : Addr} {ds ds' : List D} (h : own a (.lst ds)) (t : LRs own ds ds') : LR own (.ref a) (.lst ds')
  | ins {a Cc dx : Addr} {fs fs' : List (Str × D)} (h : own a (.ins Cc dx fs)) (t : LRf own fs fs') : LR own (.ref a) (.obj Cc fs')
inductive LRs (own : Addr → Con → Prop) : List D → List D → Prop
  | nil : LRs own [] []
  | cons {d d' : D} {ds ds' : List D} (h : LR own d d') (t : LRs own ds ds') : LRs own (d :: ds) (d' :: ds')
inductive LRf (own : Addr → Con → Prop) : List (Str × D) → List (Str × D) → Prop
  | nil : LRf own [] []
  | cons {k : Str} {d d' : D} {ds ds' : List (Str × D)} (h : LR own d d') (t : LRf own ds ds') : LRf own ((k, d) :: ds) ((k, d') :: ds')
end
theorem LRs.same {own : Addr → Con → Prop} : ∀ ds : List D, LRs own ds ds
  | [] => .nil
  | d :: ds => .cons (.same d) (LRs.same ds)
section
variable {K : PySem.W.Frag} {T : List (Addr × Str)} {A : Anc} {F F' H H' : Hp} {σ : L2.St} {ρ : Ev} {g : Nat}
mutual
theorem LR.data (ok : Ok K T A F H σ ρ) : ∀ {d d' : D} {v : V}, LR (ownR ρ) d d' → R K F ρ.ws v d → R K (lentF F H ρ) ρ.ws v d'
  | _, _, v, .same d, r => r.mo ok.lentS
  | _, _, v, .lst ⟨p, h⟩ t, r => by
    cases r
    obtain ⟨_, _, _, o, h4, h5⟩ := ok.owns p _ _ h
    obtain ⟨us, rfl, tt⟩ := h5.list
    exact .lst ((lentF_own h).trans h4) (LRs.data ok t tt)
  | _, _, v, .ins ⟨p, h⟩ t, r => by
    cases r
    obtain ⟨_, _, _, o, h4, h5⟩ := ok.owns p _ _ h
    obtain ⟨hc, us, rfl, tt⟩ := h5.inst
    exact .obj hc ((lentF_own h).trans h4) (LRf.data ok t tt)
theorem LRs.data (ok : Ok K T A F H σ ρ) : ∀ {ds ds' : List D} {vs : List V}, LRs (ownR ρ) ds ds' → Rs K F ρ.ws vs ds → Rs K (lentF F H ρ) ρ.ws vs ds'
  | _, _, vs, .nil, r => by cases r; exact .nil
  | _, _, vs, .cons h t, r => by
    cases r with
    | cons r rt => exact .cons (LR.data ok h r) (LRs.data ok t rt)
theorem LRf.data (ok : Ok K T A F H σ ρ) : ∀ {ds ds' : List (Str × D)} {vs : List (Str × V)}, LRf (ownR ρ) ds ds' → Rf K F ρ.ws vs ds → Rf K (lentF F H ρ) ρ.ws vs ds'
  | _, _, vs, .nil, r => by cases r; exact .nil
  | _, _, vs, .cons h t, r => by
    cases r with
    | cons r rt => exact .cons (LR.data ok h r) (LRf.data ok t rt)
end
/-- all own things are let go -/
theorem Ok.freeze (ok : Ok K T A F H σ ρ) : Ok K T A (lentF F H ρ) H [] (.bare ρ.ws ρ.g) := by
  refine ⟨ok.sub0.trans ok.lentS, fun b o e => ?_, ok.keep, fun a h n => ?_, ok.there, ⟨ok.tabs.1, fun b o e => ?_⟩, ok.wsub, ok.wnew, fun a m => ⟨(ok.strm a m).1, ?_⟩, fun i d e => (by simp at e), fun i a ds e => (by simp [ownOf] at e), fun p a ds e => (by rw [at_bare] at e; cases e), fun p q a ds es e => (by rw [at_bare] at e; cases e), Nat.zero_le _⟩
  · rcases lentF_of e with h | ⟨_, h⟩
    · exact ok.sub _ _ h
    · exact h
  · cases q : lentF F H ρ a with
    | none => rfl
    | some o =>
      rcases lentF_of q with h2 | ⟨⟨p, ds, hp⟩, _⟩
      · rw [ok.apart a h n] at h2; cases h2
      · exact absurd (ok.owns p a ds hp).2.2.1 h
  · rcases lentF_of e with h | ⟨⟨p, ds, hp⟩, h⟩
    · exact ok.tabs.2 _ _ h
    · obtain ⟨_, _, _, vs, h2, h3⟩ := ok.owns p b ds hp
      rw [h2] at h
      cases h
      exact h3.noTbl
  · cases q : lentF F H ρ a with
    | none => rfl
    | some o =>
      rcases lentF_of q with h | ⟨⟨p, ds, hp⟩, _⟩
      · rw [(ok.strm a m).2] at h; cases h
      · exact absurd m (ok.owns p a ds hp).2.1
end
/-! ### a class, by its __init__ -/
def spI (K : PySem.W.Frag) (T : List (Addr × Str)) (Cc : Addr) (N : DF) : Sp := fun vs H Q E => ∃ (x dx : Addr) (us : List V) (H1 F : Hp) (ws : List Addr) (ds : List D) (g : Nat) (C : Out → Prop),
  vs = .ref x :: us ∧ H = upd (upd H1 dx (.own x)) x (.ins Cc dx []) ∧ H1 x = none ∧ H1 dx = none ∧ dx ≠ x ∧ Ok K T ⟨F, H1, ws⟩ F H1 [] (.bare ws g) ∧ Rs K F ws us ds ∧ N ds g C ∧
  (∀ d g', C (.ret d g') → ∀ F' H', Ok K T ⟨F, H1, ws⟩ F' H' [] (.bare ws g') → R K F' ws (.ref x) d → Q .non H') ∧
  (∀ c fs g', C (.exc c fs g') → ∀ dx xs F' H', Ok K T ⟨F, H1, ws⟩ F' H' [] (.bare ws g') → F' dx = some (.xd xs) → Rf K F' ws xs fs → E (.ref c) (some dx) H')
/-- what stands at the end of __init__ -/
def iniEnd (ws : List Addr) (x : Addr) (C : Out → Prop) (ρ : Ev) : Prop := ρ.ws = ws ∧ ∃ d', LR (ownR ρ) (.ref x) d' ∧ C (.ret d' ρ.g)
def iniO (ws : List Addr) (x : Addr) (C : Out → Prop) : DO where
  nx := iniEnd ws x C
  rt := fun r ρ => r = .v .non ∧ iniEnd ws x C ρ
section
variable {P : Program} {w : World} {K : PySem.W.Frag} {mg : Str → Option Value} {base : Heap} {T : List (Addr × Str)}
theorem okI {nm qual : Str} {st : Stmt} {fI Cc : Addr} {fd : FuncData} {N ps : List Str} {k : Nat} {M : DF} (F : Fun K nm qual st fI fd) (S : FnScope N ps (defScope st)) (hc : OwnC K Cc) (len : ∀ ds g C, M ds g C → ds.length + 1 = ps.length)
    (hbody : ∀ (cdv : Value) (A : Around) (outer : List Env) (s : Shared) (H : Hp) (E : XK) (An : Anc) (ds : List D) (g : Nat) (C : Out → Prop) (x dx : Addr), Room k (A.deeper (PyProof.Rows.envOfC qual (defScope st) s.heap.objs.size fI cdv)) →
      Takes (bodyCx P w K mg base N qual st fI cdv A outer s H E) (WD K T An (excO C)) → M ds g C →
      DSs (bodyCx P w K mg base N qual st fI cdv A outer s H E) T An ⟨.dat (.ref x) :: pad ds (N.length - ds.length - 1), [(x, .ins Cc dx [])], An.ws, g⟩ (defBody st) (iniO An.ws x C)) : FnOk P w K mg base (L2.CX P w) (k + 1) fI fd ps (spI K T Cc M) := by
  refine F.okX S (fun vs H Q E h => ?_) (fun cdv A outer s H vs Q E hr h => ?_)
  · obtain ⟨x, dx, us, H1, F', ws, ds, g, C, rfl, _, _, _, _, _, r, h, _⟩ := h
    rw [List.length_cons, r.len]
    exact len _ _ _ h
  · obtain ⟨x, dx, us, H1, F', ws, ds, g, C, rfl, rfl, nx, ndx, nex, ok, r, h, h1, h3⟩ := h
    have tk : Takes (bodyCx P w K mg base N qual st fI cdv A outer s (upd (upd H1 dx (.own x)) x (.ins Cc dx [])) E) (WD K T ⟨F', H1, ws⟩ (excO C)) :=
      (takes_of rfl rfl rfl rfl).imp fun cls d σ H' ⟨c, dx, fs, xs, g', F2, e1, e2, ok2, hx, rf, hc⟩ => by
        subst e1
        subst e2
        exact h3 c fs g' hc dx xs F2 H' ok2 hx rf
    have hb := hbody cdv A outer s _ E ⟨F', H1, ws⟩ ds g C x dx hr tk h
    have okd : Ok K T ⟨F', H1, ws⟩ F' (upd H1 dx (.own x)) [] (.bare ws g) := ok.grow (same_upd ndx)
    have nx2 : (upd H1 dx (.own x)) x = none := by rw [upd_ne (Ne.symm nex)]; exact nx
    obtain ⟨okx, gx⟩ := okd.mineB (o := .ins Cc dx []) (c := .ins Cc dx []) nx2 (.ins hc .nil)
    have oks : Ok K T ⟨F', H1, ws⟩ F' (upd (upd H1 dx (.own x)) x (.ins Cc dx [])) (L2.start N (.ref x :: us)) ⟨.dat (.ref x) :: pad ds (N.length - ds.length - 1), [(x, .ins Cc dx [])], ws, g⟩ := by
      have okh := okx.hideB gx
      have rr : Rs K F' ws (.ref x :: us) (.ref x :: ds) := .cons .ref r
      have e0 : ∀ (i : Nat) (s : Sl), (Sl.dat (.ref x) :: pad ds (N.length - ds.length - 1))[i]? = some s → (pad (.ref x :: ds) (N.length - (D.ref x :: ds).length))[i]? = some s := fun i s z => by
        rw [List.length_cons, show N.length - (ds.length + 1) = N.length - ds.length - 1 by omega]
        exact z
      refine ⟨okh.sub0, okh.sub, okh.keep, okh.apart, okh.there, okh.tabs, okh.wsub, okh.wnew, okh.strm, fun i d e => pad_slots rr (e0 i _ e), fun i a c e => ?_, fun p a c e => ?_, fun p q a c c' e1 e2 => ?_, ?_⟩
      · obtain ⟨s, e1, e2⟩ := ownOf_bx e
        exact absurd (ownOf_of (e0 i _ e1) e2) pad_bx
      · cases p with
        | inl i =>
          obtain ⟨s, e1, e2⟩ := ownOf_bx e
          exact absurd (ownOf_of (e0 i _ e1) e2) pad_bx
        | inr j => exact okh.owns (.inr j) a c e
      · cases p with
        | inl i =>
          obtain ⟨s, e1, e2⟩ := ownOf_bx e1
          exact absurd (ownOf_of (e0 i _ e1) e2) pad_bx
        | inr j =>
          cases q with
          | inl i =>
            obtain ⟨s, e1, e2⟩ := ownOf_bx e2
            exact absurd (ownOf_of (e0 i _ e1) e2) pad_bx
          | inr j' => exact okh.dist (.inr j) (.inr j') a c c' e1 e2
      · have := pad_len (N := N) rr
        rw [List.length_cons, show N.length - (ds.length + 1) = N.length - ds.length - 1 by omega] at this
        exact this
    have fin : ∀ (ρ' : Ev) (σ' : L2.St) (F2 H2 : Hp), iniEnd ws x C ρ' → Ok K T ⟨F', H1, ws⟩ F2 H2 σ' ρ' → Q .non H2 := fun ρ' σ' F2 H2 ⟨hw, d', hl, hc⟩ ok2 => by
      have r2 := LR.data ok2 hl (.ref : R K F2 ρ'.ws (.ref x) (.ref x))
      have okf := ok2.freeze
      rw [hw] at r2 okf
      exact h1 _ _ hc _ H2 okf r2
    refine ⟨_, hb.pe, F', oks, fun ρ' c σ' F2 H2 s2 w2 ok2 => fin ρ' σ' F2 H2 c ok2, fun rv ρ' c v σ' F2 H2 ok2 gv => ?_, fun ρ' c => c.elim, fun ρ' c => c.elim⟩
    obtain ⟨rfl, c⟩ := c
    cases (show R K F2 ρ'.ws v .non from gv)
    exact fin ρ' σ' F2 H2 c ok2
end
structure KnC (P : Program) (w : World) (K : PySem.W.Frag) (mg : Str → Option Value) (base : Heap) (T : List (Addr × Str)) (x : Str) (Cc : Addr) (k : Nat) (N : DF) : Prop where
  nm : mg x = some (.ref Cc)
  ex : ∃ (fI : Addr) (fd : FuncData) (ps : List Str), Mk K Cc fI ∧ FnOk P w K mg base (L2.CX P w) k fI fd ps (spI K T Cc N) ∧ Binds K fd ps []
section
variable {X : Cx} {T : List (Addr × Str)} {A : Anc} {ρ : Ev} {e o : Expr} {es : List Expr} {CVv : CV} {pos p apos : Pos} {x m : Str} {Cc : Addr}
/-- C(e, ..) -/
theorem dv_make {k : Nat} {N : DF} {xc : XC} (F : KnC X.prog X.w X.K X.mg X.base T x Cc k N) (hr : Room (k + 1) X.A) (tk : Takes X (WD X.K T A xc)) (h : DA X T A ρ (e :: es) (fun ds ρ1 => N ds ρ1.g (outD A xc CVv ρ1)))
    (hg : Gl X x := by rfl) (hdb : (x == ("__debug__" : Str)) = false := by decide) (he : starEach (e :: es) X.env = (false, eval e X.env) :: starEach es X.env := by rfl) (hpl : (backTo pos (starEach es X.env)).any (·.1) = false := by rfl) : DV X T A ρ (.Call (.Name x p) (e :: es) [] pos) CVv := by
  obtain ⟨fI, fd, ps, M, F2, hb⟩ := F.ex
  refine DV.of (pe_make M F2 hr hg F.nm hb .nil (E := fun cls d H => WD X.K T A xc cls d [] H) (passes_call tk fun _ _ _ _ z => z) (pa_go (T := T) (A := A)) hdb he hpl) fun σ H Q Fz ok q => ⟨ρ, _, h, Fz, ok, fun ds ρ1 hN vs F1 H1 s1 w1 ok1 r1 => fun y dy ny ndy ney => ?_⟩
  rw [List.append_nil]
  refine ⟨y, dy, vs, H1, F1, ρ1.ws, ds, ρ1.g, _, rfl, rfl, ny, ndy, ney, ok1.bare, r1, hN, fun d g c F' H' ok' r' => ⟨rfl, ?_⟩, fun cl fs g c dx xs F' H' ok' hx rf => ?_⟩
  · exact q _ _ c (.ref y) F' H' (s1.trans ok'.sub0) w1 (ok1.back ok') r'
  · obtain ⟨e, c⟩ := c
    have ok2 := (ok1.back ok').drop
    exact ⟨cl, dx, fs, xs, g, F', rfl, rfl, ok2, hx, by rw [← e]; exact rf, c⟩
/-- what a call tells that has read own things: plain data -/
def outL (C : CV) (ρ : Ev) : Out → Prop
  | .ret d g => ground d = true ∧ C (.v d) (ρ.gas g)
  | _ => False
/-- o.m(e, ..), o an own object, lent -/
theorem dv_methL {k : Nat} {N : DF} {dD : List D} {xc : XC} {pl : Sem Bool} (F : KnM X.prog X.w X.K X.mg X.base T Cc m k N dD) (hr : Room k X.A) (tk : Takes X (WD X.K T A xc))
    (h : DE X T A ρ o (fun d ρ1 => ∃ a pp dx fs, d = .ref a ∧ ρ1.at pp = some (a, .ins Cc dx fs) ∧ fs.lookup m = none ∧ DA X T A ρ1 (e :: es) (fun ds ρ2 => ∃ d', LR (ownR ρ2) (.ref a) d' ∧ N (d' :: (ds ++ dD)) ρ2.g (outL CVv ρ2))))
    (hst : starEach (e :: es) X.env = (false, eval e X.env) :: starEach es X.env := by rfl) (hpl : (backTo pos (starEach es X.env)).any (·.1) = false := by rfl)
    (ht : eval (.Call (.Attribute o m apos) (e :: es) [] pos) X.env = (do
      let ov ← eval o X.env
      standAt apos.atName
      let (f, first) ← holding [ov] (getMethod ov m pl)
      callWith pos f first (backTo pos (starEach (e :: es) X.env)) (backToKw pos (keywordEach [] X.env))) := by rfl) : DV X T A ρ (.Call (.Attribute o m apos) (e :: es) [] pos) CVv := by
  have own := F.own
  obtain ⟨f, fd, ps, ds, dvs, hm, F, hb, hd, rD⟩ := F.ex
  refine DV.of (pe_meth (pl := pl) (pe_go (T := T) (A := A)) own.cl hm F hr hb hd (E := fun cls d H => WD X.K T A xc cls d [] H) (passes_call tk fun _ _ _ _ z => z) (pa_go (T := T) (A := A)) hst hpl ht) fun σ H Q Fz ok q => ⟨ρ, _, h, Fz, ok, fun d ρ1 ⟨a, pp, dx, fs, ed, ea, el, h1⟩ v F1 H1 s1 w1 ok1 r1 => ?_⟩
  subst ed
  cases r1
  obtain ⟨_, _, _, ob, h4, h5⟩ := ok1.owns pp a _ ea
  obtain ⟨hc, xs, rfl, t⟩ := h5.inst
  refine ⟨a, dx, xs, rfl, h4, t.getN el, ρ1, _, h1, F1, ok1, fun as ρ2 ⟨d', hl, hN⟩ vs F2 H2 s2 w2 ok2 r2 => ?_⟩
  have rs := LR.data ok2 hl (.ref : R X.K F2 ρ2.ws (.ref a) (.ref a))
  have okl := ok2.lend
  refine ⟨lentF F2 H2 ρ2, ρ2.ws, d' :: (as ++ dD), ρ2.g, _, ?_, .cons rs ((r2.mo ok2.lentS).app (rD _ _)), hN, fun d g c v F' H' ok' r' => ?_, fun es g c => c.elim, fun cc g c => c.elim, fun cl fs g c => c.elim⟩
  · exact okl.bare
  · obtain ⟨hg, c⟩ := c
    have ok3 := okl.back ok'
    have ok4 := ok2.regain (ρ' := (lookE ρ2).gas g) ok3 rfl
    exact q _ _ c v F2 H' (s1.trans s2) (w2.trans w1) ok4 (show R X.K F2 ρ2.ws v d from r'.ground hg)
end
end DL
end

section
/-! methods that change the own things they are handed. -/
namespace DL
open PySem PySem.Spec L2
/-- a heap without some addresses -/
noncomputable def minH (hd : List (Addr × Con)) (H : Hp) : Hp := fun b => by
  classical
  exact if ∃ c, (b, c) ∈ hd then none else H b
theorem minH_some {hd : List (Addr × Con)} {H : Hp} {b : Addr} {o : HO} (h : minH hd H b = some o) : H b = some o ∧ ∀ c, (b, c) ∉ hd := by
  unfold minH at h
  split at h
  · cases h
  · rename_i n
    exact ⟨h, fun c m => n ⟨c, m⟩⟩
theorem minH_out {hd : List (Addr × Con)} {H : Hp} {b : Addr} (h : ∀ c, (b, c) ∉ hd) : minH hd H b = H b := by
  unfold minH
  rw [if_neg (fun ⟨c, m⟩ => h c m)]
theorem minH_in {hd : List (Addr × Con)} {H : Hp} {b : Addr} {c : Con} (h : (b, c) ∈ hd) : minH hd H b = none := by
  unfold minH
  rw [if_pos ⟨c, h⟩]
theorem minH_ne {hd : List (Addr × Con)} {H : Hp} {b : Addr} (h : minH hd H b ≠ none) : H b ≠ none ∧ ∀ c, (b, c) ∉ hd := by
  cases e : minH hd H b with
  | none => exact absurd e h
  | some o =>
    obtain ⟨h1, h2⟩ := minH_some e
    exact ⟨by rw [h1]; simp, h2⟩
section
variable {K : PySem.W.Frag} {T : List (Addr × Str)} {A : Anc} {F F' H H' : Hp} {σ : L2.St} {ρ : Ev} {g : Nat}
/-- the hidden things handed on -/
theorem Ok.hand (ok : Ok K T A F H σ ρ) : Ok K T ⟨F, minH ρ.hid H, ρ.ws⟩ F H [] ⟨[], ρ.hid, ρ.ws, ρ.g⟩ := by
  refine ⟨Same.refl _, ok.sub, fun a o e _ _ => (minH_some e).1, fun _ _ n => n, fun _ h => (minH_ne h).1, ok.tabs, fun _ h => h, fun _ h => .inl h, ok.strm, fun i d e => (by simp at e), fun i a c e => (by simp [ownOf] at e), fun p a c e => ?_, fun p q a c c' e1 e2 => ?_, Nat.le_refl _⟩
  · cases p with
    | inl i => simp [Ev.at, ownOf] at e
    | inr j =>
      obtain ⟨h1, h2, _, h4⟩ := ok.owns (.inr j) a c e
      exact ⟨h1, h2, minH_in (List.mem_of_getElem? e), h4⟩
  · cases p with
    | inl i => simp [Ev.at, ownOf] at e1
    | inr j =>
      cases q with
      | inl i => simp [Ev.at, ownOf] at e2
      | inr j' => exact ok.dist (.inr j) (.inr j') a c c' e1 e2
/-- and given back -/
theorem Ok.handed (ok : Ok K T A F H σ ρ) {hd' : List (Addr × Con)} (eh : hd'.map (·.1) = ρ.hid.map (·.1)) (ok' : Ok K T ⟨F, minH ρ.hid H, ρ.ws⟩ F' H' [] ⟨[], hd', ρ.ws, g⟩) : Ok K T A F' H' σ ⟨ρ.sl, hd', ρ.ws, g⟩ := by
  have s : Same F F' := ok'.sub0
  have hk : ∀ a o, minH ρ.hid H a = some o → NoTbl o → a ∉ ρ.ws → H' a = some o := ok'.keep
  have ha : ∀ a, minH ρ.hid H a ≠ none → F a = none → F' a = none := ok'.apart
  have ht : ∀ a, minH ρ.hid H a ≠ none → H' a ≠ none := ok'.there
  have out : ∀ a, A.H a ≠ none → ∀ c, (a, c) ∉ ρ.hid := fun a h c m => by
    obtain ⟨j, e⟩ := List.getElem?_of_mem m
    exact h (ok.owns (.inr j) a c e).2.2.1
  have same : ∀ (j : Nat) a c, hd'[j]? = some (a, c) → ∃ c', ρ.hid[j]? = some (a, c') := fun j a c e => by
    have e1 : (hd'.map (·.1))[j]? = some a := by rw [List.getElem?_map, e]; rfl
    rw [eh, List.getElem?_map] at e1
    obtain ⟨⟨a', c'⟩, e2, e3⟩ := Option.map_eq_some_iff.mp e1
    dsimp only at e3
    subst e3
    exact ⟨c', e2⟩
  refine ⟨ok.sub0.trans s, ok'.sub, fun a o e n w => ?_, fun a h n => ?_, fun a h => ?_, ok'.tabs, ok.wsub, ok.wnew, ok'.strm, fun i d e => ?_, ok.ownS, fun p a c e => ?_, fun p q a c c' e1 e2 => ?_, ok.len⟩
  · have hx : ∀ c, (a, c) ∉ ρ.hid := out a (by rw [e]; simp)
    refine hk a o ((minH_out hx).trans (ok.keep a o e n w)) n fun z => ?_
    rcases ok.wnew a z with q | q
    · exact w q
    · rw [e] at q; cases q
  · exact ha a (by rw [minH_out (out a h)]; exact ok.there a h) (ok.apart a h n)
  · exact ht a (by rw [minH_out (out a h)]; exact ok.there a h)
  · obtain ⟨v, e1, e2⟩ := ok.slots i d e
    exact ⟨v, e1, e2.mo s⟩
  · cases p with
    | inl i =>
      obtain ⟨h1, h2, h3, o, h4, h5⟩ := ok.owns (.inl i) a c e
      have hx : ∀ c, (a, c) ∉ ρ.hid := fun c' m => by
        obtain ⟨j, ej⟩ := List.getElem?_of_mem m
        obtain ⟨_, _, _, o', h4', _⟩ := ok.owns (.inr j) a c' ej
        -- the same address at two places
        have h6 : ownOf ρ.sl[i]? = some (a, c) := e
        have hcc : ρ.at (.inr j) = some (a, c') := ej
        exact Sum.inl_ne_inr (ok.dist (.inl i) (.inr j) a c c' h6 hcc)
      exact ⟨ha a (by rw [minH_out hx, h4]; simp) h1, h2, h3, o, hk a o ((minH_out hx).trans h4) h5.noTbl h2, h5.mo s⟩
    | inr j =>
      obtain ⟨h1, h2, _, h4⟩ := ok'.owns (.inr j) a c e
      obtain ⟨c', e2⟩ := same j a c e
      exact ⟨h1, h2, (ok.owns (.inr j) a c' e2).2.2.1, h4⟩
  · cases p with
    | inl i =>
      cases q with
      | inl i' => exact ok.dist (.inl i) (.inl i') a c c' e1 e2
      | inr j =>
        obtain ⟨c2, e3⟩ := same j a c' e2
        exact absurd (ok.dist (.inl i) (.inr j) a c c2 e1 e3) Sum.inl_ne_inr
    | inr j =>
      cases q with
      | inl i =>
        obtain ⟨c2, e3⟩ := same j a c e1
        exact absurd (ok.dist (.inl i) (.inr j) a c' c2 e2 e3) Sum.inl_ne_inr
      | inr j' => exact ok'.dist (.inr j) (.inr j') a c c' e1 e2
/-- slots forgotten, the hidden things kept -/
theorem Ok.dropS {ws : List Addr} (ok : Ok K T A F H σ ρ) (w : ρ.ws = ws) : Ok K T A F H [] ⟨[], ρ.hid, ws, ρ.g⟩ := by
  subst w
  refine ⟨ok.sub0, ok.sub, ok.keep, ok.apart, ok.there, ok.tabs, ok.wsub, ok.wnew, ok.strm, fun i d e => (by simp at e), fun i a c e => (by simp [ownOf] at e), fun p a c e => ?_, fun p q a c c' e1 e2 => ?_, Nat.le_refl _⟩
  · cases p with
    | inl i => simp [Ev.at, ownOf] at e
    | inr j => exact ok.owns (.inr j) a c e
  · cases p with
    | inl i => simp [Ev.at, ownOf] at e1
    | inr j =>
      cases q with
      | inl i => simp [Ev.at, ownOf] at e2
      | inr j' => exact ok.dist (.inr j) (.inr j') a c c' e1 e2
end
abbrev DFH := List (Addr × Con) → List D → Nat → (List (Addr × Con) → Nat → Prop) → Prop
/-- the promise of a method that changes what it is handed and returns nothing -/
def spH (K : PySem.W.Frag) (T : List (Addr × Str)) (N : DFH) : Sp := fun vs H Q _ => ∃ (F Hm : Hp) (ws : List Addr) (hd : List (Addr × Con)) (ds : List D) (g : Nat) (C : List (Addr × Con) → Nat → Prop),
  Ok K T ⟨F, Hm, ws⟩ F H [] ⟨[], hd, ws, g⟩ ∧ Rs K F ws vs ds ∧ N hd ds g C ∧
  ∀ hd' g', C hd' g' → hd'.map (·.1) = hd.map (·.1) → ∀ F' H', Ok K T ⟨F, Hm, ws⟩ F' H' [] ⟨[], hd', ws, g'⟩ → Q .non H'
def hidEnd (ws : List Addr) (hd : List (Addr × Con)) (C : List (Addr × Con) → Nat → Prop) (ρ : Ev) : Prop := ρ.ws = ws ∧ ρ.hid.map (·.1) = hd.map (·.1) ∧ C ρ.hid ρ.g
def hidO (ws : List Addr) (hd : List (Addr × Con)) (C : List (Addr × Con) → Nat → Prop) : DO where
  nx := hidEnd ws hd C
  rt := fun r ρ => r = .v .non ∧ hidEnd ws hd C ρ
section
variable {P : Program} {w : World} {K : PySem.W.Frag} {mg : Str → Option Value} {base : Heap} {T : List (Addr × Str)}
theorem okH {x qual : Str} {st : Stmt} {f : Addr} {fd : FuncData} {N ps : List Str} {k : Nat} {M : DFH} (F : Fun K x qual st f fd) (S : FnScope N ps (defScope st)) (len : ∀ hd ds g C, M hd ds g C → ds.length = ps.length)
    (hbody : ∀ (cdv : Value) (A : Around) (outer : List Env) (s : Shared) (H : Hp) (E : XK) (An : Anc) (hd : List (Addr × Con)) (ds : List D) (g : Nat) (C : List (Addr × Con) → Nat → Prop), Room k (A.deeper (PyProof.Rows.envOfC qual (defScope st) s.heap.objs.size f cdv)) →
      Takes (bodyCx P w K mg base N qual st f cdv A outer s H E) (WD K T An fun _ _ _ => False) → M hd ds g C →
      DSs (bodyCx P w K mg base N qual st f cdv A outer s H E) T An ⟨pad ds (N.length - ds.length), hd, An.ws, g⟩ (defBody st) (hidO An.ws hd C)) : FnOk P w K mg base (L2.CX P w) (k + 1) f fd ps (spH K T M) := by
  refine F.okX S (fun vs H Q E h => ?_) (fun cdv A outer s H vs Q E hr h => ?_)
  · obtain ⟨F', Hm, ws, hd, ds, g, C, ok, r, h, _⟩ := h
    rw [r.len]
    exact len _ _ _ _ h
  · obtain ⟨F', Hm, ws, hd, ds, g, C, ok, r, h, h1⟩ := h
    have tk : Takes (bodyCx P w K mg base N qual st f cdv A outer s H E) (WD K T ⟨F', Hm, ws⟩ fun _ _ _ => False) :=
      (takes_of rfl rfl rfl rfl).imp fun cls d σ H' ⟨c, dx, fs, xs, g', F2, e1, e2, ok2, hx, rf, hc⟩ => hc.elim
    have hb := hbody cdv A outer s H E ⟨F', Hm, ws⟩ hd ds g C hr tk h
    have oks : Ok K T ⟨F', Hm, ws⟩ F' H (L2.start N vs) ⟨pad ds (N.length - ds.length), hd, ws, g⟩ := by
      refine ⟨ok.sub0, ok.sub, ok.keep, ok.apart, ok.there, ok.tabs, ok.wsub, ok.wnew, ok.strm, fun i d e => pad_slots r e, fun i a c e => ?_, fun p a c e => ?_, fun p q a c c' e1 e2 => ?_, ?_⟩
      · obtain ⟨s, e1, e2⟩ := ownOf_bx e
        exact absurd (ownOf_of e1 e2) pad_bx
      · cases p with
        | inl i =>
          obtain ⟨s, e1, e2⟩ := ownOf_bx e
          exact absurd (ownOf_of e1 e2) pad_bx
        | inr j => exact ok.owns (.inr j) a c e
      · cases p with
        | inl i =>
          obtain ⟨s, e1, e2⟩ := ownOf_bx e1
          exact absurd (ownOf_of e1 e2) pad_bx
        | inr j =>
          cases q with
          | inl i =>
            obtain ⟨s, e1, e2⟩ := ownOf_bx e2
            exact absurd (ownOf_of e1 e2) pad_bx
          | inr j' => exact ok.dist (.inr j) (.inr j') a c c' e1 e2
      · exact pad_len (N := N) r
    refine ⟨_, hb.pe, F', oks, fun ρ' c σ' F2 H2 s2 w2 ok2 => ?_, fun rv ρ' c v σ' F2 H2 ok2 gv => ?_, fun ρ' c => c.elim, fun ρ' c => c.elim⟩
    · obtain ⟨c1, c2, c3⟩ := c
      exact h1 _ _ c3 c2 F2 H2 (ok2.dropS c1)
    · obtain ⟨rfl, c1, c2, c3⟩ := c
      cases (show R K F2 ρ'.ws v .non from gv)
      exact h1 _ _ c3 c2 F2 H2 (ok2.dropS c1)
end
structure KnH (P : Program) (w : World) (K : PySem.W.Frag) (mg : Str → Option Value) (base : Heap) (T : List (Addr × Str)) (Cc : Addr) (m : Str) (k : Nat) (N : DFH) : Prop where
  own : OwnC K Cc
  ex : ∃ (f : Addr) (fd : FuncData) (ps : List Str), Meth K Cc m f ∧ FnOk P w K mg base (L2.CX P w) k f fd ps (spH K T N) ∧ Binds K fd ps []
section
variable {X : Cx} {T : List (Addr × Str)} {A : Anc} {ρ : Ev} {e o : Expr} {es : List Expr} {CVv : CV} {pos p apos : Pos} {x m : Str} {Cc : Addr}
/-- o.m(e, ..), o an own object, with all hidden things handed on -/
theorem dv_methH {k : Nat} {N : DFH} {xc : XC} {pl : Sem Bool} (F : KnH X.prog X.w X.K X.mg X.base T Cc m k N) (hr : Room k X.A) (tk : Takes X (WD X.K T A xc))
    (h : DE X T A ρ o (fun d ρ1 => ∃ a pp dx fs, d = .ref a ∧ ρ1.at pp = some (a, .ins Cc dx fs) ∧ fs.lookup m = none ∧ DA X T A ρ1 (e :: es) (fun ds ρ2 => N ρ2.hid (.ref a :: ds) ρ2.g (fun hd' g' => CVv (.v .non) ⟨ρ2.sl, hd', ρ2.ws, g'⟩))))
    (hst : starEach (e :: es) X.env = (false, eval e X.env) :: starEach es X.env := by rfl) (hpl : (backTo pos (starEach es X.env)).any (·.1) = false := by rfl)
    (ht : eval (.Call (.Attribute o m apos) (e :: es) [] pos) X.env = (do
      let ov ← eval o X.env
      standAt apos.atName
      let (f, first) ← holding [ov] (getMethod ov m pl)
      callWith pos f first (backTo pos (starEach (e :: es) X.env)) (backToKw pos (keywordEach [] X.env))) := by rfl) : DV X T A ρ (.Call (.Attribute o m apos) (e :: es) [] pos) CVv := by
  have own := F.own
  obtain ⟨f, fd, ps, hm, F, hb⟩ := F.ex
  refine DV.of (pe_meth (pl := pl) (pe_go (T := T) (A := A)) own.cl hm F hr hb .nil (E := fun cls d H => WD X.K T A xc cls d [] H) (passes_call tk fun _ _ _ _ z => z) (pa_go (T := T) (A := A)) hst hpl ht) fun σ H Q Fz ok q => ⟨ρ, _, h, Fz, ok, fun d ρ1 ⟨a, pp, dx, fs, ed, ea, el, h1⟩ v F1 H1 s1 w1 ok1 r1 => ?_⟩
  subst ed
  cases r1
  obtain ⟨_, _, _, ob, h4, h5⟩ := ok1.owns pp a _ ea
  obtain ⟨hc, xs, rfl, t⟩ := h5.inst
  refine ⟨a, dx, xs, rfl, h4, t.getN el, ρ1, _, h1, F1, ok1, fun as ρ2 hN vs F2 H2 s2 w2 ok2 r2 => ?_⟩
  show spH X.K T N (.ref a :: (vs ++ [])) H2 Q _
  rw [List.append_nil]
  refine ⟨F2, minH ρ2.hid H2, ρ2.ws, ρ2.hid, .ref a :: as, ρ2.g, _, ok2.hand, .cons .ref r2, hN, fun hd' g' c eh F' H' ok' => ?_⟩
  exact q _ _ c .non F' H' (s1.trans (s2.trans ok'.sub0)) (w2.trans w1) (ok2.handed eh ok') (.non : R X.K F' ρ2.ws .non .non)
end
end DL
end

section
/-! zip of a text and a list or a tuple. -/
namespace DL
open PySem PySem.Spec PyProof.Rows L2
/-- the cells of a zip of a text and a sequence at b lie apart -/
structure ZsApart (zz ti to j1 j2 b : Addr) : Prop where
  sep : ZipSep2 zz ti to j1 j2 [j1] [j2, b]
  bj : b ≠ j2
theorem zs_apart (n b : Nat) (hb : b < n) : ZsApart (n + 4) (n + 2) (n + 3) n (n + 1) b := by
  have a1 : n + 2 ≠ n + 4 := by omega
  have a2 : n + 3 ≠ n + 4 := by omega
  have a3 : n + 2 ≠ n + 3 := by omega
  have a4 : n + 2 ≠ n := by omega
  have a5 : n + 4 ≠ n := by omega
  have a6 : n + 3 ≠ n := by omega
  have a7 : n + 2 ≠ n + 1 := by omega
  have a8 : n + 4 ≠ n + 1 := by omega
  have a9 : n + 3 ≠ n + 1 := by omega
  have b1 : n ≠ n + 1 := by omega
  have b2 : n + 1 ≠ n := by omega
  have b3 : n ≠ b := by omega
  have b4 : n + 4 ≠ b := by omega
  have b5 : n + 3 ≠ b := by omega
  have b6 : b ≠ n + 1 := by omega
  have one : ∀ {c d : Addr}, c ≠ d → c ∉ [d] := fun h m => h (List.mem_singleton.mp m)
  have two : ∀ {c d e : Addr}, c ≠ d → c ≠ e → c ∉ [d, e] := fun h h2 m => by
    rcases List.mem_cons.mp m with m | m
    · exact h m
    · exact h2 (List.mem_singleton.mp m)
  exact ⟨⟨a1, a2, a3, a4, List.mem_singleton.mpr rfl, one a5, one a6, a7, List.mem_cons_self, two a8 b4, two a9 b5, two b1 b3, one b2⟩, b6⟩
/-- the signs of x and the items at b as they stand at each turn, in new pairs -/
def ItzsL (K : PySem.W.Frag) (x : Str) (b : Addr) : It :=
  ⟨fun i H => ∃ ys : List V, SqL K H b ys ∧ i < x.cps.size ∧ i < ys.length,
    fun i H v H' => ∃ (p : Addr) (c : Nat) (y : V), v = .ref p ∧ H p = none ∧ H' = upd H p (.tup [.str ⟨#[c]⟩, y]) ∧ x.cps[i]? = some c ∧ ∀ ys, SqL K H b ys → ys[i]? = some y,
    fun i H => ∃ ys : List V, SqL K H b ys ∧ i ≤ ys.length ∧ (x.cps.size ≤ i ∨ ys.length ≤ i)⟩
theorem turn_zsL {P : Program} {w : World} {K : PySem.W.Frag} {elts : List Expr} {kk : Nat} {tpos : Pos} {x : Str} {tk0 : Tok} {b zz ti to j1 j2 : Addr} (S : ZsApart zz ti to j1 j2 b) :
    Turn P w K (.Tuple elts kk tpos) (ItzsL K x b) [zz, ti, to, j1, j2] zz (fun i h => i ≤ x.cps.size ∧ IsZip h zz ti to .none ∧ IsTupOf2 h ti (.ref j1) (.ref j2) ∧ (∃ u v, IsTupOf2 h to u v) ∧ h.IsStrIter j1 (strIterType x) x tk0 i ∧ h.IsListIter j2 b i) where
  mem := by simp
  obj := fun i h st c hc => by
    obtain ⟨_, q1, q2, ⟨u, v, q3⟩, ⟨o1, e1, _, d1⟩, ⟨o2, e2, _, d2⟩⟩ := st
    simp only [List.mem_cons, List.not_mem_nil, or_false] at hc
    rcases hc with e | e | e | e | e
    · rw [e]; exact ⟨_, q1, fun v q => nomatch q⟩
    · rw [e]; exact ⟨_, q2, fun v q => nomatch q⟩
    · rw [e]; exact ⟨_, q3, fun v q => nomatch q⟩
    · rw [e]; exact ⟨o1, e1, fun v q => by rw [d1] at q; cases q⟩
    · rw [e]; exact ⟨o2, e2, fun v q => by rw [d2] at q; cases q⟩
  keep := fun i h h' st k => by
    obtain ⟨q0, q1, q2, ⟨u, v, q3⟩, ⟨o1, e1, r1⟩, q5⟩ := st
    exact ⟨q0, k zz (by simp) _ q1, k ti (by simp) _ q2, ⟨u, v, k to (by simp) _ q3⟩, ⟨o1, k j1 (by simp) _ e1, r1⟩, q5.at fun o q => k j2 (by simp) o q⟩
  item := by
    intro X hP hw hK hc i pins s σ H E I hf st hg
    subst hP hw hK
    obtain ⟨q0, q1, q2, ⟨u0, v0, q3⟩, q4, q5⟩ := st
    obtain ⟨ys, hq, hx, hy⟩ := hg
    obtain ⟨its, rv, pq, _⟩ := I.list hq
    have hl := rv.length
    have hh : X.A.in1.handled = none := I.ok.hd hc
    have yi : ys[i]? = some ys[i] := List.getElem?_eq_getElem hy
    have lz : zz < s.heap.objs.size := Heap.lt_size q1
    refine wpAny_pyNext_zipD2_item S.sep (Draws.text hh j1 x tk0) (Draws.list hh j2 b S.bj its.toArray) q1 q2 q3 q4 ⟨q5, pq.isList⟩ hx (by simp; omega) fun x1 x2 h' tk p1 p2 r1 r2 r3 r4 r5 r6 r7 => ?_
    obtain ⟨c, uc, hcx, rfl⟩ := p1
    obtain ⟨v2, hv2, rv2⟩ := rv.get yi
    have ev : x2 = v2 := by
      have z : its[i]? = some x2 := by simpa using p2
      rw [hv2] at z
      exact (Option.some.inj z).symm
    subst ev
    refine ⟨_, rfl, wpAny_letOwnedTupleGo_zip (s := { s with heap := h', toks := tk }) r1 fun h2 z2 sb => ?_⟩
    have at2 : h2.get? s.heap.objs.size = some { cls := .type "tuple", data := .seq #[.str ⟨#[c]⟩ uc, x2] } := (sb.2 _ (Nat.ne_of_gt lz)).trans r5
    have mk : ObjOk X.prog X.w (upd H s.heap.objs.size (.tup [.str ⟨#[c]⟩, ys[i]])) h2 s.heap.objs.size (.tup [.str ⟨#[c]⟩, ys[i]]) :=
      ⟨by show 2 ≤ sizeLine; decide, [.str ⟨#[c]⟩ uc, x2], .cons ⟨uc, rfl⟩ (.cons rv2 .nil), ⟨_, at2, rfl, _, rfl⟩⟩
    have I1 : Inv X pins σ (upd H s.heap.objs.size (.tup [.str ⟨#[c]⟩, ys[i]])) { s with heap := h2, toks := tk } :=
      I.turnedNew (t' := tk) (ch := [zz, ti, to, j1, j2]) (fun d o hb q => (sb.2 d (fun e => hb (by simp [e]))).trans (r7 d o (fun e => hb (by simp [e])) (fun e => hb (by simp [e])) (fun e => hb (by simp [e])) (fun e => hb (by simp [e])) q)) hf (Nat.le_refl _) mk
    refine ⟨.ref s.heap.objs.size, _, I1, rfl, ⟨_, c, ys[i], rfl, I.hok.fresh (Nat.le_refl _), rfl, hcx, fun l hl => by rw [I.list_inj hl hq]; exact yi⟩, ⟨hx, z2, ?_, ⟨.str ⟨#[c]⟩ uc, x2, ?_⟩, ?_, ?_⟩, fun d hcm => ?_⟩
    · exact (sb.2 _ S.sep.TIz).trans (r7 _ _ S.sep.TIz S.sep.TITO S.sep.TIi1 S.sep.TIi2 q2)
    · exact (sb.2 _ S.sep.TOz).trans r2
    · obtain ⟨o1, e1, rr⟩ := r3
      exact ⟨o1, (sb.2 _ S.sep.zi1.symm).trans e1, rr⟩
    · exact r4.1.at fun o q => (sb.2 _ S.sep.zi2.symm).trans q
    · have hlt : d < s.heap.objs.size := by
        obtain ⟨o1, e1, _⟩ := q4
        obtain ⟨o2, e2, _⟩ := q5
        simp only [List.mem_cons, List.not_mem_nil, or_false] at hcm
        rcases hcm with e | e | e | e | e
        · rw [e]; exact lz
        · rw [e]; exact Heap.lt_size q2
        · rw [e]; exact Heap.lt_size q3
        · rw [e]; exact Heap.lt_size e1
        · rw [e]; exact Heap.lt_size e2
      rw [upd_ne (Nat.ne_of_lt hlt)]
      exact (hf d hcm).1
  done := by
    intro X hP hw hK hc i pins s σ H E I hf st hg
    subst hP hw hK
    obtain ⟨q0, q1, q2, ⟨u0, v0, q3⟩, q4, q5⟩ := st
    obtain ⟨ys, hq, hle, hend⟩ := hg
    obtain ⟨its, rv, pq, _⟩ := I.list hq
    have hl := rv.length
    have hh : X.A.in1.handled = none := I.ok.hd hc
    refine wpAny_pyNext_zipD2_end S.sep (Draws.text hh j1 x tk0) (Draws.list hh j2 b S.bj its.toArray) q1 q2 q3 q4 ⟨q5, pq.isList⟩ q0 (by simp; omega) (by simp; omega) fun h' tk r7 => ?_
    exact ⟨rfl, I.turnedL (t' := tk) (ch := [zz, ti, to, j1, j2]) (fun d o hb q => r7 d o (fun e => hb (by simp [e])) (fun e => hb (by simp [e])) (fun e => hb (by simp [e])) (fun e => hb (by simp [e])) q) hf⟩
  self := fun A i s Q E st h => wpAny_pyIter_zip st.2.1 h
/-- the signs of x and the items at b as they stand at each turn, in new pairs -/
def ItzsT (K : PySem.W.Frag) (x : Str) (b : Addr) : It :=
  ⟨fun i H => ∃ ys : List V, SqT K H b ys ∧ i < x.cps.size ∧ i < ys.length,
    fun i H v H' => ∃ (p : Addr) (c : Nat) (y : V), v = .ref p ∧ H p = none ∧ H' = upd H p (.tup [.str ⟨#[c]⟩, y]) ∧ x.cps[i]? = some c ∧ ∀ ys, SqT K H b ys → ys[i]? = some y,
    fun i H => ∃ ys : List V, SqT K H b ys ∧ i ≤ ys.length ∧ (x.cps.size ≤ i ∨ ys.length ≤ i)⟩
theorem turn_zsT {P : Program} {w : World} {K : PySem.W.Frag} {elts : List Expr} {kk : Nat} {tpos : Pos} {x : Str} {tk0 : Tok} {b zz ti to j1 j2 : Addr} (S : ZsApart zz ti to j1 j2 b) :
    Turn P w K (.Tuple elts kk tpos) (ItzsT K x b) [zz, ti, to, j1, j2] zz (fun i h => i ≤ x.cps.size ∧ IsZip h zz ti to .none ∧ IsTupOf2 h ti (.ref j1) (.ref j2) ∧ (∃ u v, IsTupOf2 h to u v) ∧ h.IsStrIter j1 (strIterType x) x tk0 i ∧ h.IsTupleIter j2 b i) where
  mem := by simp
  obj := fun i h st c hc => by
    obtain ⟨_, q1, q2, ⟨u, v, q3⟩, ⟨o1, e1, _, d1⟩, ⟨o2, e2, _, d2⟩⟩ := st
    simp only [List.mem_cons, List.not_mem_nil, or_false] at hc
    rcases hc with e | e | e | e | e
    · rw [e]; exact ⟨_, q1, fun v q => nomatch q⟩
    · rw [e]; exact ⟨_, q2, fun v q => nomatch q⟩
    · rw [e]; exact ⟨_, q3, fun v q => nomatch q⟩
    · rw [e]; exact ⟨o1, e1, fun v q => by rw [d1] at q; cases q⟩
    · rw [e]; exact ⟨o2, e2, fun v q => by rw [d2] at q; cases q⟩
  keep := fun i h h' st k => by
    obtain ⟨q0, q1, q2, ⟨u, v, q3⟩, ⟨o1, e1, r1⟩, q5⟩ := st
    exact ⟨q0, k zz (by simp) _ q1, k ti (by simp) _ q2, ⟨u, v, k to (by simp) _ q3⟩, ⟨o1, k j1 (by simp) _ e1, r1⟩, q5.at fun o q => k j2 (by simp) o q⟩
  item := by
    intro X hP hw hK hc i pins s σ H E I hf st hg
    subst hP hw hK
    obtain ⟨q0, q1, q2, ⟨u0, v0, q3⟩, q4, q5⟩ := st
    obtain ⟨ys, hq, hx, hy⟩ := hg
    obtain ⟨its, rv, pq, _⟩ := I.tuple hq
    have hl := rv.length
    have hh : X.A.in1.handled = none := I.ok.hd hc
    have yi : ys[i]? = some ys[i] := List.getElem?_eq_getElem hy
    have lz : zz < s.heap.objs.size := Heap.lt_size q1
    refine wpAny_pyNext_zipD2_item S.sep (Draws.text hh j1 x tk0) (Draws.tuple hh j2 b S.bj its.toArray) q1 q2 q3 q4 ⟨q5, pq⟩ hx (by simp; omega) fun x1 x2 h' tk p1 p2 r1 r2 r3 r4 r5 r6 r7 => ?_
    obtain ⟨c, uc, hcx, rfl⟩ := p1
    obtain ⟨v2, hv2, rv2⟩ := rv.get yi
    have ev : x2 = v2 := by
      have z : its[i]? = some x2 := by simpa using p2
      rw [hv2] at z
      exact (Option.some.inj z).symm
    subst ev
    refine ⟨_, rfl, wpAny_letOwnedTupleGo_zip (s := { s with heap := h', toks := tk }) r1 fun h2 z2 sb => ?_⟩
    have at2 : h2.get? s.heap.objs.size = some { cls := .type "tuple", data := .seq #[.str ⟨#[c]⟩ uc, x2] } := (sb.2 _ (Nat.ne_of_gt lz)).trans r5
    have mk : ObjOk X.prog X.w (upd H s.heap.objs.size (.tup [.str ⟨#[c]⟩, ys[i]])) h2 s.heap.objs.size (.tup [.str ⟨#[c]⟩, ys[i]]) :=
      ⟨by show 2 ≤ sizeLine; decide, [.str ⟨#[c]⟩ uc, x2], .cons ⟨uc, rfl⟩ (.cons rv2 .nil), ⟨_, at2, rfl, _, rfl⟩⟩
    have I1 : Inv X pins σ (upd H s.heap.objs.size (.tup [.str ⟨#[c]⟩, ys[i]])) { s with heap := h2, toks := tk } :=
      I.turnedNew (t' := tk) (ch := [zz, ti, to, j1, j2]) (fun d o hb q => (sb.2 d (fun e => hb (by simp [e]))).trans (r7 d o (fun e => hb (by simp [e])) (fun e => hb (by simp [e])) (fun e => hb (by simp [e])) (fun e => hb (by simp [e])) q)) hf (Nat.le_refl _) mk
    refine ⟨.ref s.heap.objs.size, _, I1, rfl, ⟨_, c, ys[i], rfl, I.hok.fresh (Nat.le_refl _), rfl, hcx, fun l hl => by rw [I.tuple_inj hl hq]; exact yi⟩, ⟨hx, z2, ?_, ⟨.str ⟨#[c]⟩ uc, x2, ?_⟩, ?_, ?_⟩, fun d hcm => ?_⟩
    · exact (sb.2 _ S.sep.TIz).trans (r7 _ _ S.sep.TIz S.sep.TITO S.sep.TIi1 S.sep.TIi2 q2)
    · exact (sb.2 _ S.sep.TOz).trans r2
    · obtain ⟨o1, e1, rr⟩ := r3
      exact ⟨o1, (sb.2 _ S.sep.zi1.symm).trans e1, rr⟩
    · exact r4.1.at fun o q => (sb.2 _ S.sep.zi2.symm).trans q
    · have hlt : d < s.heap.objs.size := by
        obtain ⟨o1, e1, _⟩ := q4
        obtain ⟨o2, e2, _⟩ := q5
        simp only [List.mem_cons, List.not_mem_nil, or_false] at hcm
        rcases hcm with e | e | e | e | e
        · rw [e]; exact lz
        · rw [e]; exact Heap.lt_size q2
        · rw [e]; exact Heap.lt_size q3
        · rw [e]; exact Heap.lt_size e1
        · rw [e]; exact Heap.lt_size e2
      rw [upd_ne (Nat.ne_of_lt hlt)]
      exact (hf d hcm).1
  done := by
    intro X hP hw hK hc i pins s σ H E I hf st hg
    subst hP hw hK
    obtain ⟨q0, q1, q2, ⟨u0, v0, q3⟩, q4, q5⟩ := st
    obtain ⟨ys, hq, hle, hend⟩ := hg
    obtain ⟨its, rv, pq, _⟩ := I.tuple hq
    have hl := rv.length
    have hh : X.A.in1.handled = none := I.ok.hd hc
    refine wpAny_pyNext_zipD2_end S.sep (Draws.text hh j1 x tk0) (Draws.tuple hh j2 b S.bj its.toArray) q1 q2 q3 q4 ⟨q5, pq⟩ q0 (by simp; omega) (by simp; omega) fun h' tk r7 => ?_
    exact ⟨rfl, I.turnedL (t' := tk) (ch := [zz, ti, to, j1, j2]) (fun d o hb q => r7 d o (fun e => hb (by simp [e])) (fun e => hb (by simp [e])) (fun e => hb (by simp [e])) (fun e => hb (by simp [e])) q) hf⟩
  self := fun A i s Q E st h => wpAny_pyIter_zip st.2.1 h
def iZipS (K : PySem.W.Frag) (ta : TA) : TI := fun σ H R => ta σ H fun vs H1 => ∃ (x : Str) (b : Addr) (ys : List V), vs = [.str x, .ref b] ∧ ((SqL K H1 b ys ∧ R (ItzsL K x b) H1) ∨ (SqT K H1 b ys ∧ R (ItzsT K x b) H1))
theorem pi_zipS {X : Cx} {e e2 : Expr} {ta : TA} {p pos tpos : Pos} {elts : List Expr} {kk : Nat} (hg : Gl X "zip") (hm : X.mg "zip" = none) (ha : PA X [e, e2] ta)
    (hs : starEach [e, e2] X.env = (false, eval e X.env) :: starEach [e2] X.env) (hpl : (backTo pos (starEach [e2] X.env)).any (·.1) = false) :
    PI X (.Tuple elts kk tpos) (.Call (.Name "zip" p) [e, e2] [] pos) (iZipS X.K ta) := by
  refine ⟨fun pins s σ H R I h => ?_⟩
  refine Call_ (ld_blt I hg hm PyProof.Rows.boot_zip (PyProof.Rows.callWith_type1 (thn (ha.run pos pins s σ H _ I h) fun us s1 ⟨vs, H1, I1, r1, q1⟩ => ?_) hs hpl))
  obtain ⟨x, b, ys, ev, q1⟩ := q1
  subst ev
  obtain ⟨u1, u2, rfl, ra, rb⟩ := r1.two
  obtain ⟨tk, rfl⟩ := ra
  cases rb
  have five : ∀ c, c ∈ [s1.heap.objs.size + 4, s1.heap.objs.size + 2, s1.heap.objs.size + 3, s1.heap.objs.size, s1.heap.objs.size + 1] → FpOk X pins H1 c := fun c hcm => by
    have hle : s1.heap.objs.size ≤ c := by
      simp only [List.mem_cons, List.not_mem_nil, or_false] at hcm
      rcases hcm with e | e | e | e | e <;> rw [e] <;> first | exact Nat.le_add_right _ _ | exact Nat.le_refl _
    exact I1.fpOk hle (I1.hok.fresh hle)
  rcases q1 with ⟨hq, q⟩ | ⟨hq, q⟩
  · obtain ⟨its, rv, pq, _⟩ := I1.list hq
    refine zip_begins2 (begins_text x tk) (begins_list b its.toArray) trivial pq.isList fun h' r1 r2 r3 r4 r5 r6 r7 => wpAny_pyIter_zip r1 ?_
    have I2 : Inv X pins σ H1 { s1 with heap := h' } := I1.kept (t' := s1.toks) r7
    exact ⟨s1.heap.objs.size + 4, _, _, _, H1, rfl, I2, turn_zsL (zs_apart s1.heap.objs.size b pq.lt), ⟨Nat.zero_le _, r1, r2, ⟨_, _, r3⟩, ⟨_, r4, rfl, rfl⟩, ⟨_, r5, rfl, rfl⟩⟩, five, q⟩
  · obtain ⟨its, rv, pq, _⟩ := I1.tuple hq
    obtain ⟨o2, ho2, _⟩ := id pq
    refine zip_begins2 (begins_text x tk) (begins_tuple b its.toArray) trivial (show s1.heap.IsTuple b its.toArray from pq) fun h' r1 r2 r3 r4 r5 r6 r7 => wpAny_pyIter_zip r1 ?_
    have I2 : Inv X pins σ H1 { s1 with heap := h' } := I1.kept (t' := s1.toks) r7
    exact ⟨s1.heap.objs.size + 4, _, _, _, H1, rfl, I2, turn_zsT (zs_apart s1.heap.objs.size b (Heap.lt_size ho2)), ⟨Nat.zero_le _, r1, r2, ⟨_, _, r3⟩, ⟨_, r4, rfl, rfl⟩, ⟨_, r5, rfl, rfl⟩⟩, five, q⟩
end DL
end

section
/-! zip of a text and a sequence, over data; dicts of the module with text keys. -/
namespace DL
open PySem PySem.Spec L2
section
variable {X : Cx} {T : List (Addr × Str)} {A : Anc} {ρ : Ev} {a b e e2 : Expr} {es : List Expr} {C : CD} {pos p tpos : Pos}
theorem chrs_len (x : Str) : (chrs x).length = x.cps.size := by unfold chrs; rw [List.length_map, Array.length_toList]
theorem chrs_get {x : Str} {i c : Nat} (h : x.cps[i]? = some c) : (chrs x)[i]? = some (.str ⟨#[c]⟩) := by
  unfold chrs
  rw [List.getElem?_map, Array.getElem?_toList, h]
  rfl
theorem yields_zsL {F : Hp} {ws : List Addr} {x : Str} {q : Addr} {ys : List V} {ds : List D} (h : SqL X.K F q ys) (t : Rs X.K F ws ys ds) : Yields X T A (ItzsL X.K x q) F ws (zipOf (chrs x) ds) := by
  refine ⟨fun i F1 H1 s1 s2 l => ?_, fun i F1 H1 s1 s2 l => ?_, fun i d F1 H1 σ ρ v H2 e s1 ok w y => ?_⟩
  · rw [zipOf_len, chrs_len] at l
    exact ⟨ys, sqL_mono (s1.trans s2) h, by omega, by rw [t.len]; omega⟩
  · rw [zipOf_len, chrs_len] at l
    exact ⟨ys, sqL_mono (s1.trans s2) h, by rw [t.len]; omega, by rw [t.len]; omega⟩
  · obtain ⟨tp, c, u, rfl, hn, rfl, y1, y2⟩ := y
    rw [zipOf_get, chrs_get y1] at e
    obtain ⟨d2, f2, r2⟩ := t.getV (y2 ys (sqL_mono (s1.trans ok.sub) h))
    rw [f2] at e
    cases e
    exact ok.newT (vs := [.str ⟨#[c]⟩, u]) (ds := [.str ⟨#[c]⟩, d2]) (.cons (.str _) (.cons (R.mono s1 w _ _ r2) .nil)) hn
theorem yields_zsT {F : Hp} {ws : List Addr} {x : Str} {q : Addr} {ys : List V} {ds : List D} (h : SqT X.K F q ys) (t : Rs X.K F ws ys ds) : Yields X T A (ItzsT X.K x q) F ws (zipOf (chrs x) ds) := by
  refine ⟨fun i F1 H1 s1 s2 l => ?_, fun i F1 H1 s1 s2 l => ?_, fun i d F1 H1 σ ρ v H2 e s1 ok w y => ?_⟩
  · rw [zipOf_len, chrs_len] at l
    exact ⟨ys, sqT_mono (s1.trans s2) h, by omega, by rw [t.len]; omega⟩
  · rw [zipOf_len, chrs_len] at l
    exact ⟨ys, sqT_mono (s1.trans s2) h, by rw [t.len]; omega, by rw [t.len]; omega⟩
  · obtain ⟨tp, c, u, rfl, hn, rfl, y1, y2⟩ := y
    rw [zipOf_get, chrs_get y1] at e
    obtain ⟨d2, f2, r2⟩ := t.getV (y2 ys (sqT_mono (s1.trans ok.sub) h))
    rw [f2] at e
    cases e
    exact ok.newT (vs := [.str ⟨#[c]⟩, u]) (ds := [.str ⟨#[c]⟩, d2]) (.cons (.str _) (.cons (R.mono s1 w _ _ r2) .nil)) hn
theorem di_zipS {C : CL} {elts : List Expr} {kk : Nat} (hm : X.mg "zip" = none) (h : DA X T A ρ [a, e2] (fun es ρ1 => ∃ (x : Str) (d : D) (ds : List D), es = [.str x, d] ∧ (seqL d = some ds ∨ d = .tup ds) ∧ C (zipOf (chrs x) ds) ρ1)) (hg : Gl X "zip" := by rfl) (hs : starEach [a, e2] X.env = (false, eval a X.env) :: starEach [e2] X.env := by rfl) (hpl : (backTo pos (starEach [e2] X.env)).any (·.1) = false := by rfl) :
    DI X T A ρ (.Tuple elts kk tpos) (.Call (.Name "zip" p) [a, e2] [] pos) C :=
  ⟨⟨fun pins s σ H R I ⟨F, ok, q⟩ => (pi_zipS hg hm (pa_go (T := T) (A := A)) hs hpl).run pins s σ H R I ⟨ρ, _, h, F, ok, fun es ρ1 ⟨x, d, ds, ee, ed, c⟩ vs F1 H1 s1 w1 ok1 r1 => by
    subst ee
    obtain ⟨v, u, rfl, r, r'⟩ := r1.two
    cases r
    rcases ed with ed | rfl
    · obtain ⟨qb, ys, rfl, h2, t2⟩ := seqL_of (Same.refl _) r' ed
      exact ⟨x, qb, ys, rfl, .inl ⟨sqL_mono ok1.sub h2, q _ _ c _ F1 H1 s1 w1 ok1 (yields_zsL h2 t2)⟩⟩
    · cases r' with
      | tup h2 t2 => exact ⟨x, _, _, rfl, .inr ⟨sqT_mono ok1.sub h2, q _ _ c _ F1 H1 s1 w1 ok1 (yields_zsT h2 t2)⟩⟩⟩⟩⟩
/-! ### dicts of the module -/
theorem de_globR {x : Str} {d : Addr} (hm : X.mg x = some (.ref d)) (h : C (.ref d) ρ) (hg : Gl X x := by rfl) (hd : (x == ("__debug__" : Str)) = false := by decide) : DE X T A ρ (.Name x pos) C :=
  DE.of (pe_glob (v := .ref d) hg hm rfl hd) fun σ H Q F ok q => q _ _ h _ F H (Same.refl _) rfl ok .ref
/-- z in d -/
def inKd (K : PySem.W.Frag) (d : Addr) (f : Bool → Bool) : D → D → CD → Ev → Prop := fun d1 d2 C ρ => ∃ (z : Str) (r : Option Value), d1 = .str z ∧ d2 = .ref d ∧ PySem.W.nsIn K d z = some r ∧ C (.bl (f r.isSome)) ρ
theorem lk_inKd {d : Addr} : Lk X T A (fun x y H Q => ∃ (z : Str) (r : Option Value), x = .str z ∧ y = .ref d ∧ PySem.W.nsIn X.K d z = some r ∧ Q (.bl r.isSome) H) (inKd X.K d id) := by
  intro d1 d2 C F H σ ρ x y Q ⟨z, r, e1, e2, e3, c⟩ ok r1 r2 q
  subst e1
  subst e2
  cases r1
  cases r2
  exact ⟨z, r, rfl, rfl, e3, q _ _ c _ F H (Same.refl _) rfl ok (.bl _)⟩
theorem lk_ninKd {d : Addr} : Lk X T A (fun x y H Q => ∃ (z : Str) (r : Option Value), x = .str z ∧ y = .ref d ∧ PySem.W.nsIn X.K d z = some r ∧ Q (.bl (!r.isSome)) H) (inKd X.K d not) := by
  intro d1 d2 C F H σ ρ x y Q ⟨z, r, e1, e2, e3, c⟩ ok r1 r2 q
  subst e1
  subst e2
  cases r1
  cases r2
  exact ⟨z, r, rfl, rfl, e3, q _ _ c _ F H (Same.refl _) rfl ok (.bl _)⟩
theorem de_ninKd {d : Addr} {ee : Array DictEntry} {n : Nat} (D : KDict X.K X.w d ee n) (h : In2 X T A ρ a b (inKd X.K d not) C) (hm : behindInMarks .NotIn b = false := by rfl) : DE X T A ρ (.Compare a [.NotIn] [b] pos) C := de_cmp (op_notIn_kd D) lk_ninKd hm h
theorem dt_ninKd {d : Addr} {ee : Array DictEntry} {n : Nat} {B : CB} (D : KDict X.K X.w d ee n) (h : In2 X T A ρ a b (inKd X.K d not) (asB B)) (hm : behindInMarks .NotIn b = false := by rfl) : DT X T A ρ (.Compare a [.NotIn] [b] pos) B := dt_cmp (op_notIn_kd D) lk_ninKd hm h
/-- d[z] -/
theorem pe_kd {o i : Expr} {td ty : TE} {d : Addr} {ee : Array DictEntry} {n : Nat} (D : KDict X.K X.w d ee n) (ho : PE X o td) (hi : PE X i ty) (hs : NoSl i) :
    PE X (.Subscript o i pos) (fun σ H Q => td σ H fun x H1 => ty σ H1 fun y H2 => ∃ (z : Str) (u0 : Value) (v0 : V), x = .ref d ∧ y = .str z ∧ PySem.W.nsIn X.K d z = some (some u0) ∧ RelV v0 u0 ∧ Q v0 H2) := by
  refine ⟨fun pins s σ H Q I h => ?_⟩
  refine subD_of PySem.F.slot_dict_getitem.lookup hs (thn (ho.run pins s σ H _ I h) fun u s1 ⟨x, H1, I1, rx, q1⟩ => thn (hi.run pins s1 σ H1 _ I1 q1) fun iv s2 ⟨y, H2, I2, ry, z, u0, v0, ex, ey, en, rv, q2⟩ => ?_)
  subst ex
  subst ey
  obtain rfl : u = Value.ref d := rx
  exact ⟨kd_type D I2, op_item_kd D pins s2 σ H2 (.ref d) (.str z) _ iv Q I2 rfl ry ⟨z, u0, v0, rfl, rfl, en, rv, q2⟩⟩
theorem de_ixKd {d : Addr} {ee : Array DictEntry} {n : Nat} (D : KDict X.K X.w d ee n) (h : In2 X T A ρ a b (fun d1 d2 C ρ => ∃ (z y : Str) (t : Tok), d1 = .ref d ∧ d2 = .str z ∧ PySem.W.nsIn X.K d z = some (some (.str y t)) ∧ C (.str y) ρ) C) (hs : NoSl b := by exact fun _ _ => rfl) : DE X T A ρ (.Subscript a b pos) C :=
  DE.of (pe_kd D (pe_go (T := T) (A := A)) (pe_go (T := T) (A := A)) hs) fun σ H Q F ok q => ⟨ρ, _, h, F, ok, fun d1 ρ1 h1 x F1 H1 s1 w1 ok1 r1 => ⟨ρ1, _, h1, F1, ok1, fun d2 ρ2 ⟨z, y, t, e1, e2, e3, c⟩ u F2 H2 s2 w2 ok2 r2 => by
    subst e1
    subst e2
    cases r1
    cases r2
    exact ⟨z, .str y t, .str y, rfl, rfl, e3, ⟨t, rfl⟩, q _ _ c _ F2 H2 (s1.trans s2) (w2.trans w1) ok2 (.str y)⟩⟩⟩
/-- z[i], a sign of a text -/
def ixSg : D → D → CD → Ev → Prop := fun d1 d2 C ρ => ∃ (z : Str) (i : Int) (c : Nat), d1 = .str z ∧ d2 = .int i ∧ z.length ≤ sizeLine ∧ atI z.cps.toList i = some c ∧ C (.str ⟨#[c]⟩) ρ
theorem lk_ixSg : Lk X T A rIxS ixSg := by
  intro d1 d2 C F H σ ρ x y Q ⟨z, i, c, e1, e2, hz, ha, h⟩ ok r1 r2 q
  subst e1
  subst e2
  cases r1
  cases r2
  exact ⟨z, i, c, rfl, rfl, hz, ha, q _ _ h _ F H (Same.refl _) rfl ok (.str _)⟩
theorem de_ixS (h : In2 X T A ρ a b ixSg C) (hs : PlainIx b := by exact fun _ _ => rfl) : DE X T A ρ (.Subscript a b pos) C := DE.of (pe_ix ix_str pe_go pe_go hs) (go2 lk_ixSg h)
end
end DL
end

section
/-! x.pop() of an own list, *e in a list, e[::-1], list(range(e)). -/
namespace DL
open PySem PySem.Spec L2
theorem Rs.rev {K : PySem.W.Frag} {F : Hp} {ws : List Addr} : ∀ {ds : List D} {vs : List V}, Rs K F ws vs ds → Rs K F ws vs.reverse ds.reverse
  | [], _, r => by cases r; exact .nil
  | d :: ds, _, r => by
    cases r with
    | cons r t =>
      rw [List.reverse_cons, List.reverse_cons]
      exact (Rs.rev t).app (.cons r .nil)
section
variable {X : Cx} {T : List (Addr × Str)} {A : Anc} {ρ : Ev} {e : Expr} {es : List Expr} {C : CD} {x : Str} {i : Nat} {p p1 p2 p3 pos : Pos}
theorem de_pop (h : ownAt ρ i fun a ds => ∃ rest d, ds = rest ++ [d] ∧ C d (ρ.put i (.own a rest)))
    (hi : slotOf X.N x = some i := by rfl) (hv : Vis X.env.scope x := by first | exact Or.inl rfl | exact Or.inr (Or.inl rfl) | exact Or.inr (Or.inr rfl)) (hd : (x == ("__debug__" : Str)) = false := by decide) (hcd : (x == ("__classdict__" : Str)) = false := by decide)
    (hbase : attributeBase (.Name x p1) "pop" X.env (eval (.Name x p1) X.env) = eval (.Name x p1) X.env := by rfl)
    (hline : (p2.endLine == p3.line) = true := by rfl) : DE X T A ρ (.Call (.Attribute (.Name x p1) "pop" p2) [] [] p3) C :=
  DE.of (pe_bm0 F.plainAttrs_list F.slot_list_pop F.type_list_pop (mt_pop (X := X)) (pvS hi hv hd hcd) hbase hline) fun σ H Q F ok q => by
    obtain ⟨a, ds, e0, rest, d, ed, c⟩ := ownAt_ok h
    obtain ⟨f1, f2, f3, vs, f4, f5⟩ := ok.ownL e0
    subst ed
    have hl : vs.length = rest.length + 1 := by rw [f5.len, List.length_append]; rfl
    obtain ⟨v, ev, rv⟩ := Rs.get (i := rest.length) (d := d) f5 (by rw [List.getElem?_append_right (Nat.le_refl _), Nat.sub_self]; rfl)
    have f6 : Rs X.K F ρ.ws vs.dropLast rest := by
      have := f5.take rest.length
      rw [List.take_left] at this
      rw [List.dropLast_eq_take, hl]
      exact this
    have c2 := q d _ c
    refine ⟨.ref a, ok.ownSL e0, .inl ⟨rfl, _, .of f4⟩, a, vs, v, rfl, rfl, f4, by rw [hl]; exact ev, ?_⟩
    exact c2 v F _ (Same.refl _) rfl (ok.ownUpd e0 f6) rv
theorem da_star {C : CL} (h : DE X T A ρ e (fun d ρ1 => ∃ ds, seqD d = some ds ∧ DA X T A ρ1 es (fun fs ρ2 => C (ds ++ fs) ρ2))) (hs : starEach (.Starred e p :: es) X.env = (true, eval e X.env) :: starEach es X.env := by rfl) : DA X T A ρ (.Starred e p :: es) C :=
  DA.of (StX.pa_star (pe_go (T := T) (A := A)) (pa_go (T := T) (A := A)) hs) fun σ H Q F ok q => by
    refine ⟨ρ, _, h, F, ok, fun d ρ1 ⟨ds, ed, h1⟩ v1 F1 H1 s1 w1 ok1 r1 => ?_⟩
    obtain ⟨a, xs, ev, sq, t⟩ := seq_of ok1.sub r1 ed
    refine ⟨a, xs, ev, sq.symm, ρ1, _, h1, F1, ok1, fun fs ρ2 c vs F2 H2 s2 w2 ok2 r2 => ?_⟩
    refine q _ _ c _ F2 H2 (s1.trans s2) (w2.trans w1) ok2 ?_
    have t2 := t.mo s2
    rw [← w2] at t2
    exact t2.app r2
theorem dv_rev {C : CV} {k : Nat} {p4 : Pos} (h : DE X T A ρ e (fun d ρ1 => ∃ ds, seqL d = some ds ∧ ∀ a, C (.l a ds.reverse) ρ1)) : DV X T A ρ (.Subscript e (.Slice none none (some (.UnaryOp .USub (.Constant (.int 1) k p1) p2)) p3) p4) C :=
  DV.of (pe_revL (pe_go (T := T) (A := A))) fun σ H Q F ok q => by
    refine ⟨ρ, _, h, F, ok, fun d ρ1 ⟨ds, ed, h1⟩ v1 F1 H1 s1 w1 ok1 r1 => ?_⟩
    obtain ⟨a, xs, ev, sq, t⟩ := seqL_of ok1.sub r1 ed
    refine ⟨a, xs, ev, sq, fun p hp => ?_⟩
    obtain ⟨ok3, g3⟩ := ok1.mine hp t.rev
    exact q _ _ (h1 p) _ F1 _ s1 w1 ok3 g3
theorem dv_lstRg {C : CV} {pr : Pos} (hc : X.calm = true) (hm : X.mg "list" = none) (hm2 : X.mg "range" = none) (h : DE X T A ρ e (fun d ρ1 => ∃ n : Nat, d = .int (n : Int) ∧ n ≤ 16777216 ∧ ∀ a, C (.l a (rngD 0 n)) ρ1)) (hg : Gl X "list" := by rfl) (hg2 : Gl X "range" := by rfl)
    (na : starEach [e] X.env = (false, eval e X.env) :: starEach [] X.env := by rfl) (na2 : starEach [.Call (.Name "range" p) [e] [] p1] X.env = (false, eval (.Call (.Name "range" p) [e] [] p1) X.env) :: starEach [] X.env := by rfl) :
    DV X T A ρ (.Call (.Name "list" pr) [.Call (.Name "range" p) [e] [] p1] [] p2) C :=
  DV.of (pe_listRg hc hg hm (prg_1 hg2 hm2 (pe_go (T := T) (A := A)) na) na2) fun σ H Q F ok q => by
    refine ⟨ρ, _, h, F, ok, fun d ρ1 ⟨n, ed, hn, h1⟩ v1 F1 H1 s1 w1 ok1 r1 => ?_⟩
    subst ed
    cases r1
    refine ⟨n, rfl, .of_le (by omega) (by omega) (by omega) (by omega), fun a hp => ?_⟩
    have rr : Rs X.K F1 ρ1.ws (rgV 0 n) (rngD 0 n) := by
      unfold rgV rngD
      rw [show ((n : Int) - 0).toNat = n by omega]
      generalize List.range n = js
      induction js with
      | nil => exact .nil
      | cons j js ih => exact .cons (.int _) ih
    obtain ⟨ok3, g3⟩ := ok1.mine hp rr
    exact q _ _ (h1 a) _ F1 _ s1 w1 ok3 g3
end
end DL
end

section
/-! own classes: what the head tells of them; methods with a default that is written at each call. -/
namespace DL
open PySem PySem.Spec PyProof.Rows L2 LamX
/-- a def of any defaults -/
structure FunV (K : PySem.W.Frag) (x qual : Str) (st : Stmt) (f : Addr) (fd : FuncData) : Prop where
  ex : ∃ (oc : Value) (od : Option Addr) (dV kV doc pm : Value) (an : Option Addr) (cdv ct : Value) (osl : Array (Option Value)),
    fd = PySem.W.fnOf x qual (defArgs st) (defBody st) (defScope st) dV kV doc pm an cdv ct ∧ K.lookup f = some ⟨oc, od, .func fd, osl⟩ ∧ PySem.W.codeIn K cdv qual = true
section
variable {P : Program} {w : World} {K : PySem.W.Frag} {mg : Str → Option Value} {base : Heap} {T : List (Addr × Str)}
theorem okDv {x qual : Str} {st : Stmt} {f : Addr} {fd : FuncData} {N ps : List Str} {k : Nat} {M : DF} (F : FunV K x qual st f fd) (S : FnScope N ps (defScope st)) (len : ∀ ds g C, M ds g C → ds.length = ps.length)
    (hbody : ∀ (cdv : Value) (A : Around) (outer : List Env) (s : Shared) (H : Hp) (E : XK) (An : Anc) (ds : List D) (g : Nat) (C : Out → Prop), Room k (A.deeper (PyProof.Rows.envOfC qual (defScope st) s.heap.objs.size f cdv)) →
      Takes (bodyCx P w K mg base N qual st f cdv A outer s H E) (WD K T An (excO C)) → M ds g C →
      DSs (bodyCx P w K mg base N qual st f cdv A outer s H E) T An ⟨pad ds (N.length - ds.length), [], An.ws, g⟩ (defBody st) (bodyO An.ws C)) : FnOk P w K mg base (L2.CX P w) (k + 1) f fd ps (spD K T M) := by
  obtain ⟨oc, od, dV, kV, doc, pm, an, cdv, ct, osl, rfl, lk, hcd⟩ := F.ex
  refine fn_of lk hcd S (fun vs H Q E h => ?_) (fun A outer s H vs Q E hr h => ?_)
  · obtain ⟨F', ws, ds, g, C, ok, r, h, _⟩ := h
    rw [r.len]
    exact len _ _ _ h
  · obtain ⟨F', ws, ds, g, C, ok, r, h, h1, h2, h2b, h3⟩ := h
    have tk : Takes (bodyCx P w K mg base N qual st f cdv A outer s H E) (WD K T ⟨F', H, ws⟩ (excO C)) :=
      (takes_of rfl rfl rfl rfl).imp fun cls d σ H' ⟨c, dx, fs, xs, g', F2, e1, e2, ok2, hx, rf, hc⟩ => by
        subst e1
        subst e2
        exact h3 c fs g' hc dx xs F2 H' ok2 hx rf
    have hb := hbody cdv A outer s H E ⟨F', H, ws⟩ ds g C hr tk h
    refine ⟨_, hb.pe, F', ?_, fun ρ' c σ' F2 H2 s2 w2 ok2 => ?_, fun rv ρ' c v σ' F2 H2 ok2 gv => ?_, fun ρ' c => c.elim, fun ρ' c => c.elim⟩
    · exact ok.padded r
    · exact h1 _ _ c .non F2 H2 ok2.drop .non
    · cases rv with
      | v d =>
        obtain ⟨hw, c⟩ := c
        refine h1 _ _ c v F2 H2 ok2.drop ?_
        rcases hw with hw | ⟨b, rfl⟩
        · have gv' : R K F2 ρ'.ws v d := gv
          rw [hw] at gv'
          exact gv'
        · cases (show R K F2 ρ'.ws v (.bl b) from gv)
          exact .bl _
      | l a es =>
        obtain ⟨hw, c⟩ := c
        obtain ⟨rfl, _⟩ := id gv
        exact h2 _ _ c a F2 H2 ok2.drop (gv.bare hw)
      | b a cc =>
        obtain ⟨hw, c⟩ := c
        obtain ⟨rfl, _⟩ := id gv
        exact h2b _ _ c a F2 H2 ok2.drop (gv.bare hw)
end
/-! ### what the head tells -/
structure ClsK (K : PySem.W.Frag) (x : Str) (C : Addr) : Prop where
  ns : PySem.W.nsIn K mainGlobals x = some (some (.ref C))
  own : OwnC K C
  mks : PySem.W.makesIn K C = true
  kp : PySem.W.keepIn K (.ref C) = true
theorem clsK {K : PySem.W.Frag} {x : Str} {C : Addr} (ns : PySem.W.nsIn K mainGlobals x = some (some (.ref C))) (pg : PySem.W.plainGet K C Str.empty = true) (hd : PySem.W.hasDictIn K C = true) (po : PySem.W.plainOver K C = true)
    (sa : PySem.W.findIn K (.ref C) "__setattr__" = some (some (.builtin "object.__setattr__"))) (ha : PySem.W.findIn K (.ref C) "__class__" = some (some (.builtin "object.__class__")))
    (hn : PySem.W.specialIn K (.builtin "object.__class__") "__get__" = some (some (.builtin "getset_descriptor.__get__"))) (ht : PySem.W.takesIn K (.builtin "object.__class__") = some true) (hm : PySem.W.mroIn K C (.type "object") = some true)
    (n1 : PySem.W.kitOne K (.ref C) (.type "int") = some false) (n2 : PySem.W.kitOne K (.ref C) (.type "bool") = some false) (n3 : PySem.W.kitOne K (.ref C) (.type "str") = some false) (n4 : PySem.W.kitOne K (.ref C) (.type "list") = some false)
    (n5 : PySem.W.kitOne K (.ref C) (.type "tuple") = some false) (n6 : PySem.W.kitOne K (.ref C) (.type "dict") = some false) (mk : PySem.W.makesIn K C = true) (kp : PySem.W.keepIn K (.ref C) = true) : ClsK K x C :=
  ⟨ns, ⟨⟨pg, hd, po, sa⟩, ha, hn, ht, hm, fun n hx => by
    simp only [blts, List.mem_cons, List.not_mem_nil, or_false] at hx
    rcases hx with rfl | rfl | rfl | rfl | rfl | rfl
    · exact n1
    · exact n2
    · exact n3
    · exact n4
    · exact n5
    · exact n6⟩, mk, kp⟩
theorem clsI {K : PySem.W.Frag} {C : Addr} (n1 : PySem.W.kitOne K (.type "NoneType") (.ref C) = some false) (n2 : PySem.W.kitOne K (.type "bool") (.ref C) = some false) (n3 : PySem.W.kitOne K (.type "int") (.ref C) = some false) (n4 : PySem.W.kitOne K (.type "str") (.ref C) = some false)
    (n5 : PySem.W.kitOne K (.type "list") (.ref C) = some false) (n6 : PySem.W.kitOne K (.type "tuple") (.ref C) = some false) (n7 : PySem.W.kitOne K (.type "dict") (.ref C) = some false) (n8 : PySem.W.kitOne K (.type "function") (.ref C) = some false) : ClsI K C :=
  ⟨fun n hx => by
    simp only [List.mem_cons, List.not_mem_nil, or_false] at hx
    rcases hx with rfl | rfl | rfl | rfl | rfl | rfl | rfl | rfl
    · exact n1
    · exact n2
    · exact n3
    · exact n4
    · exact n5
    · exact n6
    · exact n7
    · exact n8⟩
/-- a method -/
structure MetK (K : PySem.W.Frag) (C : Addr) (m qual : Str) (st : Stmt) (dvs : List V) (f : Addr) : Prop where
  at_ : PySem.W.findIn K (.ref C) m = some (some (.ref f))
  fn : PySem.W.isFn K (.ref f) = true
  kp : PySem.W.keepIn K (.ref f) = true
  ex : ∃ (oc : Value) (od : Option Addr) (dV kV doc pm : Value) (an : Option Addr) (cdv ct : Value) (osl : Array (Option Value)),
    K.lookup f = some ⟨oc, od, .func (PySem.W.fnOf m qual (defArgs st) (defBody st) (defScope st) dV kV doc pm an cdv ct), osl⟩ ∧ PySem.W.codeIn K cdv qual = true ∧ DflV K dV dvs
theorem metK {K : PySem.W.Frag} {C f : Addr} {m qual : Str} {st : Stmt} {oc : Value} {od : Option Addr} {kV doc pm : Value} {an : Option Addr} {cdv ct : Value} {osl : Array (Option Value)} (at_ : PySem.W.findIn K (.ref C) m = some (some (.ref f))) (fn : PySem.W.isFn K (.ref f) = true) (kp : PySem.W.keepIn K (.ref f) = true)
    (l : K.lookup f = some ⟨oc, od, .func (PySem.W.fnOf m qual (defArgs st) (defBody st) (defScope st) .none kV doc pm an cdv ct), osl⟩) (c : PySem.W.codeIn K cdv qual = true) : ∃ f, MetK K C m qual st [] f :=
  ⟨f, at_, fn, kp, _, _, _, _, _, _, _, _, _, _, l, c, .inl ⟨rfl, rfl⟩⟩
/-- a method with one default, None -/
theorem metKd {K : PySem.W.Frag} {C f D : Addr} {m qual : Str} {st : Stmt} {oc : Value} {od : Option Addr} {kV doc pm : Value} {an : Option Addr} {cdv ct : Value} {osl : Array (Option Value)} {tc : Value} {td : Option Addr} {n : Nat} {ts : Array (Option Value)} (at_ : PySem.W.findIn K (.ref C) m = some (some (.ref f))) (fn : PySem.W.isFn K (.ref f) = true) (kp : PySem.W.keepIn K (.ref f) = true)
    (l : K.lookup f = some ⟨oc, od, .func (PySem.W.fnOf m qual (defArgs st) (defBody st) (defScope st) (.ref D) kV doc pm an cdv ct), osl⟩) (c : PySem.W.codeIn K cdv qual = true) (lT : K.lookup D = some ⟨tc, td, .seq #[Value.none] n, ts⟩) : ∃ f, MetK K C m qual st [.non] f :=
  ⟨f, at_, fn, kp, _, _, _, _, _, _, _, _, _, _, l, c, .inr ⟨by simp, D, _, [Value.none], n, rfl, lT, rfl, .cons rfl .nil⟩⟩
section
variable {P : Program} {w : World} {K : PySem.W.Frag} {mg : Str → Option Value} {base : Heap} {T : List (Addr × Str)} {C f : Addr} {m qual x : Str} {st : Stmt} {ps : List Str} {k : Nat}
theorem MetK.meth {dvs : List V} (d : MetK K C m qual st dvs f) : Meth K C m f := ⟨d.at_, d.fn, d.kp⟩
abbrev BndM (m qual : Str) (st : Stmt) (ps : List Str) : Prop := ∀ (kV doc pm : Value) (an : Option Addr) (cdv ct : Value) (us : List Value), us.length = ps.length → bindArgs (PySem.W.fnOf m qual (defArgs st) (defBody st) (defScope st) .none kV doc pm an cdv ct) ⟨us, []⟩ = pure (ps.zip us)
abbrev BndV (m qual : Str) (st : Stmt) (ps : List Str) : Prop := ∀ (D : Addr) (kV doc pm : Value) (an : Option Addr) (cdv ct : Value) (us its : List Value), us.length = ps.length → its.length = 1 →
  ∃ k, bindArgs (PySem.W.fnOf m qual (defArgs st) (defBody st) (defScope st) (.ref D) kV doc pm an cdv ct) ⟨us, []⟩ = seqItems? (.ref D) >>= k ∧ k (some its.toArray) = pure (ps.zip (us ++ its.drop 1))
theorem knMOf {N : DF} (ow : OwnC K C) (d : ∃ f, MetK K C m qual st [] f) (ok : ∀ f fd, Fun K m qual st f fd → FnOk P w K mg base (L2.CX P w) k f fd ps (spD K T N)) (hb : BndM m qual st ps) : KnM P w K mg base T C m k N [] := by
  obtain ⟨f, d⟩ := d
  obtain ⟨oc, od, dV, kV, doc, pm, an, cdv, ct, osl, l, hc, hD⟩ := d.ex
  rcases hD with ⟨_, rfl⟩ | ⟨z, _⟩
  · exact ⟨ow, f, _, ps, [], [], d.meth, ok f _ (fun_mk l hc d.kp), .all (hb kV doc pm an cdv ct), .nil, fun _ _ => .nil⟩
  · exact absurd rfl z
theorem knMOfV {N : DF} (ow : OwnC K C) (d : ∃ f, MetK K C m qual st [.non] f) (ok : ∀ f fd, FunV K m qual st f fd → FnOk P w K mg base (L2.CX P w) k f fd ps (spD K T N)) (hb : BndV m qual st ps) : KnM P w K mg base T C m k N [] := by
  obtain ⟨f, d⟩ := d
  obtain ⟨oc, od, dV, kV, doc, pm, an, cdv, ct, osl, l, hc, hD⟩ := d.ex
  have F : FunD K m qual (defArgs st) (defBody st) (defScope st) [.non] [] f (PySem.W.fnOf m qual (defArgs st) (defBody st) (defScope st) dV kV doc pm an cdv ct) := ⟨⟨oc, od, dV, kV, doc, pm, an, cdv, ct, osl, rfl, l, hc, hD, .inl rfl⟩, d.kp⟩
  obtain ⟨ds, rv, hB⟩ := F.binds1 (ps := ps) ps.length 1 (by simp) (by simp) hb
  cases rv
  exact ⟨ow, f, _, ps, [], [], d.meth, ok f _ ⟨oc, od, dV, kV, doc, pm, an, cdv, ct, osl, rfl, l, hc⟩, hB, .nil, fun _ _ => .nil⟩
theorem knHOf {N : DFH} (ow : OwnC K C) (d : ∃ f, MetK K C m qual st [] f) (ok : ∀ f fd, Fun K m qual st f fd → FnOk P w K mg base (L2.CX P w) k f fd ps (spH K T N)) (hb : BndM m qual st ps) : KnH P w K mg base T C m k N := by
  obtain ⟨f, d⟩ := d
  obtain ⟨oc, od, dV, kV, doc, pm, an, cdv, ct, osl, l, hc, hD⟩ := d.ex
  rcases hD with ⟨_, rfl⟩ | ⟨z, _⟩
  · exact ⟨ow, f, _, ps, d.meth, ok f _ (fun_mk l hc d.kp), .all (hb kV doc pm an cdv ct)⟩
  · exact absurd rfl z
theorem knCls {N : DF} (X : K.In base) (G : base.Ns mainGlobals mg) (c : ClsK K x C) (d : ∃ f, MetK K C "__init__" qual st [] f) (ok : ∀ f fd, Fun K "__init__" qual st f fd → FnOk P w K mg base (L2.CX P w) k f fd ps (spI K T C N)) (hb : BndM "__init__" qual st ps) : KnC P w K mg base T x C k N := by
  obtain ⟨f, d⟩ := d
  obtain ⟨oc, od, dV, kV, doc, pm, an, cdv, ct, osl, l, hc, hD⟩ := d.ex
  rcases hD with ⟨_, rfl⟩ | ⟨z, _⟩
  · exact ⟨PySem.W.mg_of X G c.ns, f, _, ps, ⟨c.mks, d.at_, d.fn, c.kp⟩, ok f _ (fun_mk l hc d.kp), .all (hb kV doc pm an cdv ct)⟩
  · exact absurd rfl z
end
end DL
end

section
/-! list(range(a, b)) -/
namespace DL
open PySem L2
section
variable {X : Cx} {T : List (Addr × Str)} {A : Anc} {ρ : Ev} {e e2 : Expr} {p p1 p2 : Pos}
theorem dv_lstRg2 {C : CV} {pr : Pos} (hc : X.calm = true) (hm : X.mg "list" = none) (hm2 : X.mg "range" = none) (h : DE X T A ρ e (fun d ρ1 => DE X T A ρ1 e2 (fun d2 ρ2 => ∃ (i : Int) (n : Nat), d = .int i ∧ d2 = .int (i + (n : Int)) ∧ 0 ≤ i ∧ i + (n : Int) ≤ 16777216 ∧ ∀ a, C (.l a (rngD i n)) ρ2))) (hg : Gl X "list" := by rfl) (hg2 : Gl X "range" := by rfl)
    (na : starEach [e, e2] X.env = (false, eval e X.env) :: starEach [e2] X.env := by rfl) (nb : starEach [e2] X.env = (false, eval e2 X.env) :: starEach [] X.env := by rfl) (hp : (backTo p1 (starEach [e2] X.env)).any (·.1) = false := by rfl)
    (na2 : starEach [.Call (.Name "range" p) [e, e2] [] p1] X.env = (false, eval (.Call (.Name "range" p) [e, e2] [] p1) X.env) :: starEach [] X.env := by rfl) :
    DV X T A ρ (.Call (.Name "list" pr) [.Call (.Name "range" p) [e, e2] [] p1] [] p2) C :=
  DV.of (pe_listRg hc hg hm (prg_2 hg2 hm2 (pe_go (T := T) (A := A)) (pe_go (T := T) (A := A)) na nb hp) na2) fun σ H Q F ok q => by
    refine ⟨ρ, _, h, F, ok, fun d ρ1 h1 v1 F1 H1 s1 w1 ok1 r1 => ⟨ρ1, _, h1, F1, ok1, fun d2 ρ2 ⟨i, n, ed, ed2, hi, hn, h2⟩ v2 F2 H2 s2 w2 ok2 r2 => ?_⟩⟩
    subst ed
    subst ed2
    cases r1
    cases r2
    refine ⟨i, i + (n : Int), rfl, rfl, .of_le (by omega) (by omega) (by omega) (by omega), fun a hp => ?_⟩
    have rr : Rs X.K F2 ρ2.ws (rgV i (i + (n : Int))) (rngD i n) := by
      unfold rgV rngD
      rw [show (i + (n : Int) - i).toNat = n by omega]
      generalize List.range n = js
      induction js with
      | nil => exact .nil
      | cons j js ih => exact .cons (.int _) ih
    obtain ⟨ok3, g3⟩ := ok2.mine hp rr
    exact q _ _ (h2 a) _ F2 _ (s1.trans s2) (w2.trans w1) ok3 g3
end
end DL
end

section
/-! x, y = a, b where a name is caught by a block: through a tuple -/
namespace DL
open PySem L2
section
variable {X : Cx} {T : List (Addr × Str)} {A : Anc} {ρ : Ev} {a b : Expr} {x : Str} {pos : Pos} {O : DO}
theorem ds_parC {y : Str} {i j : Nat} {px py pt : Pos} {kt k2 pt2} (hc : X.calm = true) (hN : X.N.Nodup) (h : DV X T A ρ a (fun r1 ρ1 => DV X T A (held r1 ρ1) b (fun r2 ρ2 => ∃ ρ3, ρ2 = held r1 ρ3 ∧ ρ3.ws = ρ1.ws ∧ O.nx ((ρ3.put i (.of r1)).put j (.of r2))))) (hi : slotOf X.N x = some i := by rfl) (hj : slotOf X.N y = some j := by rfl)
    (hx : Loc X.env.scope x := by first | exact Or.inl rfl | exact Or.inr rfl) (hy : Loc X.env.scope y := by first | exact Or.inl rfl | exact Or.inr rfl)
    (fx : X.fn x = true ∨ X.env.scope.names.lookup x = some .local := by first | exact .inl rfl | exact .inr rfl | assumption) (fy : X.fn y = true ∨ X.env.scope.names.lookup y = some .local := by first | exact .inl rfl | exact .inr rfl | assumption)
    (hst : starEach [a, b] X.env = (false, eval a X.env) :: starEach [b] X.env := by rfl) (hst2 : starEach [b] X.env = (false, eval b X.env) :: starEach [] X.env := by rfl)
    (hw : swappedStores [.Tuple [.Name x px, .Name y py] kt pt] (.Tuple [a, b] k2 pt2) X.env = pure none := by rfl)
    (hs : swapsWithSole [.Tuple [.Name x px, .Name y py] kt pt] (.Tuple [a, b] k2 pt2) pos.line X.env = pure false := by rfl)
    (h1 : (assignEach [.Tuple [.Name x px, .Name y py] kt pt] X.env).map (·.2) = [assign (.Tuple [.Name x px, .Name y py] kt pt) X.env] := by rfl)
    (e1 : (assignEach [.Name x px, .Name y py] X.env).map (·.2) = assign (.Name x px) X.env :: (assignEach [.Name y py] X.env).map (·.2) := by rfl) (e2 : (assignEach [.Name y py] X.env).map (·.2) = assign (.Name y py) X.env :: (assignEach [] X.env).map (·.2) := by rfl)
    (hn : (assignEach [.Name x px, .Name y py] X.env).length = 2 := by rfl) (hf : (assignEach [.Name x px, .Name y py] X.env).findIdx? (·.1) = none := by rfl) :
    DS X T A ρ (.Assign [.Tuple [.Name x px, .Name y py] kt pt] (.Tuple [a, b] k2 pt2) pos) O :=
  DS.of (ps_asg (pe_tup (pa_cons pv_go (pa_cons pv_go pa_nil hst2) hst)) (pg_tup hc (pgs_cons (pg_name hN (slotOf_ok hi) hx fx) (pgs_cons (pg_name hN (slotOf_ok hj) hy fy) pgs_nil e2) e1) hn hf) hs hw h1) fun E σ H ⟨F, ok, hn, _⟩ => by
    refine ⟨ρ, _, h, F, ok, fun r1 ρ1 h1 v1 F1 H1 s1 w1 ok1 g1 => ?_⟩
    refine ⟨held r1 ρ1, _, h1, F1, ok1.held g1, fun r2 ρ2 ⟨ρ3, e2, w3, c⟩ v2 F2 H2 s2 w2 ok2 g2 => ?_⟩
    subst e2
    obtain ⟨b1, b2⟩ := ok2.unheld g1 s2 w3
    have b3 : Gv X.K A F2 H2 (ρ3.put i (.of r1)) v2 r2 := gv_put g2 (held_ws _ _)
    refine ⟨by show 2 ≤ sizeLine; decide, fun p hp => ?_⟩
    refine ⟨p, [v1, v2], rfl, .of upd_same, rfl, ?_⟩
    refine ⟨_, _, rfl, _, _, rfl, rfl, ?_⟩
    exact hn _ c _ F2 _ (s1.trans s2) (by rw [show ((ρ3.put i (.of r1)).put j (.of r2)).ws = ρ3.ws from rfl, w3]; exact mem_eq w1) (((b1.put b2).put b3).grow (same_upd hp))
end
end DL
end

section
/-! the law's start where the law itself makes lambdas. -/
namespace DL
open PySem PySem.Spec PyProof.Rows L2 LamX
theorem okRunC {P : Program} {w : World} {K : PySem.W.Frag} {mg : Str → Option Value} {base : Heap} {T : List (Addr × Str)} {x qual : Str} {st : Stmt} {f c0 : Addr} {fd : FuncData} {N ps : List Str} {k : Nat} (F : FunC K x qual st f fd c0) (S : FnScope N ps (defScope st)) {A : Around} {outer : List Env} {s : Shared} {H : Hp} {args : Args} {us : List Value} {vs : List V} {ds : List D} {Q : VK} {E : XK} {Fz : Hp} {g : Nat} {C : Out → Prop}
    (hr : Room (k + 1) A) (e0 : Env0 P w K mg base A outer s H) (hb : BindsTo s fd args (ps.zip us)) (r : Vals vs us) (hl : vs.length = ps.length) (ok : Ok K T ⟨Fz, H, []⟩ Fz H [] (.bare [] g)) (rd : Rs K Fz [] vs ds)
    (hQ : ∀ d g', C (.ret d g') → ∀ v F' H', R K F' [] v d → Q v H') (hN : ∀ ds g', C (.new ds g') → ∀ a H', Q (.ref a) H') (hNB : ∀ c g', C (.newB c g') → ∀ a H', Q (.ref a) H')
    (hbody : Room k (A.deeper (PyProof.Rows.envOfC qual (defScope st) s.heap.objs.size f (.ref c0))) → DSs (bodyCx P w K mg base N qual st f (.ref c0) A outer s H E) T ⟨Fz, H, []⟩ ⟨pad ds (N.length - ds.length), [], [], g⟩ (defBody st) (bodyO [] C)) :
    codeAny (model P w) A (.call (.ref f) args) (CR (L2.CX P w) outer P w H s Q E) s := by
  obtain ⟨oc, od, kV, doc, pm, an, ct, osl, rfl, lk, hcd⟩ := F.ex
  refine run_ofS lk hcd S hr e0 hb r hl fun hr' => ?_
  have hb2 := hbody hr'
  refine ⟨_, hb2.pe, Fz, ?_, fun ρ' c σ' F2 H2 s2 w2 ok2 => ?_, fun rv ρ' c v σ' F2 H2 ok2 gv => ?_, fun ρ' c => c.elim, fun ρ' c => c.elim⟩
  · exact ok.padded rd
  · exact hQ _ _ c .non F2 H2 .non
  · cases rv with
    | v d =>
      obtain ⟨hw, c⟩ := c
      refine hQ _ _ c v F2 H2 ?_
      rcases hw with hw | ⟨b, rfl⟩
      · have gv' : R K F2 ρ'.ws v d := gv
        rw [hw] at gv'
        exact gv'
      · cases (show R K F2 ρ'.ws v (.bl b) from gv)
        exact .bl _
    | l a es =>
      obtain ⟨hw, c⟩ := c
      obtain ⟨rfl, _⟩ := id gv
      exact hN _ _ c a H2
    | b a cc =>
      obtain ⟨hw, c⟩ := c
      obtain ⟨rfl, _⟩ := id gv
      exact hNB _ _ c a H2
end DL
end

set_option hygiene false
local macro_rules | `(tactic| walk_at "n") => `(tactic| try dsimp only [nameD, addD, subD, mulD, ltD, leD, gtD, geD, isD, isntD, negD, fdivD, modD, powD, asB, isN, andD, orD, notD, RV.toD, Sl.of, absD, intD, boolD, maxD, minD, tupD, lstD, sumD, allD, anyD, isD1, isDs, truD, bodyO, excO, outD, partD, rng1D, rng2D, chD, chE, strmD, stGo, ownAt, tupG, List.getElem?_cons_zero, List.getElem?_cons_succ, List.set_cons_zero, List.set_cons_succ])
local macro_rules | `(tactic| walk_at "e1") => `(tactic| first
  | refine de_name ?_ | refine de_int ?_ | refine de_str ?_ | refine de_bl ?_ | refine de_non ?_
  | refine de_add ?_ | refine de_sub ?_ | refine de_mul ?_ | refine de_fdiv ?_ | refine de_mod ?_ | refine de_pow ?_ | refine de_neg ?_
  | refine de_lt ?_ | refine de_le ?_ | refine de_gt ?_ | refine de_ge ?_ | refine de_is ?_ | refine de_isnt ?_ | refine de_eq hr.units ?_ | refine de_ne hr.units ?_
  | refine de_chain op_le op_le ?_ | refine de_chain op_le op_lt ?_ | refine de_chain op_lt op_le ?_ | refine de_chain op_lt op_lt ?_
  | refine de_and ?_ | refine de_or ?_ | refine de_one ?_ | refine de_not ?_ | refine de_if ?_
  | refine de_isi bt_int B.isinstance B.int ?_ | refine de_isi bt_bool B.isinstance B.bool ?_ | refine de_isi bt_str B.isinstance B.str ?_ | refine de_isi bt_list B.isinstance B.list ?_ | refine de_isi bt_tuple B.isinstance B.tuple ?_ | refine de_isi bt_dict B.isinstance B.dict ?_
  | refine de_dict0 ?_ | refine de_tup ?_ | refine de_ix ?_)
local macro_rules | `(tactic| walk_at "es") => `(tactic| first
  | refine de_name ?_ | refine de_int ?_ | refine de_str ?_ | refine de_bl ?_ | refine de_non ?_
  | refine de_add ?_ | refine de_sub ?_ | refine de_mul ?_ | refine de_fdiv ?_ | refine de_mod ?_ | refine de_pow ?_ | refine de_neg ?_
  | refine de_lt ?_ | refine de_le ?_ | refine de_gt ?_ | refine de_ge ?_ | refine de_is ?_ | refine de_isnt ?_ | refine de_eq hr.units ?_ | refine de_ne hr.units ?_
  | refine de_chain op_le op_le ?_ | refine de_chain op_le op_lt ?_ | refine de_chain op_lt op_le ?_ | refine de_chain op_lt op_lt ?_
  | refine de_and ?_ | refine de_or ?_ | refine de_one ?_ | refine de_not ?_ | refine de_if ?_
  | refine de_isi bt_int B.isinstance B.int ?_ | refine de_isi bt_bool B.isinstance B.bool ?_ | refine de_isi bt_str B.isinstance B.str ?_ | refine de_isi bt_list B.isinstance B.list ?_ | refine de_isi bt_tuple B.isinstance B.tuple ?_ | refine de_isi bt_dict B.isinstance B.dict ?_
  | refine de_dict0 ?_ | refine de_tup ?_ | refine de_strm ?_)
local macro_rules | `(tactic| walk_at "t1") => `(tactic| first
  | refine dt_not ?_ | refine dt_lt ?_ | refine dt_le ?_ | refine dt_gt ?_ | refine dt_ge ?_ | refine dt_is ?_ | refine dt_isnt ?_ | refine dt_eq hr.units ?_ | refine dt_ne hr.units ?_
  | refine dt_chain op_le op_le ?_ | refine dt_chain op_le op_lt ?_ | refine dt_chain op_lt op_le ?_ | refine dt_chain op_lt op_lt ?_
  | refine dt_bool ?_ | refine dw_and1 ?_ | refine dw_or1 ?_ | refine dw_and ?_ | refine dw_or ?_ | refine dt_tru ?_)
local macro_rules | `(tactic| walk_at "v1") => `(tactic| first
  | refine dv_list ?_ | refine dv_if ?_ | refine dv_slice ?_
  | refine dv_len B.len ?_ | refine dv_abs B.abs ?_ | refine dv_int B.int ?_ | refine dv_bool B.bool ?_ | refine dv_max rfl B.max ?_ | refine dv_min rfl B.min ?_ | refine dv_sum rfl B.sum ?_ | refine dv_all rfl B.all ?_ | refine dv_any rfl B.any ?_ | refine dv_tuple B.tuple ?_ | refine dv_lst B.list ?_
  | refine dv_call (by assumption) (hr.mono (by decide)) tk ?_ | refine dv_call (by assumption) (hr.mono (by decide)) tkF ?_)
local macro_rules | `(tactic| walk_at "s1") => `(tactic| first
  | refine dss_nil ?_ | refine dss_cons ?_ | refine ds_ret ?_ | refine ds_if ?_ | refine ds_set nd ?_ | refine ds_retN ?_ | refine ds_pass ?_ | refine ds_break ?_ | refine ds_continue ?_ | refine da_nil ?_ | refine da_cons ?_ | refine dts_nil ?_ | refine dts_one ?_ | refine dp_none ?_ | refine dp_some ?_)
local macro_rules | `(tactic| walk_at "go") => `(tactic| repeat (first | walk_at "s1" | walk_at "v1" | walk_at "e1" | walk_at "t1" | (refine de_dv ?_; walk_at "v1") | (refine dv_de ?_; walk_at "e1")); walk_at "n")
local macro_rules | `(tactic| walk_at "gs") => `(tactic| repeat (first | walk_at "s1" | walk_at "v1" | walk_at "es" | walk_at "t1" | (refine de_dv ?_; walk_at "v1") | (refine dv_de ?_; walk_at "es")); walk_at "n")
local macro_rules | `(tactic| walk_at "g1") => `(tactic| first | refine dg_tup rfl (And.intro (by rfl) ?_) | refine dgs_cons ?_ | refine dgs_nil ?_ | refine dg_nm nd ?_)
local macro_rules | `(tactic| walk_at "gg") => `(tactic| (repeat (first | refine dg_tup rfl (And.intro (by rfl) ?_) | refine dgs_cons ?_ | refine dgs_nil ?_ | refine dg_nm nd ?_)); walk_at "n")
local macro_rules | `(tactic| walk_at "blk") => `(tactic| intro s1 H1 Cc cl fp)

section
open PySem L2 DL
namespace K70
abbrev topS (i : Nat) : Stmt := PySem.Challenge.pw_oldaddress_k70_stays_of_histories.main.body.getD i (.Pass ⟨0, 0, 0, 0⟩)
abbrev s_is_list : Stmt := topS 4
theorem sc_is_list : FnScope ["thing"] ["thing"] (defScope s_is_list) := ⟨rfl, rfl, rfl, by decide +kernel, rfl, by decide +kernel, by decide +kernel⟩
abbrev s_is_whole : Stmt := topS 5
theorem sc_is_whole : FnScope ["thing"] ["thing"] (defScope s_is_whole) := ⟨rfl, rfl, rfl, by decide +kernel, rfl, by decide +kernel, by decide +kernel⟩
abbrev s_is_number : Stmt := topS 6
theorem sc_is_number : FnScope ["thing"] ["thing"] (defScope s_is_number) := ⟨rfl, rfl, rfl, by decide +kernel, rfl, by decide +kernel, by decide +kernel⟩
abbrev s_is_positive : Stmt := topS 7
theorem sc_is_positive : FnScope ["thing"] ["thing"] (defScope s_is_positive) := ⟨rfl, rfl, rfl, by decide +kernel, rfl, by decide +kernel, by decide +kernel⟩
abbrev s_is_name : Stmt := topS 8
theorem sc_is_name : FnScope ["thing", "sign"] ["thing"] (defScope s_is_name) := ⟨rfl, rfl, rfl, by decide +kernel, rfl, by decide +kernel, by decide +kernel⟩
abbrev s_first_odd : Stmt := topS 9
theorem sc_first_odd : FnScope ["things", "is_right", "index", "thing", "odd"] ["things", "is_right"] (defScope s_first_odd) := ⟨rfl, rfl, rfl, by decide +kernel, rfl, by decide +kernel, by decide +kernel⟩
abbrev s_are_unlike : Stmt := topS 10
theorem sc_are_unlike : FnScope ["things", "thing"] ["things"] (defScope s_are_unlike) := ⟨rfl, rfl, rfl, by decide +kernel, rfl, by decide +kernel, by decide +kernel⟩
abbrev s_is_stay : Stmt := topS 24
theorem sc_is_stay : FnScope ["thing", "part"] ["thing"] (defScope s_is_stay) := ⟨rfl, rfl, rfl, by decide +kernel, rfl, by decide +kernel, by decide +kernel⟩
abbrev s_checked_stays : Stmt := topS 25
theorem sc_checked_stays : FnScope ["stays", "odd", "stay"] ["stays"] (defScope s_checked_stays) := ⟨rfl, rfl, rfl, by decide +kernel, rfl, by decide +kernel, by decide +kernel⟩
abbrev s_check_life : Stmt := topS 26
theorem sc_check_life : FnScope ["life"] ["life"] (defScope s_check_life) := ⟨rfl, rfl, rfl, by decide +kernel, rfl, by decide +kernel, by decide +kernel⟩
abbrev s_bound_on : Stmt := topS 27
theorem sc_bound_on : FnScope ["stays", "day", "index", "begin", "end", "life"] ["stays", "day"] (defScope s_bound_on) := ⟨rfl, rfl, rfl, by decide +kernel, rfl, by decide +kernel, by decide +kernel⟩
abbrev s_most_bound : Stmt := topS 28
theorem sc_most_bound : FnScope ["stays", "stay"] ["stays"] (defScope s_most_bound) := ⟨rfl, rfl, rfl, by decide +kernel, rfl, by decide +kernel, by decide +kernel⟩
abbrev s_least_addresses : Stmt := topS 29
theorem sc_least_addresses : FnScope ["stays"] ["stays"] (defScope s_least_addresses) := ⟨rfl, rfl, rfl, by decide +kernel, rfl, by decide +kernel, by decide +kernel⟩
abbrev s_stays_of : Stmt := topS 30
theorem sc_stays_of : FnScope ["history", "life", "found", "address", "begin", "moment", "is_there"] ["history", "life"] (defScope s_stays_of) := ⟨rfl, rfl, rfl, by decide +kernel, rfl, by decide +kernel, by decide +kernel⟩
abbrev s_checked_addresses : Stmt := topS 33
theorem sc_checked_addresses : FnScope ["addresses", "odd", "index", "name"] ["addresses"] (defScope s_checked_addresses) := ⟨rfl, rfl, rfl, by decide +kernel, rfl, by decide +kernel, by decide +kernel⟩
abbrev c_Land : Stmt := topS 34
abbrev s_Land___init__ : Stmt := inClass (topS 34) 0
theorem sc_Land___init__ : FnScope ["self", "addresses", "most"] ["self", "addresses", "most"] (defScope s_Land___init__) := ⟨rfl, rfl, rfl, by decide +kernel, rfl, by decide +kernel, by decide +kernel⟩
abbrev s_Land_addresses : Stmt := inClass (topS 34) 1
theorem sc_Land_addresses : FnScope ["self"] ["self"] (defScope s_Land_addresses) := ⟨rfl, rfl, rfl, by decide +kernel, rfl, by decide +kernel, by decide +kernel⟩
abbrev s_Land_most : Stmt := inClass (topS 34) 2
theorem sc_Land_most : FnScope ["self"] ["self"] (defScope s_Land_most) := ⟨rfl, rfl, rfl, by decide +kernel, rfl, by decide +kernel, by decide +kernel⟩
abbrev s_Land___eq__ : Stmt := inClass (topS 34) 3
theorem sc_Land___eq__ : FnScope ["self", "other"] ["self", "other"] (defScope s_Land___eq__) := ⟨rfl, rfl, rfl, by decide +kernel, rfl, by decide +kernel, by decide +kernel⟩
abbrev s_is_part : Stmt := topS 35
theorem sc_is_part : FnScope ["land", "kind", "part"] ["land", "kind", "part"] (defScope s_is_part) := ⟨rfl, rfl, rfl, by decide +kernel, rfl, by decide +kernel, by decide +kernel⟩
abbrev s_is_deed : Stmt := topS 36
theorem sc_is_deed : FnScope ["land", "thing", "kinds", "parts", "kind", "part"] ["land", "thing"] (defScope s_is_deed) := ⟨rfl, rfl, rfl, by decide +kernel, rfl, by decide +kernel, by decide +kernel⟩
abbrev s_size_of : Stmt := topS 38
theorem sc_size_of : FnScope ["row", "first", "last"] ["row"] (defScope s_size_of) := ⟨rfl, rfl, rfl, by decide +kernel, rfl, by decide +kernel, by decide +kernel⟩
abbrev s_tidy : Stmt := topS 39
theorem sc_tidy : FnScope ["stretches", "found", "first", "last"] ["stretches"] (defScope s_tidy) := ⟨rfl, rfl, rfl, by decide +kernel, rfl, by decide +kernel, by decide +kernel⟩
abbrev s_parted : Stmt := topS 40
theorem sc_parted : FnScope ["row", "many", "ahead", "behind", "left", "first", "last", "here"] ["row", "many"] (defScope s_parted) := ⟨rfl, rfl, rfl, by decide +kernel, rfl, by decide +kernel, by decide +kernel⟩
abbrev s_lessened : Stmt := topS 41
theorem sc_lessened : FnScope ["row", "index", "many", "ahead", "behind"] ["row", "index", "many"] (defScope s_lessened) := ⟨rfl, rfl, rfl, by decide +kernel, rfl, by decide +kernel, by decide +kernel⟩
abbrev s_rows_behind : Stmt := topS 43
theorem sc_rows_behind : FnScope ["rows", "made", "deed", "word", "parts", "row"] ["rows", "made", "deed"] (defScope s_rows_behind) := ⟨rfl, rfl, rfl, by decide +kernel, rfl, by decide +kernel, by decide +kernel⟩
abbrev s_rows_moved : Stmt := topS 44
theorem sc_rows_moved : FnScope ["rows", "word", "parts", "row", "part", "others", "other", "ahead", "behind"] ["rows", "word", "parts", "row"] (defScope s_rows_moved) := ⟨rfl, rfl, rfl, by decide +kernel, rfl, by decide +kernel, by decide +kernel⟩
abbrev s_done : Stmt := topS 45
theorem sc_done : FnScope ["land", "rows", "made", "deed", "found", "row"] ["land", "rows", "made", "deed"] (defScope s_done) := ⟨rfl, rfl, rfl, by decide +kernel, rfl, by decide +kernel, by decide +kernel⟩
abbrev c_History : Stmt := topS 46
abbrev s_History___init__ : Stmt := inClass (topS 46) 0
theorem sc_History___init__ : FnScope ["self", "land", "deeds", "address", "index", "deed"] ["self", "land", "deeds"] (defScope s_History___init__) := ⟨rfl, rfl, rfl, by decide +kernel, rfl, by decide +kernel, by decide +kernel⟩
abbrev s_History_add : Stmt := inClass (topS 46) 1
theorem sc_History_add : FnScope ["self", "deed", "rows", "made", "day"] ["self", "deed"] (defScope s_History_add) := ⟨rfl, rfl, rfl, by decide +kernel, rfl, by decide +kernel, by decide +kernel⟩
abbrev s_History_land : Stmt := inClass (topS 46) 2
theorem sc_History_land : FnScope ["self"] ["self"] (defScope s_History_land) := ⟨rfl, rfl, rfl, by decide +kernel, rfl, by decide +kernel, by decide +kernel⟩
abbrev s_History_deeds : Stmt := inClass (topS 46) 3
theorem sc_History_deeds : FnScope ["self"] ["self"] (defScope s_History_deeds) := ⟨rfl, rfl, rfl, by decide +kernel, rfl, by decide +kernel, by decide +kernel⟩
abbrev s_History_now : Stmt := inClass (topS 46) 4
theorem sc_History_now : FnScope ["self"] ["self"] (defScope s_History_now) := ⟨rfl, rfl, rfl, by decide +kernel, rfl, by decide +kernel, by decide +kernel⟩
abbrev s_History_moment_of : Stmt := inClass (topS 46) 5
theorem sc_History_moment_of : FnScope ["self", "moment"] ["self", "moment"] (defScope s_History_moment_of) := ⟨rfl, rfl, rfl, by decide +kernel, rfl, by decide +kernel, by decide +kernel⟩
abbrev s_History_check_address : Stmt := inClass (topS 46) 6
theorem sc_History_check_address : FnScope ["self", "address"] ["self", "address"] (defScope s_History_check_address) := ⟨rfl, rfl, rfl, by decide +kernel, rfl, by decide +kernel, by decide +kernel⟩
abbrev s_History_rows : Stmt := inClass (topS 46) 7
theorem sc_History_rows : FnScope ["self", "moment", "rows", "address"] ["self", "moment"] (defScope s_History_rows) := ⟨rfl, rfl, rfl, by decide +kernel, rfl, by decide +kernel, by decide +kernel⟩
abbrev s_History_row : Stmt := inClass (topS 46) 8
theorem sc_History_row : FnScope ["self", "address", "moment"] ["self", "address", "moment"] (defScope s_History_row) := ⟨rfl, rfl, rfl, by decide +kernel, rfl, by decide +kernel, by decide +kernel⟩
abbrev s_History_many : Stmt := inClass (topS 46) 9
theorem sc_History_many : FnScope ["self", "moment", "row"] ["self", "moment"] (defScope s_History_many) := ⟨rfl, rfl, rfl, by decide +kernel, rfl, by decide +kernel, by decide +kernel⟩
abbrev s_History_made : Stmt := inClass (topS 46) 10
theorem sc_History_made : FnScope ["self", "moment"] ["self", "moment"] (defScope s_History_made) := ⟨rfl, rfl, rfl, by decide +kernel, rfl, by decide +kernel, by decide +kernel⟩
abbrev s_History_can : Stmt := inClass (topS 46) 14
theorem sc_History_can : FnScope ["self", "deed", "rows", "made", "day"] ["self", "deed"] (defScope s_History_can) := ⟨rfl, rfl, rfl, by decide +kernel, rfl, by decide +kernel, by decide +kernel⟩
abbrev s_History_ahead : Stmt := inClass (topS 46) 16
theorem sc_History_ahead : FnScope ["self", "moment"] ["self", "moment"] (defScope s_History_ahead) := ⟨rfl, rfl, rfl, by decide +kernel, rfl, by decide +kernel, by decide +kernel⟩
abbrev s_History_day : Stmt := inClass (topS 46) 17
theorem sc_History_day : FnScope ["self", "moment"] ["self", "moment"] (defScope s_History_day) := ⟨rfl, rfl, rfl, by decide +kernel, rfl, by decide +kernel, by decide +kernel⟩
abbrev s_History_last_day : Stmt := inClass (topS 46) 18
theorem sc_History_last_day : FnScope ["self", "moment", "known", "deed"] ["self", "moment"] (defScope s_History_last_day) := ⟨rfl, rfl, rfl, by decide +kernel, rfl, by decide +kernel, by decide +kernel⟩
abbrev s_History___eq__ : Stmt := inClass (topS 46) 20
theorem sc_History___eq__ : FnScope ["self", "other"] ["self", "other"] (defScope s_History___eq__) := ⟨rfl, rfl, rfl, by decide +kernel, rfl, by decide +kernel, by decide +kernel⟩
abbrev s_scaled_deed : Stmt := topS 48
theorem sc_scaled_deed : FnScope ["deed", "pieces", "days", "part"] ["deed", "pieces", "days"] (defScope s_scaled_deed) := ⟨rfl, rfl, rfl, by decide +kernel, rfl, by decide +kernel, by decide +kernel⟩
abbrev s_scaled : Stmt := topS 49
theorem sc_scaled : FnScope ["history", "pieces", "days", "times", "land", "deed"] ["history", "pieces", "days"] (defScope s_scaled) := ⟨rfl, rfl, rfl, by decide +kernel, rfl, by decide +kernel, by decide +kernel⟩
abbrev s__law_stream : Stmt := topS 51
theorem sc__law_stream : FnScope ["script", "k", "cell", "at", "one", "mixed"] ["script", "k"] (defScope s__law_stream) := ⟨rfl, rfl, rfl, by decide +kernel, rfl, by decide +kernel, by decide +kernel⟩
abbrev s__law_draw : Stmt := topS 52
theorem sc__law_draw : FnScope ["stream", "many", "digit", "spread"] ["stream", "many"] (defScope s__law_draw) := ⟨rfl, rfl, rfl, by decide +kernel, rfl, by decide +kernel, by decide +kernel⟩
abbrev s__law_pick : Stmt := topS 53
theorem sc__law_pick : FnScope ["stream", "things"] ["stream", "things"] (defScope s__law_pick) := ⟨rfl, rfl, rfl, by decide +kernel, rfl, by decide +kernel, by decide +kernel⟩
abbrev s__law_same : Stmt := topS 54
theorem sc__law_same : FnScope ["found", "due", "one", "other", "key"] ["found", "due"] (defScope s__law_same) := ⟨rfl, rfl, rfl, by decide +kernel, rfl, by decide +kernel, by decide +kernel⟩
abbrev s__law_as_lists : Stmt := topS 55
theorem sc__law_as_lists : FnScope ["stream", "thing", "part", "found"] ["stream", "thing"] (defScope s__law_as_lists) := ⟨rfl, rfl, rfl, by decide +kernel, rfl, by decide +kernel, by decide +kernel⟩
abbrev s__law_h_done : Stmt := topS 56
theorem sc__law_h_done : FnScope ["rows", "most", "made", "deed", "name", "word", "found", "one", "other"] ["rows", "most", "made", "deed"] (defScope s__law_h_done) := ⟨rfl, rfl, rfl, by decide +kernel, rfl, by decide +kernel, by decide +kernel⟩
abbrev s__law_h_deed : Stmt := topS 57
theorem sc__law_h_deed : FnScope ["stream", "names", "a", "b", "c", "name", "others", "words", "word", "k"] ["stream", "names"] (defScope s__law_h_deed) := ⟨rfl, rfl, rfl, by decide +kernel, rfl, by decide +kernel, by decide +kernel⟩
abbrev s__law_h_drawn : Stmt := topS 58
theorem sc__law_h_drawn : FnScope ["stream", "names", "most", "many", "name", "moments", "made", "deeds", "k", "deed", "found"] ["stream", "names", "most", "many"] (defScope s__law_h_drawn) := ⟨rfl, rfl, rfl, by decide +kernel, rfl, by decide +kernel, by decide +kernel⟩
abbrev s__law_h_days : Stmt := topS 59
theorem sc__law_h_days : FnScope ["deeds", "found", "day", "at", "is_wait"] ["deeds"] (defScope s__law_h_days) := ⟨rfl, rfl, rfl, by decide +kernel, rfl, by decide +kernel, by decide +kernel⟩
abbrev s__law_stays_due : Stmt := topS 60
theorem sc__law_stays_due : FnScope ["names", "deeds", "moments", "life", "days", "found", "name", "begin", "at", "rows"] ["names", "deeds", "moments", "life"] (defScope s__law_stays_due) := ⟨rfl, rfl, rfl, by decide +kernel, rfl, by decide +kernel, by decide +kernel⟩
abbrev s__law_rested : Stmt := topS 61
theorem sc__law_rested : FnScope ["stays", "names", "deeds", "moments", "apart", "name", "own", "at"] ["stays", "names", "deeds", "moments"] (defScope s__law_rested) := ⟨rfl, rfl, rfl, by decide +kernel, rfl, by decide +kernel, by decide +kernel⟩
abbrev s__law_met : Stmt := topS 62
theorem sc__law_met : FnScope ["ask", "e"] ["ask"] (defScope s__law_met) := ⟨rfl, rfl, rfl, by decide +kernel, rfl, by decide +kernel, by decide +kernel⟩
abbrev s_law : Stmt := topS 63
theorem sc_law : FnScope ["script", "turn", "stream", "some", "names", "most", "deeds", "moments", "life", "due", "times", "far", "deed", "late", "history", "odd"] ["script"] (defScope s_law) := ⟨rfl, rfl, rfl, by decide +kernel, rfl, by decide +kernel, by decide +kernel⟩
end K70
end

section
namespace DL
open PySem L2
theorem tkF {X : Cx} {T : List (Addr × Str)} {A : Anc} : Takes X (WD X.K T A fun _ _ _ => False) := L2.takes0.imp fun c d σ H ⟨_, _, _, _, _, _, _, _, _, _, _, z⟩ => z
theorem lenD_seq {d : D} {ds : List D} {C : CV} {ρ : Ev} (e : seqD d = some ds) (h : C (.v (.int (ds.length : Nat))) ρ) : lenD [d] C ρ := by
  cases d <;> first | (cases e; exact ⟨_, rfl, h⟩) | (cases e; exact h) | (cases e; done)
theorem ixD_seq {d e : D} {ds : List D} {j : Nat} {i : Int} {C : CD} {ρ : Ev} (e1 : seqD d = some ds) (hj : ds[j]? = some e) (hi : i = (j : Nat)) (h : C e ρ) : ixD d (.int i) C ρ := by
  subst hi
  cases d <;> first | (cases e1; exact ⟨_, e, rfl, atI_nat hj, h⟩) | (cases e1; done)
theorem eqP_int {i j : Int} : eqP (.int i) (.int j) = some (i == j) := rfl
/-! ### plain words of the stays -/
mutual
def wt : D → Bool
  | .lst ds => wts ds
  | .kl ds => wts ds
  | .tup ds => wts ds
  | .dK _ => true
  | .str x => decide (x.length ≤ 1000)
  | d => (tyN d).isSome
def wts : List D → Bool
  | [] => true
  | d :: ds => wt d && wts ds
end
theorem wts_mem : ∀ {ds : List D}, wts ds = true → ∀ d ∈ ds, wt d = true
  | d :: ds, h, e, m => by
    unfold wts at h
    obtain ⟨h1, h2⟩ := Bool.and_eq_true_iff.mp h
    rcases List.mem_cons.mp m with rfl | m
    · exact h1
    · exact wts_mem h2 e m
def Typed (d : D) : Prop := (tyN d).isSome = true
theorem wt_typed {d : D} (h : wt d = true) : Typed d := by
  cases d <;> first | rfl | (unfold wt at h; exact h)
def isList : D → Bool
  | .lst _ => true
  | .kl _ => true
  | .tup _ => true
  | _ => false
def isWhole : D → Bool
  | .int _ => true
  | _ => false
def isNum : D → Bool
  | .int i => decide (0 ≤ i)
  | _ => false
def items : D → List D
  | .lst ds => ds
  | .kl ds => ds
  | .tup ds => ds
  | _ => []
theorem isList_seq {d : D} (h : isList d = true) : seqD d = some (items d) := by
  cases d <;> first | rfl | (cases h)
theorem wt_items {d : D} (h : wt d = true) : ∀ e ∈ items d, wt e = true := by
  cases d <;> first | (intro e m; cases m; done) | (unfold wt at h; exact wts_mem h)
def isStay (d : D) : Bool := match items d with
  | [.int b, .int e, .int l] => decide (0 ≤ b) && decide (0 ≤ e) && decide (0 ≤ l) && decide (b ≤ e)
  | _ => false
def pred (p : D → Bool) : DF := fun ds g C => ∃ d, ds = [d] ∧ wt d = true ∧ C (.ret (.bl (p d)) g)
theorem pred_len {p : D → Bool} (ds : List D) (g : Nat) (C : Out → Prop) (h : pred p ds g C) : ds.length = 1 := by
  obtain ⟨d, rfl, _⟩ := h
  rfl
/-- the first thing that is not right -/
def firstOdd (p : D → Bool) (es : List D) : Option Nat := es.findIdx? fun e => !p e
def natD : Option Nat → D
  | none => .non
  | some i => .int (i : Nat)
def oddFn (p : D → Bool) : D → List D := fun x => match x with
  | .tup [.int j, y] => if p y then [] else [.int j]
  | _ => []
theorem odd_none {p : D → Bool} : ∀ {es : List D} (k : Nat), firstOdd p es = none → (enumOf k es).flatMap (oddFn p) = []
  | [], k, _ => rfl
  | e :: es, k, h => by
    unfold firstOdd at h
    rw [List.findIdx?_cons] at h
    cases hp : p e with
    | false => rw [hp] at h; simp at h
    | true =>
      rw [hp] at h
      have h2 : firstOdd p es = none := by simpa [firstOdd] using h
      rw [enumOf, List.flatMap_cons, odd_none (k + 1) h2]
      simp [oddFn, hp]
theorem odd_some {p : D → Bool} : ∀ {es : List D} {j : Nat} (k : Nat), firstOdd p es = some j → ∃ r, (enumOf k es).flatMap (oddFn p) = .int ((k + j : Nat) : Int) :: r
  | [], j, k, h => by cases h
  | e :: es, j, k, h => by
    unfold firstOdd at h
    rw [List.findIdx?_cons] at h
    cases hp : p e with
    | false =>
      rw [hp] at h
      have h2 : j = 0 := by simpa using h.symm
      subst h2
      rw [enumOf, List.flatMap_cons]
      exact ⟨(enumOf (k + 1) es).flatMap (oddFn p), by simp [oddFn, hp]⟩
    | true =>
      rw [hp] at h
      obtain ⟨i, h2, rfl⟩ : ∃ i, firstOdd p es = some i ∧ j = i + 1 := by
        have h3 : (firstOdd p es).map (· + 1) = some j := by simpa [firstOdd] using h
        obtain ⟨i, e1, e2⟩ := Option.map_eq_some_iff.mp h3
        exact ⟨i, e1, e2.symm⟩
      obtain ⟨r, e2⟩ := odd_some (k + 1) h2
      refine ⟨r, ?_⟩
      rw [enumOf, List.flatMap_cons, e2]
      simp only [oddFn, hp, if_true, List.nil_append]
      rw [show k + 1 + i = k + (i + 1) by omega]
def oddOf (p : D → Bool) (d : D) : D := if isList d then natD (firstOdd p (items d)) else .int 0
end DL
open PySem L2 DL
namespace K70
section
variable {P : Program} {w : World} {K : PySem.W.Frag} {mg : Str → Option Value} {base : Heap} {T : List (Addr × Str)}
theorem ok_is_list (B : Bi mg) {f : Addr} {fd : FuncData} (F : Fun K "is_list" "is_list" s_is_list f fd) : FnOk P w K mg base (L2.CX P w) 1 f fd ["thing"] (spD K T (pred isList)) := by
  refine okD F sc_is_list pred_len (fun cdv A outer s H E An ds g C hr tk h => ?_)
  obtain ⟨d, rfl, ty, h⟩ := h
  replace ty := wt_typed ty
  show DSs _ T An ⟨[.dat d], [], An.ws, g⟩ _ _
  walk_at "go"
  refine dv_de (de_isis B.isinstance (.cons rfl B.list bt_list (by decide) (by decide) rfl (.cons rfl B.tuple bt_tuple (by decide) (by decide) rfl .nil)) (by decide) (by simp) ?_)
  walk_at "go"
  have e : isTys d ["list", "tuple"] = some (isList d) := by
    cases d <;> first | rfl | (cases ty)
  exact ⟨_, e, .inl rfl, h⟩
theorem ok_is_whole (B : Bi mg) {f : Addr} {fd : FuncData} (F : Fun K "is_whole" "is_whole" s_is_whole f fd) : FnOk P w K mg base (L2.CX P w) 1 f fd ["thing"] (spD K T (pred isWhole)) := by
  refine okD F sc_is_whole pred_len (fun cdv A outer s H E An ds g C hr tk h => ?_)
  obtain ⟨d, rfl, ty, h⟩ := h
  replace ty := wt_typed ty
  show DSs _ T An ⟨[.dat d], [], An.ws, g⟩ _ _
  walk_at "go"
  have e1 : ∃ b1 b2, isTy d "int" = some b1 ∧ isTy d "bool" = some b2 ∧ (b1 && !b2) = isWhole d := by
    cases d <;> first | exact ⟨_, _, rfl, rfl, rfl⟩ | (cases ty)
  obtain ⟨b1, b2, e1, e2, e3⟩ := e1
  refine ⟨b1, e1, fun e => ?_, fun e => ?_⟩
  · walk_at "go"
    exact ⟨b2, e2, .inl rfl, by subst e; rw [← e3] at h; exact h⟩
  · subst e
    rw [← e3] at h
    exact ⟨.inl rfl, h⟩
theorem ok_is_number (B : Bi mg) {f : Addr} {fd : FuncData} (F : Fun K "is_number" "is_number" s_is_number f fd) (h1 : Kn P w K mg base T "is_whole" 1 (pred isWhole)) : FnOk P w K mg base (L2.CX P w) 2 f fd ["thing"] (spD K T (pred isNum)) := by
  refine okD F sc_is_number pred_len (fun cdv A outer s H E An ds g C hr tk h => ?_)
  obtain ⟨d, rfl, ty, h⟩ := h
  show DSs _ T An ⟨[.dat d], [], An.ws, g⟩ _ _
  walk_at "go"
  refine ⟨_, rfl, ty, fun e => ?_, fun e => ?_⟩
  · cases d <;> first | (cases e; done) | skip
    walk_at "go"
    exact ⟨.inl rfl, h⟩
  · refine ⟨.inl rfl, ?_⟩
    have e2 : isNum d = false := by
      cases d <;> first | rfl | (cases e)
    rw [← e2]
    exact h
/-- first_odd(things, f), f's promise pred p -/
def fod (P : Program) (w : World) (K : PySem.W.Frag) (mg : Str → Option Value) (base : Heap) (T : List (Addr × Str)) (k : Nat) : DF := fun ds g C => ∃ d f p, ds = [d, .fn f] ∧ KnA P w K mg base T f k (pred p) ∧ wt d = true ∧ (items d).length < sizeLine ∧ C (.ret (oddOf p d) g)
theorem ok_first_odd (B : Bi mg) {f : Addr} {fd : FuncData} (F : Fun K "first_odd" "first_odd" s_first_odd f fd) (h1 : Kn P w K mg base T "is_list" 1 (pred isList)) : FnOk P w K mg base (L2.CX P w) 5 f fd ["things", "is_right"] (spD K T (fod P w K mg base T 3)) := by
  refine okD F sc_first_odd (fun ds g C h => by obtain ⟨d, f, p, rfl, _⟩ := h; rfl) (fun cdv A outer s H E An ds g C hr tk h => ?_)
  obtain ⟨d, ff, p, rfl, kn, ty, hz, h⟩ := h
  have nd := sc_first_odd.nd
  show DSs _ T An ⟨[.dat d, .dat (.fn ff), .non, .non, .non], [], An.ws, g⟩ _ _
  walk_at "go"
  refine ⟨d, rfl, ty, _, rfl, fun e => ?_, fun e => ?_⟩
  · walk_at "go"
    have e1 : isList d = false := by simpa using e
    refine ⟨.inl rfl, ?_⟩
    unfold oddOf at h
    rw [e1] at h
    exact h
  · have e1 : isList d = true := by simpa using e
    walk_at "go"
    refine ds_setLc rfl nd (blkOk_by (own := [("index", 2), ("thing", 3)]) (by kernel_rfl)) rfl rfl (di_enum B.enumerate ?_)
    walk_at "go"
    refine ⟨items d, isList_seq e1, ?_⟩
    refine lcd_fm (oddFn p) rfl (by rw [enumOf_len]; exact hz) (fun i x acc D0 ex => ?_) (fun a => ?_)
    · rw [enumOf_get] at ex
      obtain ⟨y, ey, rfl⟩ := Option.map_eq_some_iff.mp ex
      walk_at "blk"
      walk_at "gg"
      walk_at "blk"
      walk_at "go"
      refine de_dv ?_
      refine dv_callL kn ?_ (hr.mono (by decide)) tkF ?_
      · rfl
      walk_at "go"
      refine ⟨y, rfl, wt_items ty y (List.mem_of_getElem? ey), _, rfl, fun e => ?_, fun e => ?_⟩
      · walk_at "blk"
        walk_at "go"
        have e2 : p y = false := by simpa using e
        exact ⟨by simp [oddFn, e2], rfl, rfl, rfl⟩
      · have e2 : p y = true := by simpa using e
        exact ⟨by simp [oddFn, e2], rfl, rfl, rfl⟩
    · have eo : oddOf p d = natD (firstOdd p (items d)) := by unfold oddOf; rw [if_pos e1]
      rw [eo] at h
      walk_at "s1"
      walk_at "s1"
      refine dv_look fun An2 ew => ?_
      cases ho : firstOdd p (items d) with
      | none =>
        rw [odd_none 0 ho]
        rw [ho] at h
        refine dv_if (dt_tru (de_name ?_))
        refine ⟨_, rfl, fun z => (by cases z), fun _ => ?_⟩
        walk_at "go"
        exact ⟨rfl, .inl rfl, h⟩
      | some j =>
        obtain ⟨r, er⟩ := odd_some 0 ho
        rw [er]
        rw [ho] at h
        refine dv_if (dt_tru (de_name ?_))
        refine ⟨_, rfl, fun _ => ?_, fun z => (by cases z)⟩
        walk_at "go"
        refine ⟨_, _, rfl, atI_nat (j := 0) rfl, rfl, .inl rfl, ?_⟩
        rw [Nat.zero_add]
        exact h
end
end K70
end

section
open PySem L2 DL
namespace K70
section
variable {P : Program} {w : World} {K : PySem.W.Frag} {mg : Str → Option Value} {base : Heap} {T : List (Addr × Str)}
theorem nums_all {d : D} (hw : wt d = true) : ∃ bs : List Bool, (items d).flatMap (fun y => [D.bl (isNum y)]) = bs.map D.bl ∧ bs.all id = (items d).all isNum := by
  refine ⟨(items d).map isNum, ?_, ?_⟩
  · induction items d with
    | nil => rfl
    | cons x l ih => rw [List.flatMap_cons, ih]; rfl
  · rw [List.all_map]; rfl
theorem isStay_no {d : D} (h : (items d).length ≠ 3 ∨ (items d).all isNum = false) : isStay d = false := by
  unfold isStay
  split
  · rename_i b e l he
    rw [he] at h
    rcases h with h | h
    · exact absurd rfl h
    · simp only [List.all_cons, List.all_nil, Bool.and_true, isNum, Bool.and_eq_false_iff] at h
      rcases h with h | h | h <;> simp [h]
  · rfl
theorem isNum_int {d : D} (h : isNum d = true) : ∃ i : Int, d = .int i ∧ 0 ≤ i := by
  cases d with
  | int i => exact ⟨i, rfl, of_decide_eq_true h⟩
  | _ => cases h
theorem isStay_yes {d : D} (h : (items d).length = 3) (h2 : (items d).all isNum = true) : ∃ b e l : Int, items d = [.int b, .int e, .int l] ∧ isStay d = decide (b ≤ e) := by
  unfold isStay
  match items d, h, h2 with
  | [x, y, z], _, h2 =>
    simp only [List.all_cons, List.all_nil, Bool.and_true, Bool.and_eq_true] at h2
    obtain ⟨h3, h4, h5⟩ := h2
    obtain ⟨b, rfl, b0⟩ := isNum_int h3
    obtain ⟨e, rfl, e0⟩ := isNum_int h4
    obtain ⟨l, rfl, l0⟩ := isNum_int h5
    refine ⟨b, e, l, rfl, ?_⟩
    show (decide (0 ≤ b) && decide (0 ≤ e) && decide (0 ≤ l) && decide (b ≤ e)) = _
    rw [decide_eq_true b0, decide_eq_true e0, decide_eq_true l0]
    rfl
theorem ok_is_stay (B : Bi mg) {f : Addr} {fd : FuncData} (F : Fun K "is_stay" "is_stay" s_is_stay f fd) (h1 : Kn P w K mg base T "is_list" 1 (pred isList)) (h2 : Kn P w K mg base T "is_number" 2 (pred isNum)) : FnOk P w K mg base (L2.CX P w) 3 f fd ["thing"] (spD K T (pred isStay)) := by
  refine okD F sc_is_stay pred_len (fun cdv A outer s H E An ds g C hr tk h => ?_)
  obtain ⟨d, rfl, ty, h⟩ := h
  have nd := sc_is_stay.nd
  show DSs _ T An ⟨[.dat d, .non], [], An.ws, g⟩ _ _
  walk_at "go"
  refine ⟨d, rfl, ty, _, rfl, fun e => ?_, fun e => ?_⟩
  · have e1 : isList d = false := by simpa using e
    refine ⟨fun _ => ?_, fun z => (by cases z)⟩
    walk_at "go"
    have e2 : isStay d = false := isStay_no (by left; cases d <;> first | (cases e1; done) | simp [items])
    rw [← e2]
    exact ⟨.inl rfl, h⟩
  · have e1 : isList d = true := by simpa using e
    walk_at "go"
    refine lenD_seq (isList_seq e1) ?_
    walk_at "go"
    refine ⟨_, eqP_int, fun e2 => ?_, fun e2 => ?_⟩
    · refine ⟨fun _ => ?_, fun z => (by cases z)⟩
      walk_at "go"
      have e3 : isStay d = false := isStay_no (by left; intro z; rw [z] at e2; simp at e2)
      rw [← e3]
      exact ⟨.inl rfl, h⟩
    · have e3 : (items d).length = 3 := by
        have : ((items d).length : Int) = 3 := by simpa using e2
        omega
      walk_at "go"
      refine de_dv (dv_lc rfl nd (blkOk_by (own := [("part", 1)]) (by kernel_rfl)) (di_seq (de_name ?_)))
      refine ⟨items d, isList_seq e1, lcd_fm (fun y => [.bl (isNum y)]) rfl (by rw [e3]; decide) (fun i y acc D0 ey => ?_) fun a => ?_⟩
      · walk_at "blk"
        walk_at "gg"
        walk_at "blk"
        refine dts_nil ⟨fun _ => ?_, fun z => (by cases z)⟩
        walk_at "blk"
        walk_at "go"
        exact ⟨y, rfl, wt_items ty y (List.mem_of_getElem? ey), rfl, rfl, rfl, rfl⟩
      · obtain ⟨bs, eb, ea⟩ := nums_all ty
        walk_at "go"
        refine ⟨bs, by rw [← eb]; rfl, _, rfl, fun e4 => ?_, fun e4 => ?_⟩
        · walk_at "go"
          have e5 : isStay d = false := isStay_no (by right; rw [← ea]; simpa using e4)
          rw [← e5]
          exact ⟨.inl rfl, h⟩
        · have e5 : (items d).all isNum = true := by rw [← ea]; simpa using e4
          obtain ⟨b, e, l, ei, es⟩ := isStay_yes e3 e5
          rw [es] at h
          walk_at "go"
          refine ixD_seq (j := 0) (isList_seq e1) (by rw [ei]; rfl) rfl ?_
          walk_at "go"
          refine ixD_seq (j := 1) (isList_seq e1) (by rw [ei]; rfl) rfl ?_
          walk_at "n"
          exact ⟨.inl rfl, h⟩
/-- checked_stays -/
def tupS (d : D) : D := .tup (items d)
def chkN (CS : Addr) : DF := fun ds g C => ∃ d, ds = [d] ∧ wt d = true ∧ (items d).length < sizeLine ∧
  ((oddOf isStay d = .non ∧ C (.new ((items d).map tupS) g)) ∨ (oddOf isStay d ≠ .non ∧ C (.exc CS [("index", oddOf isStay d)] g)))
theorem natD_eq {p : D → Bool} {d : D} : (oddOf p d = .non ∧ isList d = true ∧ ∀ y ∈ items d, p y = true) ∨ ∃ i : Nat, oddOf p d = .int (i : Int) := by
  unfold oddOf
  cases e : isList d with
  | false => exact .inr ⟨0, rfl⟩
  | true =>
    rw [if_pos rfl]
    cases h : firstOdd p (items d) with
    | none =>
      refine .inl ⟨rfl, rfl, fun y hy => ?_⟩
      unfold firstOdd at h
      rw [List.findIdx?_eq_none_iff] at h
      simpa using h y hy
    | some i => exact .inr ⟨i, rfl⟩
theorem ok_checked_stays (B : Bi mg) {CS : Addr} (eS : KnE P w K mg base "BadStays" CS "index") {f : Addr} {fd : FuncData} (F : Fun K "checked_stays" "checked_stays" s_checked_stays f fd) (h1 : Kn P w K mg base T "first_odd" 5 (fod P w K mg base T 3))
    {fs : Addr} (hs : mg "is_stay" = some (.ref fs)) (hf : FnAt K fs) (hk : KnA P w K mg base T fs 3 (pred isStay)) : FnOk P w K mg base (L2.CX P w) 7 f fd ["stays"] (spD K T (chkN CS)) := by
  refine okD F sc_checked_stays (fun ds g C h => by obtain ⟨d, rfl, _⟩ := h; rfl) (fun cdv A outer s H E An ds g C hr tk h => ?_)
  obtain ⟨d, rfl, ty, hz, h⟩ := h
  have nd := sc_checked_stays.nd
  show DSs _ T An ⟨[.dat d, .non, .non], [], An.ws, g⟩ _ _
  walk_at "go"
  refine de_fn hs hf ?_
  walk_at "go"
  refine ⟨d, fs, isStay, rfl, hk, ty, hz, ?_⟩
  walk_at "n"
  rcases natD_eq (p := isStay) (d := d) with ⟨eo, el, ha⟩ | ⟨i, eo⟩
  · rw [eo] at h
    rw [eo]
    have hn : C (.new ((items d).map tupS) g) := by
      rcases h with ⟨_, h⟩ | ⟨z, _⟩
      · exact h
      · exact absurd rfl z
    walk_at "go"
    refine ⟨rfl, fun z => (by cases z), fun _ => ?_⟩
    walk_at "go"
    refine dv_lc rfl nd (blkOk_by (own := [("stay", 2)]) (by kernel_rfl)) (di_seq (de_name ?_))
    refine ⟨items d, isList_seq el, lcd_fm (fun y => [tupS y]) rfl hz (fun i y acc D0 ey => ?_) fun a => ?_⟩
    · have hy := ha y (List.mem_of_getElem? ey)
      have hl : isList y = true := by
        cases y <;> first | rfl | (cases hy; done)
      walk_at "blk"
      walk_at "gg"
      walk_at "blk"
      refine dts_nil ⟨fun _ => ?_, fun z => (by cases z)⟩
      walk_at "blk"
      refine de_dv (dv_tuple B.tuple ?_)
      walk_at "go"
      exact ⟨_, isList_seq hl, rfl, rfl, rfl, rfl⟩
    · rw [← List.map_eq_flatMap]
      exact ⟨rfl, hn⟩
  · rw [eo] at h
    rw [eo]
    have hn : C (.exc CS [("index", .int (i : Nat))] g) := by
      rcases h with ⟨z, _⟩ | ⟨_, h⟩
      · cases z
      · exact h
    walk_at "go"
    refine ⟨rfl, fun _ => ?_, fun z => (by cases z)⟩
    walk_at "s1"
    refine ds_raise eS (hr.mono (by decide)) tk ?_
    walk_at "go"
    exact ⟨rfl, hn⟩
/-- check_many -/
def cmN (p : D → Bool) (CM : Addr) (fn : Str) : DF := fun ds g C => ∃ d, ds = [d] ∧ wt d = true ∧ ((p d = true ∧ C (.ret .non g)) ∨ (p d = false ∧ C (.exc CM [(fn, d)] g)))
end
end K70
end

section
namespace DL
open PySem L2
abbrev Stay := Int × Int × Int
def stD (s : Stay) : D := .tup [.int s.1, .int s.2.1, .int s.2.2]
def begOf (l : List Stay) (j : Nat) : Int := ((l[j]?).getD (0, 0, 0)).1
def idD (i : Nat) : D := .int (i : Int)
/-- who is bound on a day -/
def isOn (day : Int) (s : Stay) : Bool := decide (s.1 ≤ day) && decide (day ≤ s.2.1 + s.2.2)
def boundIx (l : List Stay) (day : Int) : List Nat := (l.zipIdx.filter fun p => isOn day p.1).map (·.2)
def countOn (l : List Stay) (day : Int) : Nat := (l.filter (isOn day)).length
theorem boundIx_len (l : List Stay) (day : Int) : (boundIx l day).length = countOn l day := by
  unfold boundIx countOn
  rw [List.length_map]
  have key : ∀ (l : List Stay) (n : Nat), ((l.zipIdx n).filter fun p => isOn day p.1).length = (l.filter (isOn day)).length := by
    intro l
    induction l with
    | nil => intro n; rfl
    | cons s l ih =>
      intro n
      rw [List.zipIdx_cons, List.filter_cons, List.filter_cons]
      by_cases h : isOn day s = true
      · rw [if_pos h, if_pos h, List.length_cons, List.length_cons, ih]
      · rw [if_neg h, if_neg h, ih]
  exact key l 0
def mostOn (l : List Stay) : Int := match l.map fun s => (countOn l s.1 : Int) with
  | [] => 0
  | n :: ns => ns.foldl max n
def freeIx (ends : List Int) (day : Int) : List Nat := (ends.zipIdx.filter fun p => decide (p.1 < day)).map (·.2)
theorem getI {α : Type} {l : List α} {i : Nat} {x : α} (f : α → D) (h : (l.map f)[i]? = some (f x) → True) : True := trivial
end DL
open PySem L2 DL
namespace K70
section
variable {P : Program} {w : World} {K : PySem.W.Frag} {mg : Str → Option Value} {base : Heap} {T : List (Addr × Str)}
/-- bound_on -/
def bonN : DF := fun ds g C => ∃ (l : List Stay) (day : Int), ds = [.lst (l.map stD), .int day] ∧ l.length ≤ 2 ^ 20 ∧ C (.new ((boundIx l day).map idD) g)
theorem bon_list (day : Int) : ∀ (l : List Stay) (n : Nat), (enumOf n (l.map stD)).flatMap (fun x => match x with | .tup [.int j, .tup [.int b, .int e, .int f]] => if isOn day (b, e, f) then [.int j] else [] | _ => []) = (((l.zipIdx n).filter fun p => isOn day p.1).map (·.2)).map idD
  | [], n => rfl
  | (b, e, f) :: l, n => by
    rw [List.map_cons, enumOf, List.flatMap_cons, bon_list day l (n + 1), List.zipIdx_cons, List.filter_cons]
    by_cases h : isOn day (b, e, f) = true
    · rw [if_pos h]
      simp only [stD, h, if_true, List.map_cons, List.singleton_append]
      rfl
    · rw [if_neg h]
      simp only [stD, h]
      rfl
theorem ok_bound_on (B : Bi mg) {f : Addr} {fd : FuncData} (F : Fun K "bound_on" "bound_on" s_bound_on f fd) : FnOk P w K mg base (L2.CX P w) 1 f fd ["stays", "day"] (spD K T bonN) := by
  refine okD F sc_bound_on (fun ds g C h => by obtain ⟨l, day, rfl, _⟩ := h; rfl) (fun cdv A outer s H E An ds g C hr tk h => ?_)
  obtain ⟨l, day, rfl, hz, h⟩ := h
  have nd := sc_bound_on.nd
  have hz1 : l.length < sizeLine := by rw [sizeLine_eq]; omega
  show DSs _ T An ⟨[.dat (.lst (l.map stD)), .dat (.int day), .non, .non, .non, .non], [], An.ws, g⟩ _ _
  walk_at "go"
  refine dv_lc rfl nd (blkOk_by (own := [("index", 2), ("begin", 3), ("end", 4), ("life", 5)]) (by kernel_rfl)) (di_enum B.enumerate ?_)
  walk_at "go"
  refine ⟨_, rfl, lcd_fm (fun x => match x with | .tup [.int j, .tup [.int b, .int e, .int f]] => if isOn day (b, e, f) then [.int j] else [] | _ => []) rfl (by rw [enumOf_len, List.length_map]; exact hz1) (fun i y acc D0 ey => ?_) fun a => ?_⟩
  · rw [enumOf_get, List.getElem?_map] at ey
    obtain ⟨x, ex, rfl⟩ := Option.map_eq_some_iff.mp ey
    obtain ⟨⟨b, e, f⟩, es, rfl⟩ := Option.map_eq_some_iff.mp ex
    walk_at "blk"
    walk_at "gg"
    walk_at "blk"
    walk_at "go"
    refine ⟨fun e1 => ?_, fun e1 => ?_⟩
    · walk_at "go"
      refine ⟨fun e2 => ?_, fun e2 => ?_⟩
      · walk_at "blk"
        walk_at "go"
        have e3 : isOn day (b, e, f) = true := by unfold isOn; rw [e1, e2]; rfl
        exact ⟨by simp only [stD, e3, if_true], rfl, rfl, rfl⟩
      · have e3 : isOn day (b, e, f) = false := by unfold isOn; rw [e1, e2]; rfl
        exact ⟨by simp only [stD, e3]; rfl, rfl, rfl, rfl⟩
    · have e3 : isOn day (b, e, f) = false := by unfold isOn; rw [e1]; rfl
      exact ⟨fun z => (by cases z), fun _ => ⟨by simp only [stD, e3]; rfl, rfl, rfl, rfl⟩⟩
  · rw [bon_list]
    exact ⟨rfl, h⟩
/-- most_bound -/
def mboN : DF := fun ds g C => ∃ (l : List Stay), ds = [.lst (l.map stD)] ∧ l.length ≤ 2 ^ 20 ∧ C (.ret (.int (mostOn l)) g)
theorem ok_most_bound (B : Bi mg) {f : Addr} {fd : FuncData} (F : Fun K "most_bound" "most_bound" s_most_bound f fd) (h1 : Kn P w K mg base T "bound_on" 1 bonN) : FnOk P w K mg base (L2.CX P w) 3 f fd ["stays"] (spD K T mboN) := by
  refine okD F sc_most_bound (fun ds g C h => by obtain ⟨l, rfl, _⟩ := h; rfl) (fun cdv A outer s H E An ds g C hr tk h => ?_)
  obtain ⟨l, rfl, hz, h⟩ := h
  have nd := sc_most_bound.nd
  have hz1 : l.length < sizeLine := by rw [sizeLine_eq]; omega
  show DSs _ T An ⟨[.dat (.lst (l.map stD)), .non], [], An.ws, g⟩ _ _
  walk_at "s1"
  walk_at "s1"
  refine dv_maxDef B (hr.mono (by decide)) (de_dv (dv_lc rfl nd (blkOk_by (own := [("stay", 1)]) (by kernel_rfl)) (di_seq (de_name ?_))))
  refine ⟨l.map stD, rfl, lcd_fm (fun x => match x with | .tup [.int b, _, _] => [.int (countOn l b : Nat)] | _ => []) rfl (by rw [List.length_map]; exact hz1) (fun i y acc D0 ey => ?_) fun a => ?_⟩
  · rw [List.getElem?_map] at ey
    obtain ⟨⟨b, e, f⟩, es, rfl⟩ := Option.map_eq_some_iff.mp ey
    walk_at "blk"
    walk_at "gg"
    walk_at "blk"
    walk_at "go"
    refine ⟨fun _ => ?_, fun z => (by cases z)⟩
    walk_at "blk"
    walk_at "go"
    refine ixD_seq (j := 0) rfl rfl rfl ?_
    walk_at "go"
    refine ⟨l, b, rfl, hz, ?_⟩
    intro a
    walk_at "go"
    refine lenD_seq rfl ?_
    refine ⟨?_, rfl, rfl, rfl⟩
    rw [List.length_map, boundIx_len]
    rfl
  · walk_at "go"
    refine ⟨l.map fun s => (countOn l s.1 : Int), ?_, .inl rfl, ?_⟩
    · show some _ = some _
      congr 1
      generalize countOn l = c
      clear h hz hz1
      induction l with
      | nil => rfl
      | cons s l ih => rw [List.map_cons, List.flatMap_cons, ih]; rfl
    · have e : extD max (l.map fun s => (countOn l s.1 : Int)) (.int 0) = .int (mostOn l) := by
        unfold mostOn
        cases (l.map fun s => (countOn l s.1 : Int)) <;> rfl
      rw [e]
      exact h
end
end K70
end

section
namespace DL
open PySem L2
theorem toPys_stays : ∀ l : List Stay, toPys (l.map stD) = some (l.map fun s => PyData.tuple [.int s.1, .int s.2.1, .int s.2.2])
  | [] => by rw [List.map_nil, toPys]; rfl
  | s :: l => by
    rw [List.map_cons, toPys, toPys_stays l]
    rfl
theorem toPy_stays (l : List Stay) : toPy (.lst (l.map stD)) = some (.list (l.map fun s => PyData.tuple [.int s.1, .int s.2.1, .int s.2.2])) := by
  rw [toPy, toPys_stays]
  rfl
/-- what the law's own data is -/
def staysOf (d : D) : Option (List Stay) := if isList d then (items d).mapM fun y => match items y with
  | [.int b, .int e, .int l] => if 0 ≤ b ∧ 0 ≤ e ∧ 0 ≤ l ∧ b ≤ e then some (b, e, l) else none
  | _ => none
  else none
end DL
open PySem L2 DL
namespace K70
section
variable {P : Program} {w : World} {K : PySem.W.Frag} {mg : Str → Option Value} {base : Heap} {T : List (Addr × Str)}
/-- the code object at c of the def qual, its table at p -/
structure Tb (base : Heap) (mg : Str → Option Value) (T : List (Addr × Str)) (qual : Str) (c p : Addr) : Prop where
  tb : LamX.TabB base mg c p
  mem : (p, qual ++ ".<locals>." ++ "<lambda>") ∈ T
  uniq : ∀ q ∈ T, q.1 = p → q.2 = qual ++ ".<locals>." ++ "<lambda>"
/-- least_addresses -/
def lstN (CS : Addr) : DF := fun ds g C => ∃ d, ds = [d] ∧ wt d = true ∧ (items d).length ≤ 2 ^ 20 ∧
  ((∃ l : List Stay, oddOf isStay d = .non ∧ (items d).map tupS = l.map stD ∧ C (.ret (.int (mostOn l)) g)) ∨ (oddOf isStay d ≠ .non ∧ C (.exc CS [("index", oddOf isStay d)] g)))
theorem ok_least (B : Bi mg) {CS f : Addr} {fd : FuncData} (F : Fun K "least_addresses" "least_addresses" s_least_addresses f fd) (h1 : Kn P w K mg base T "checked_stays" 7 (chkN CS)) (h2 : Kn P w K mg base T "most_bound" 3 mboN) : FnOk P w K mg base (L2.CX P w) 8 f fd ["stays"] (spD K T (lstN CS)) := by
  refine okD F sc_least_addresses (fun ds g C h => by obtain ⟨d, rfl, _⟩ := h; rfl) (fun cdv A outer s H E An ds g C hr tk h => ?_)
  obtain ⟨d, rfl, ty, hz, h⟩ := h
  have nd := sc_least_addresses.nd
  have hz1 : (items d).length < sizeLine := by rw [sizeLine_eq]; omega
  show DSs _ T An ⟨[.dat d], [], An.ws, g⟩ _ _
  walk_at "go"
  refine ⟨d, rfl, ty, hz1, ?_⟩
  rcases h with ⟨l, eo, el, h⟩ | ⟨eo, h⟩
  · refine .inl ⟨eo, ?_⟩
    intro a
    walk_at "go"
    rw [el]
    refine ⟨l, rfl, ?_, ?_⟩
    · have := congrArg List.length el
      rw [List.length_map, List.length_map] at this
      omega
    · exact ⟨.inl rfl, h⟩
  · exact .inr ⟨eo, rfl, h⟩
end
end K70
end

section
open PySem L2 DL
namespace K70
section
variable {P : Program} {w : World} {K : PySem.W.Frag} {mg : Str → Option Value} {base : Heap} {T : List (Addr × Str)}
/-- _law_draw: a number from 0 on, below many; one of the stream's fuel -/
def draN : DF := fun ds g C => ∃ many : Nat, ds = [.strm, .int (many : Int)] ∧ 0 < many ∧ many < 1073741824 ∧ 1 ≤ g ∧ ∀ r : Nat, r < many → C (.ret (.int (r : Int)) (g - 1))
theorem ok_law_draw (B : Bi mg) {f : Addr} {fd : FuncData} (F : Fun K "_law_draw" "_law_draw" s__law_draw f fd) : FnOk P w K mg base (L2.CX P w) 1 f fd ["stream", "many"] (spD K T draN) := by
  refine okD F sc__law_draw (fun ds g C h => by obtain ⟨many, rfl, _⟩ := h; rfl) (fun cdv A outer s H E An ds g C hr tk h => ?_)
  obtain ⟨many, rfl, hm, hm2, hg, h⟩ := h
  have nd := sc__law_draw.nd
  have mod_lt : ∀ x : Int, ∃ r : Nat, r < many ∧ x.fmod (many : Int) = (r : Int) := fun x => by
    have h1 : 0 ≤ x.fmod (many : Int) := Int.fmod_nonneg_of_pos x (by omega)
    have h2 : x.fmod (many : Int) < many := Int.fmod_lt_of_pos x (by omega)
    exact ⟨(x.fmod (many : Int)).toNat, by omega, by omega⟩
  show DSs _ T An ⟨[.dat .strm, .dat (.int many), .non, .non], [], An.ws, g⟩ _ _
  refine dss_cons (ds_if ?_)
  walk_at "gs"
  refine ⟨.inl rfl, fun n sp => ?_⟩
  walk_at "gs"
  refine ⟨fun e1 => ?_, fun e1 => ?_⟩
  · walk_at "gs"
    refine ⟨.inl rfl, fun n2 sp2 => ?_⟩
    walk_at "gs"
    refine ⟨by omega, ?_⟩
    walk_at "gs"
    refine ds_store ?_
    walk_at "gs"
    refine ⟨.inl rfl, fun n3 sp3 => ?_⟩
    walk_at "gs"
    refine ⟨by omega, ?_⟩
    refine dg_strm ?_
    walk_at "gs"
    refine ⟨rfl, ?_⟩
    walk_at "gs"
    have q0 : 0 ≤ n3.fdiv (many : Int) := Int.fdiv_nonneg sp3.1 (by omega)
    refine ⟨_, g - 1, rfl, .inl rfl, by show g - 1 ≤ g; omega, ⟨q0, fun z => (by cases z), fun z => (by cases z)⟩, ?_⟩
    walk_at "gs"
    obtain ⟨r, hr1, hr2⟩ := mod_lt n2
    rw [hr2]
    exact ⟨.inl rfl, h r hr1⟩
  · walk_at "gs"
    refine ds_store ?_
    walk_at "gs"
    refine ⟨.inr (.inr rfl), fun n2 sp2 => ?_⟩
    walk_at "gs"
    refine dg_strm ?_
    walk_at "gs"
    refine ⟨rfl, ?_⟩
    walk_at "gs"
    obtain ⟨p1, p2, p3⟩ := sp2
    have p4 := p3 rfl
    have p4' : n2 + (g : Int) ≤ (big : Int) := p4
    refine ⟨_, g - 1, rfl, .inr (.inr rfl), by show g - 1 ≤ g; omega, ⟨by omega, fun z => (by cases z), fun _ => (by omega)⟩, ?_⟩
    walk_at "gs"
    refine ⟨.inr (.inl rfl), fun n3 sp3 => ?_⟩
    walk_at "gs"
    refine ⟨.inr (.inr rfl), fun n4 sp4 => ?_⟩
    have b0 : (big : Int) = 1099511627776 := rfl
    obtain ⟨u1, u2, _⟩ := sp3
    obtain ⟨v1, _, v3⟩ := sp4
    have u2 := u2 rfl
    have v3 := v3 rfl
    have v3' : n4 + ((g - 1 : Nat) : Int) ≤ (big : Int) := v3
    refine ⟨.inl (by omega), ?_⟩
    walk_at "gs"
    refine ⟨⟨by omega, by omega, by omega⟩, ?_⟩
    walk_at "gs"
    refine ⟨by omega, ?_⟩
    walk_at "gs"
    refine ⟨.inr (.inr rfl), fun n5 sp5 => ?_⟩
    walk_at "gs"
    refine ⟨.inr (by omega), ?_⟩
    walk_at "gs"
    refine ⟨by omega, ?_⟩
    walk_at "gs"
    refine ⟨by omega, ?_⟩
    walk_at "gs"
    refine ⟨by omega, ?_⟩
    walk_at "n"
    obtain ⟨r, hr1, hr2⟩ := mod_lt ((Int.fmod ((Int.fmod ((n3 + 7919 * n4 + 104729) ^ (5 : Int).toNat) 2147483647 + n5) * 40692) 2147483629).fdiv 7)
    rw [hr2]
    exact ⟨.inl rfl, h r hr1⟩
end
end K70
end

section
open PySem L2 DL
namespace K70
section
variable {P : Program} {w : World} {K : PySem.W.Frag} {mg : Str → Option Value} {base : Heap} {T : List (Addr × Str)}
/-- _law_pick: one of some things -/
def picN : DF := fun ds g C => ∃ xs : List D, ds = [.strm, .lst xs] ∧ 0 < xs.length ∧ xs.length < 1073741824 ∧ 1 ≤ g ∧ ∀ d ∈ xs, C (.ret d (g - 1))
theorem ok_law_pick (B : Bi mg) {f : Addr} {fd : FuncData} (F : Fun K "_law_pick" "_law_pick" s__law_pick f fd) (h1 : Kn P w K mg base T "_law_draw" 1 draN) : FnOk P w K mg base (L2.CX P w) 2 f fd ["stream", "things"] (spD K T picN) := by
  refine okD F sc__law_pick (fun ds g C h => by obtain ⟨many, rfl, _⟩ := h; rfl) (fun cdv A outer s H E An ds g C hr tk h => ?_)
  obtain ⟨xs, rfl, hm, hm2, hg, h⟩ := h
  have nd := sc__law_pick.nd
  show DSs _ T An ⟨[.dat .strm, .dat (.lst xs)], [], An.ws, g⟩ _ _
  walk_at "go"
  refine lenD_seq rfl ?_
  walk_at "go"
  refine ⟨xs.length, rfl, hm, hm2, hg, fun r hr1 => ?_⟩
  obtain ⟨d, ed⟩ : ∃ d, xs[r]? = some d := ⟨xs[r], List.getElem?_eq_getElem hr1⟩
  walk_at "n"
  refine ixD_seq (d := .lst xs) (j := r) rfl ed rfl ?_
  exact ⟨.inl rfl, h d (List.mem_of_getElem? ed)⟩
theorem mix_ints (ns : List Int) : ∀ i : Nat, ∃ ms : List Int, (enumOf i (ns.map D.int)).flatMap (fun x => match x with | .tup [.int i, .int j] => [D.int ((i + 1) * (if j < 0 then -j else j))] | _ => []) = ms.map D.int := by
  induction ns with
  | nil => exact fun i => ⟨[], rfl⟩
  | cons n ns ih =>
    intro i
    obtain ⟨ms, e⟩ := ih (i + 1)
    refine ⟨((i : Int) + 1) * (if n < 0 then -n else n) :: ms, ?_⟩
    rw [List.map_cons, enumOf, List.flatMap_cons, e]
    rfl
/-- _law_stream: a stream's three numbers -/
def strN : DF := fun ds g C => ∃ (ns : List Int) (k : Nat), ds = [.kl (ns.map D.int), .int (k : Int)] ∧ ns.length ≤ 63 ∧ k ≤ 1000 ∧ ∀ c m : Int, 0 ≤ c → 0 ≤ m → m < (big : Int) → C (.new [.int c, .int m, .int 0] g)
theorem ok_law_stream (B : Bi mg) {f : Addr} {fd : FuncData} (F : Fun K "_law_stream" "_law_stream" s__law_stream f fd) : FnOk P w K mg base (L2.CX P w) 1 f fd ["script", "k"] (spD K T strN) := by
  refine okD F sc__law_stream (fun ds g C h => by obtain ⟨ns, k, rfl, _⟩ := h; rfl) (fun cdv A outer s H E An ds g C hr tk h => ?_)
  obtain ⟨ns, k, rfl, hn, hk, h⟩ := h
  have nd := sc__law_stream.nd
  show DSs _ T An ⟨[.dat (.kl (ns.map D.int)), .dat (.int k), .non, .non, .non, .non], [], An.ws, g⟩ _ _
  refine dss_cons (ds_set nd (dv_imp (C1 := fun r ρ' => ∃ c : Int, 0 ≤ c ∧ r = .v (.int c) ∧ ρ' = ⟨[.dat (.kl (ns.map D.int)), .dat (.int k), .non, .non, .non, .non], [], An.ws, g⟩) ?_ ?_))
  · walk_at "go"
    refine lenD_seq rfl ?_
    walk_at "go"
    rw [List.length_map]
    refine ⟨fun e1 => ?_, fun e1 => ?_⟩
    · have e2 : k < ns.length := by simpa using e1
      walk_at "go"
      refine ixD_seq (d := .kl (ns.map D.int)) (j := k) (e := .int ns[k]) rfl (by rw [List.getElem?_map, List.getElem?_eq_getElem e2]; rfl) rfl ?_
      walk_at "go"
      refine ⟨_, ?_, rfl, rfl⟩
      split <;> omega
    · walk_at "go"
      refine ⟨_, rfl, fun a => ?_⟩
      obtain ⟨ms, em⟩ : ∃ ms : List Int, cutD (ns.map D.int) none (some 1) = ms.map D.int := ⟨_, by unfold cutD; rw [← List.map_drop, ← List.map_take]⟩
      rw [em]
      walk_at "go"
      refine ⟨ms, rfl, ?_⟩
      walk_at "go"
      refine ⟨by decide, ?_⟩
      walk_at "go"
      refine ⟨.inl ⟨by decide, by decide⟩, _, ?_, rfl, rfl⟩
      have h1 : 0 ≤ (ms.sum).fmod 1000003 := Int.fmod_nonneg_of_pos _ (by decide)
      omega
  · rintro r ρ' ⟨c, hc, rfl, rfl⟩
    refine dss_cons (ds_set nd (dv_de ?_))
    walk_at "e1"
    refine de_dv ?_
    walk_at "v1"
    walk_at "s1"
    refine de_dv (dv_lc rfl nd (blkOk_by (own := [("at", 3), ("one", 4)]) (by kernel_rfl)) (di_enum B.enumerate ?_))
    walk_at "go"
    refine ⟨_, rfl, lcd_fm (fun x => match x with | .tup [.int i, .int j] => [D.int ((i + 1) * (if j < 0 then -j else j))] | _ => []) rfl (by rw [enumOf_len, List.length_map, sizeLine_eq]; omega) (fun i y acc D0 ey => ?_) fun a => ?_⟩
    · rw [enumOf_get, List.getElem?_map] at ey
      obtain ⟨y1, ey1, rfl⟩ := Option.map_eq_some_iff.mp ey
      obtain ⟨n, en, rfl⟩ := Option.map_eq_some_iff.mp ey1
      have hi : i < 63 := by
        obtain ⟨z, _⟩ := List.getElem?_eq_some_iff.mp en
        omega
      walk_at "blk"
      walk_at "gg"
      walk_at "blk"
      walk_at "s1"
      refine ⟨fun _ => ?_, fun z => (by cases z)⟩
      walk_at "blk"
      walk_at "go"
      refine ⟨.inl (by omega), ?_⟩
      exact ⟨rfl, rfl, rfl, rfl⟩
    · obtain ⟨ms, em⟩ := mix_ints ns 0
      rw [em]
      walk_at "go"
      refine ⟨ms, rfl, ?_⟩
      walk_at "go"
      refine ⟨by decide, ?_⟩
      walk_at "go"
      refine ⟨⟨by decide, by decide, by decide⟩, fun e3 => ?_, fun e3 => ?_⟩
      · walk_at "go"
        refine ⟨by decide, ?_⟩
        walk_at "go"
        refine ⟨.inl (by decide), ?_⟩
        walk_at "go"
        refine ⟨by show 3 ≤ sizeLine; decide, fun a8 => ?_⟩
        have q1 := Int.fmod_nonneg_of_pos (c + Int.fmod ms.sum 2147483647) (show (0 : Int) < 2147483647 by decide)
        have q2 := Int.fmod_lt_of_pos (c + Int.fmod ms.sum 2147483647) (show (0 : Int) < 2147483647 by decide)
        refine ⟨rfl, h _ _ hc ?_ ?_⟩
        · omega
        · have b0 : (big : Int) = 1099511627776 := rfl
          omega
      · walk_at "go"
        refine ⟨by decide, ?_⟩
        walk_at "go"
        refine ⟨.inl (by decide), ?_⟩
        walk_at "go"
        refine ⟨by show 3 ≤ sizeLine; decide, fun a8 => ?_⟩
        have q1 := Int.fmod_nonneg_of_pos (c + Int.fmod ms.sum 2147483647) (show (0 : Int) < 2147483647 by decide)
        have q2 := Int.fmod_lt_of_pos (c + Int.fmod ms.sum 2147483647) (show (0 : Int) < 2147483647 by decide)
        refine ⟨rfl, h _ _ (Int.le_refl 0) ?_ ?_⟩
        · omega
        · have b0 : (big : Int) = 1099511627776 := rfl
          omega
end
end K70
end

section
namespace DL
open PySem L2
def asF (Dom : D → Prop) (Pr : D → D → Prop) (c : Nat) : DF := fun ds g C => ∃ x, ds = [.strm, x] ∧ Dom x ∧ c ≤ g ∧ ∀ y g', Pr x y → g - c ≤ g' → g' ≤ g → (C (.ret y g') ∧ ∀ es, y = .lst es → C (.new es g'))
def DomL (Dom : D → Prop) (N : Nat) : D → Prop := fun x => ∃ xs, (x = .lst xs ∨ x = .tup xs) ∧ xs.length ≤ N ∧ ∀ d ∈ xs, Dom d
def PrL (Pr : D → D → Prop) : D → D → Prop := fun x y => ∃ es, (y = .lst es ∨ y = .tup es) ∧ es.length = (items x).length ∧ ∀ (i : Nat) d e, (items x)[i]? = some d → es[i]? = some e → Pr d e
def isInt : D → Prop := fun x => ∃ i : Int, x = .int i
def eqI : D → D → Prop := fun x y => y = x
end DL
open PySem L2 DL
namespace K70
section
variable {P : Program} {w : World} {K : PySem.W.Frag} {mg : Str → Option Value} {base : Heap} {T : List (Addr × Str)}
theorem as_len {Dom Pr c} (ds : List D) (g : Nat) (C : Out → Prop) (h : asF Dom Pr c ds g C) : ds.length = 2 := by
  obtain ⟨x, rfl, _⟩ := h
  rfl
theorem ok_as0 (B : Bi mg) {f : Addr} {fd : FuncData} (F : Fun K "_law_as_lists" "_law_as_lists" s__law_as_lists f fd) : FnOk P w K mg base (L2.CX P w) 1 f fd ["stream", "thing"] (spD K T (asF isInt eqI 0)) := by
  refine okD F sc__law_as_lists as_len (fun cdv A outer s H E An ds g C hr tk h => ?_)
  obtain ⟨x, rfl, ⟨i, rfl⟩, hg, h⟩ := h
  have nd := sc__law_as_lists.nd
  show DSs _ T An ⟨[.dat .strm, .dat (.int i), .non, .non], [], An.ws, g⟩ _ _
  refine dss_cons (ds_if ?_)
  refine dt_tru (de_isis B.isinstance (.cons rfl B.list bt_list (by decide) (by decide) rfl (.cons rfl B.tuple bt_tuple (by decide) (by decide) rfl .nil)) (by decide) (by simp) ?_)
  walk_at "go"
  refine ⟨false, rfl, false, rfl, fun z => (by cases z), fun _ => ?_⟩
  walk_at "go"
  exact ⟨.inl rfl, (h (.int i) g rfl (by omega) (Nat.le_refl _)).1⟩
theorem ok_as1 (B : Bi mg) {f : Addr} {fd : FuncData} (F : Fun K "_law_as_lists" "_law_as_lists" s__law_as_lists f fd) (h1 : Kn P w K mg base T "_law_draw" 1 draN) {k : Nat} (hk : 1 ≤ k) {Dom : D → Prop} {Pr : D → D → Prop} {c : Nat} (hs : Kn P w K mg base T "_law_as_lists" k (asF Dom Pr c)) (N : Nat) (hN : N < sizeLine) :
    FnOk P w K mg base (L2.CX P w) (k + 1) f fd ["stream", "thing"] (spD K T (asF (DomL Dom N) (PrL Pr) (1 + N * c))) := by
  refine okD F sc__law_as_lists as_len (fun cdv A outer s H E An ds g C hr tk h => ?_)
  obtain ⟨x, rfl, ⟨xs, hx, hl, hd⟩, hg, h⟩ := h
  have nd := sc__law_as_lists.nd
  have hr1 : Room 1 (A.deeper (PyProof.Rows.envOfC "_law_as_lists" (defScope s__law_as_lists) s.heap.objs.size f cdv)) := hr.mono hk
  have ei : seqD x = some xs := by rcases hx with rfl | rfl <;> rfl
  have eit : items x = xs := by rcases hx with rfl | rfl <;> rfl
  have ety : isTys x ["list", "tuple"] = some true := by rcases hx with rfl | rfl <;> rfl
  show DSs _ T An ⟨[.dat .strm, .dat x, .non, .non], [], An.ws, g⟩ _ _
  refine dss_cons (ds_if ?_)
  refine dt_tru (de_isis B.isinstance (.cons rfl B.list bt_list (by decide) (by decide) rfl (.cons rfl B.tuple bt_tuple (by decide) (by decide) rfl .nil)) (by decide) (by simp) ?_)
  walk_at "go"
  refine ⟨true, ety, true, rfl, fun _ => ?_, fun z => (by cases z)⟩
  refine dss_cons (ds_setLc rfl nd (blkOk_by (own := [("part", 2)]) (by kernel_rfl)) rfl rfl (di_seq (de_name ?_)))
  refine ⟨xs, ei, lcd_gas (fun i acc g' => acc.length = i ∧ g - i * c ≤ g' ∧ g' ≤ g ∧ ∀ (j : Nat) d e, xs[j]? = some d → acc[j]? = some e → Pr d e) rfl ⟨rfl, Nat.sub_le _ _, Nat.le_refl _, fun j d e _ z => (by cases z)⟩ (by omega) (fun i d acc D0 g1 ed hJ => ?_) fun acc g1 a hJ => ?_⟩
  · obtain ⟨j1, j2, j3, j4⟩ := hJ
    have hi : i < xs.length := by
      obtain ⟨z, _⟩ := List.getElem?_eq_some_iff.mp ed
      exact z
    have hic : i * c + c ≤ N * c := by
      have : (i + 1) * c ≤ N * c := Nat.mul_le_mul_right c (by omega)
      rwa [Nat.succ_mul] at this
    walk_at "blk"
    walk_at "gg"
    walk_at "blk"
    refine dts_nil ⟨fun _ => ?_, fun z => (by cases z)⟩
    walk_at "blk"
    refine de_dv (dv_call hs hr tkF ?_)
    walk_at "gs"
    have hgc : c ≤ g1 := by omega
    refine ⟨d, rfl, hd d (List.mem_of_getElem? ed), hgc, fun y g' py l1 l2 => ?_⟩
    have fin : ∀ y, Pr d y → ((acc ++ [y]).length = i + 1 ∧ g - (i + 1) * c ≤ g' ∧ g' ≤ g ∧ ∀ (j : Nat) (d e : D), xs[j]? = some d → (acc ++ [y])[j]? = some e → Pr d e) := fun y py => by
      refine ⟨by rw [List.length_append, j1]; rfl, ?_, by omega, fun j d' e' q1 q2 => ?_⟩
      · have e9 : (i + 1) * c = i * c + c := Nat.succ_mul i c
        omega
      · by_cases hj : j < acc.length
        · rw [List.getElem?_append_left hj] at q2
          exact j4 j d' e' q1 q2
        · rw [List.getElem?_append_right (by omega)] at q2
          have ej : j = i := by
            obtain ⟨z, _⟩ := List.getElem?_eq_some_iff.mp q2
            have : ([y] : List D).length = 1 := rfl
            omega
          subst ej
          rw [j1, Nat.sub_self] at q2
          cases q2
          rw [ed] at q1
          cases q1
          exact py
    refine ⟨⟨rfl, rfl, fin y py⟩, fun es ey a => ?_⟩
    subst ey
    exact ⟨rfl, rfl, fin _ py⟩
  · obtain ⟨j1, j2, j3, j4⟩ := hJ
    have hlc : xs.length * c ≤ N * c := Nat.mul_le_mul_right c hl
    walk_at "gs"
    refine de_dv (dv_call h1 hr1 tkF ?_)
    walk_at "gs"
    refine ⟨2, rfl, by decide, by decide, by show 1 ≤ g1; omega, fun r hr3 => ?_⟩
    walk_at "gs"
    have pr : ∀ y, (y = .lst acc ∨ y = .tup acc) → PrL Pr x y := fun y hy => ⟨acc, hy, by rw [eit, j1], fun j d e q1 q2 => j4 j d e (by rw [← eit]; exact q1) q2⟩
    refine ⟨_, eqP_int, fun e1 => ?_, fun e1 => ?_⟩
    · refine dv_back ?_
      exact ⟨rfl, (h (.lst acc) (g1 - 1) (pr _ (.inl rfl)) (by omega) (by omega)).2 acc rfl⟩
    · walk_at "gs"
      refine ⟨acc, rfl, .inl rfl, ?_⟩
      exact (h (.tup acc) (g1 - 1) (pr _ (.inr rfl)) (by omega) (by omega)).1
end
end K70
end

section
namespace DL
open PySem L2
/-- what is looked through to its n-th depth -/
def sm : Nat → D → Bool
  | 0, _ => false
  | n + 1, d => match d with
    | .non => true
    | .bl _ => true
    | .int _ => true
    | .str x => SeqAt.shaped (.str x)
    | .fn _ => true
    | .dK [] => true
    | .lst ds => decide (ds.length < sizeLine) && ds.all (sm n)
    | .tup ds => decide (ds.length < sizeLine) && ds.all (sm n)
    | _ => false
def sameN (n : Nat) : DF := fun ds g C => ∃ d, ds = [d, d] ∧ sm n d = true ∧ C (.ret (.bl true) g)
theorem zip_self : ∀ ds : List D, zipOf ds ds = ds.map fun d => .tup [d, d]
  | [] => rfl
  | d :: ds => by rw [zipOf, zip_self ds]; rfl
end DL
open PySem L2 DL
namespace K70
section
variable {P : Program} {w : World} {K : PySem.W.Frag} {mg : Str → Option Value} {base : Heap} {T : List (Addr × Str)}
theorem same_len {n} (ds : List D) (g : Nat) (C : Out → Prop) (h : sameN n ds g C) : ds.length = 2 := by
  obtain ⟨x, rfl, _⟩ := h
  rfl
theorem ok_same0 {f : Addr} {fd : FuncData} (F : Fun K "_law_same" "_law_same" s__law_same f fd) : FnOk P w K mg base (L2.CX P w) 1 f fd ["found", "due"] (spD K T (sameN 0)) := by
  refine okD F sc__law_same same_len (fun cdv A outer s H E An ds g C hr tk h => ?_)
  obtain ⟨x, rfl, z, h⟩ := h
  cases z
theorem ok_same1 (B : Bi mg) {f : Addr} {fd : FuncData} (F : Fun K "_law_same" "_law_same" s__law_same f fd) {k n : Nat} (hs : Kn P w K mg base T "_law_same" k (sameN n)) : FnOk P w K mg base (L2.CX P w) (k + 1) f fd ["found", "due"] (spD K T (sameN (n + 1))) := by
  refine okD F sc__law_same same_len (fun cdv A outer s H E An ds g C hr tk h => ?_)
  obtain ⟨d, rfl, hd, h⟩ := h
  have nd := sc__law_same.nd
  show DSs _ T An ⟨[.dat d, .dat d, .non, .non, .non], [], An.ws, g⟩ _ _
  have lt2 : ∀ {ns : List String}, ns.length = 2 → ns.length ≤ sizeLine := fun {ns} e => by rw [e]; decide
  refine dss_cons (ds_if ?_)
  refine dt_tru (de_isis B.isinstance (.cons rfl B.list bt_list (by decide) (by decide) rfl (.cons rfl B.tuple bt_tuple (by decide) (by decide) rfl .nil)) (by decide) (by simp) ?_)
  walk_at "go"
  have step : ∀ xs : List D, (d = .lst xs ∨ d = .tup xs) → (isTys d ["list", "tuple"] = some true) := fun xs hx => by rcases hx with rfl | rfl <;> rfl
  by_cases hl : ∃ xs, d = .lst xs ∨ d = .tup xs
  · obtain ⟨xs, hx⟩ := hl
    have hq : xs.length < sizeLine ∧ xs.all (sm n) = true := by
      rcases hx with rfl | rfl <;> (unfold sm at hd; rw [Bool.and_eq_true, decide_eq_true_eq] at hd; exact hd)
    obtain ⟨hz, ha⟩ := hq
    have e0 : seqD d = some xs := by rcases hx with rfl | rfl <;> rfl
    obtain ⟨b1, b2, i1, i2⟩ : ∃ b1 b2, isTy d "list" = some b1 ∧ isTy d "tuple" = some b2 := by rcases hx with rfl | rfl <;> exact ⟨_, _, rfl, rfl⟩
    have eb : ∀ b : Bool, eqP (.bl b) (.bl b) = some true := fun b => by cases b <;> rfl
    refine ⟨true, step xs hx, true, rfl, fun _ => ?_, fun z => (by cases z)⟩
    walk_at "go"
    refine ⟨b1, i1, ?_⟩
    walk_at "go"
    refine ⟨b1, i1, true, eb b1, fun z => (by cases z), fun _ => ?_⟩
    walk_at "go"
    refine ⟨b2, i2, ?_⟩
    walk_at "go"
    refine ⟨b2, i2, true, eb b2, fun z => (by cases z), fun _ => ?_⟩
    walk_at "go"
    refine lenD_seq e0 ?_
    walk_at "go"
    refine lenD_seq e0 ?_
    walk_at "go"
    refine ⟨true, by rw [eqP_int]; simp, fun z => (by cases z), fun _ => ?_⟩
    refine dss_nil ?_
    refine dss_cons (ds_ret (dv_all rfl B.all (da_cons (de_dv (dv_lc rfl nd (blkOk_by (own := [("one", 2), ("other", 3)]) (by kernel_rfl)) (di_zip B.zip ?_))))))
    walk_at "go"
    have zd : ∀ {C : CL} {ρ : Ev}, C (zipOf xs xs) ρ → zipD C [d, d] ρ := fun {C ρ} c => by
      rcases hx with rfl | rfl
      · exact .inl ⟨xs, xs, rfl, rfl, c⟩
      · exact .inr ⟨xs, xs, rfl, rfl, c⟩
    refine zd ?_
    rw [zip_self]
    refine lcd_fm (fun _ => [.bl true]) rfl (by rw [List.length_map]; exact hz) (fun i y acc D0 ey => ?_) fun a => ?_
    · rw [List.getElem?_map] at ey
      obtain ⟨e, ee, rfl⟩ := Option.map_eq_some_iff.mp ey
      walk_at "blk"
      walk_at "gg"
      walk_at "blk"
      refine dts_nil ⟨fun _ => ?_, fun z => (by cases z)⟩
      walk_at "blk"
      refine de_dv (dv_call hs hr tkF ?_)
      walk_at "go"
      exact ⟨e, rfl, List.all_eq_true.mp ha e (List.mem_of_getElem? ee), rfl, rfl, rfl, rfl⟩
    · have ef : (xs.map fun d => D.tup [d, d]).flatMap (fun _ => [D.bl true]) = (List.replicate xs.length true).map D.bl := by
        clear hx e0 zd ha hz step
        induction xs with
        | nil => rfl
        | cons x xs ih => rw [List.map_cons, List.flatMap_cons, ih]; rfl
      rw [ef]
      walk_at "go"
      refine ⟨List.replicate xs.length true, rfl, ?_⟩
      have e9 : (List.replicate xs.length true).all id = true := by simp
      rw [e9]
      exact ⟨.inl rfl, h⟩
  · have e1 : isTys d ["list", "tuple"] = some false := by
      cases d <;> first | rfl | (exact absurd ⟨_, .inl rfl⟩ hl) | (exact absurd ⟨_, .inr rfl⟩ hl) | (cases hd)
    refine ⟨false, e1, false, rfl, fun z => (by cases z), fun _ => ?_⟩
    by_cases hk : d = .dK []
    · subst hk
      walk_at "go"
      refine ⟨true, rfl, true, rfl, fun _ => ?_, fun z => (by cases z)⟩
      refine dss_cons (ds_if ?_)
      refine dt_bool (dw_or (dt_not ?_))
      walk_at "go"
      refine ⟨true, rfl, true, rfl, fun z => (by cases z), fun _ => ?_⟩
      refine dw_or1 (dt_ne hr.units ?_)
      refine de_dv (dv_lstK rfl B.list ?_)
      walk_at "go"
      intro a1
      refine de_dv (dv_lstK rfl B.list ?_)
      walk_at "go"
      intro a3
      refine ⟨true, rfl, fun z => (by cases z), fun _ => ?_⟩
      refine dss_nil ?_
      refine dss_cons (ds_ret (dv_all rfl B.all (da_cons (de_dv (dv_lcKeys0 rfl nd (blkOk_by (own := [("key", 4)]) (by kernel_rfl)) rfl rfl fun a4 => ?_)))))
      walk_at "go"
      exact ⟨[], rfl, .inl rfl, h⟩
    · have hat : (d = .non ∨ (∃ b, d = .bl b) ∨ (∃ i, d = .int i) ∨ (∃ x, d = .str x ∧ SeqAt.shaped (.str x) = true) ∨ ∃ a, d = .fn a) := by
        cases d with
        | non => exact .inl rfl
        | bl b => exact .inr (.inl ⟨b, rfl⟩)
        | int i => exact .inr (.inr (.inl ⟨i, rfl⟩))
        | str x => exact .inr (.inr (.inr (.inl ⟨x, rfl, hd⟩)))
        | fn a => exact .inr (.inr (.inr (.inr ⟨a, rfl⟩)))
        | lst xs => exact absurd ⟨_, .inl rfl⟩ hl
        | tup xs => exact absurd ⟨_, .inr rfl⟩ hl
        | dK kvs => cases kvs with
          | nil => exact absurd rfl hk
          | cons _ _ => cases hd
        | _ => cases hd
      have e2 : isTy d "dict" = some false := by
        rcases hat with rfl | ⟨b, rfl⟩ | ⟨i, rfl⟩ | ⟨x, rfl, _⟩ | ⟨a, rfl⟩ <;> rfl
      refine dss_nil ?_
      refine dss_cons (ds_if ?_)
      walk_at "go"
      refine ⟨false, e2, false, rfl, fun z => (by cases z), fun _ => ?_⟩
      refine dss_nil ?_
      refine dss_cons (ds_if ?_)
      refine dt_tru (de_isis B.isinstance (.cons rfl B.bool bt_bool (by decide) (by decide) rfl (.cons rfl B.int bt_int (by decide) (by decide) rfl .nil)) (by decide) (by simp) ?_)
      walk_at "go"
      by_cases hw : (∃ b, d = .bl b) ∨ (∃ i, d = .int i)
      · have e3 : isTys d ["bool", "int"] = some true := by rcases hw with ⟨b, rfl⟩ | ⟨i, rfl⟩ <;> rfl
        refine ⟨true, e3, true, rfl, fun _ => ?_, fun z => (by cases z)⟩
        walk_at "go"
        have e4 : isTy d "int" = some true := by rcases hw with ⟨b, rfl⟩ | ⟨i, rfl⟩ <;> rfl
        obtain ⟨b2, e5⟩ : ∃ b2, isTy d "bool" = some b2 := by rcases hw with ⟨b, rfl⟩ | ⟨i, rfl⟩ <;> exact ⟨_, rfl⟩
        have e6 : eqP d d = some true := by
          rcases hw with ⟨b, rfl⟩ | ⟨i, rfl⟩
          · cases b <;> rfl
          · rw [eqP_int]; simp
        refine ⟨true, e4, fun _ => ?_, fun z => (by cases z)⟩
        walk_at "go"
        refine ⟨b2, e5, ?_⟩
        walk_at "go"
        refine ⟨b2, e5, true, (by cases b2 <;> rfl), ?_⟩
        walk_at "n"
        refine ⟨fun _ => ?_, fun z => (by cases z)⟩
        walk_at "go"
        exact ⟨true, e6, .inl rfl, h⟩
      · have e3 : isTys d ["bool", "int"] = some false := by
          rcases hat with rfl | ⟨b, rfl⟩ | ⟨i, rfl⟩ | ⟨x, rfl, _⟩ | ⟨a, rfl⟩ <;> first | rfl | (exact absurd (.inl ⟨_, rfl⟩) hw) | (exact absurd (.inr ⟨_, rfl⟩) hw)
        refine ⟨false, e3, false, rfl, fun z => (by cases z), fun _ => ?_⟩
        refine dss_nil ?_
        refine dss_cons (ds_ret (dv_de ?_))
        refine de_and (de_not (de_isis B.isinstance (.cons rfl B.bool bt_bool (by decide) (by decide) rfl (.cons rfl B.int bt_int (by decide) (by decide) rfl (.cons rfl B.list bt_list (by decide) (by decide) rfl (.cons rfl B.tuple bt_tuple (by decide) (by decide) rfl (.cons rfl B.dict bt_dict (by decide) (by decide) rfl .nil))))) (by decide) (by simp) ?_))
        walk_at "go"
        have e4 : isTys d ["bool", "int", "list", "tuple", "dict"] = some false := by
          rcases hat with rfl | ⟨b, rfl⟩ | ⟨i, rfl⟩ | ⟨x, rfl, _⟩ | ⟨a, rfl⟩ <;> first | rfl | (exact absurd (.inl ⟨_, rfl⟩) hw) | (exact absurd (.inr ⟨_, rfl⟩) hw)
        refine ⟨false, e4, fun _ => ?_, fun z => (by cases z)⟩
        by_cases hf : ∃ a, d = .fn a
        · obtain ⟨a, rfl⟩ := hf
          refine de_one (de_eqF hr.units ?_)
          walk_at "go"
          exact ⟨a, rfl, rfl, .inl rfl, h⟩
        · have e6 : eqP d d = some true := by
            rcases hat with rfl | ⟨b, rfl⟩ | ⟨i, rfl⟩ | ⟨x, rfl, hx⟩ | ⟨a, rfl⟩
            · rfl
            · exact absurd (.inl ⟨_, rfl⟩) hw
            · exact absurd (.inr ⟨_, rfl⟩) hw
            · show (if SeqAt.shaped (.str x) && SeqAt.shaped (.str x) then some (PyData.eqv (.str x) (.str x)) else none) = _
              rw [hx]
              simp [PyData.eqv]
            · exact absurd ⟨_, rfl⟩ hf
          walk_at "go"
          exact ⟨true, e6, .inl rfl, h⟩
end
end K70
end

section
namespace DL
open PySem L2
def isPos : D → Bool
  | .int i => decide (1 ≤ i)
  | _ => false
theorem isPos_int {d : D} (h : isPos d = true) : ∃ i : Nat, d = .int (i : Int) ∧ 1 ≤ i := by
  cases d <;> first | (cases h; done) | skip
  rename_i i
  have : 1 ≤ i := of_decide_eq_true h
  exact ⟨i.toNat, by rw [Int.toNat_of_nonneg (by omega)], by omega⟩
/-! ### names -/
def lettersS : Str := "abcdefghijklmnopqrstuvwxyz"
def figuresS : Str := "0123456789"
def isLet (c : Nat) : Bool := decide (c ∈ lettersS.cps.toList)
def isFig (c : Nat) : Bool := decide (c ∈ figuresS.cps.toList)
def nameB (s : Str) : Bool := decide (1 ≤ s.cps.size) && decide (s.cps.size ≤ 8) && (match s.cps.toList with
  | c :: _ => isLet c
  | [] => false) && s.cps.toList.all fun c => isLet c || isFig c
def isName : D → Bool
  | .str s => nameB s
  | _ => false
end DL
open PySem L2 DL
namespace K70
section
variable {P : Program} {w : World} {K : PySem.W.Frag} {mg : Str → Option Value} {base : Heap} {T : List (Addr × Str)}
theorem ok_is_positive (B : Bi mg) {f : Addr} {fd : FuncData} (F : Fun K "is_positive" "is_positive" s_is_positive f fd) (h1 : Kn P w K mg base T "is_whole" 1 (pred isWhole)) : FnOk P w K mg base (L2.CX P w) 2 f fd ["thing"] (spD K T (pred isPos)) := by
  refine okD F sc_is_positive pred_len (fun cdv A outer s H E An ds g C hr tk h => ?_)
  obtain ⟨d, rfl, ty, h⟩ := h
  show DSs _ T An ⟨[.dat d], [], An.ws, g⟩ _ _
  walk_at "go"
  refine ⟨_, rfl, ty, fun e => ?_, fun e => ?_⟩
  · cases d <;> first | (cases e; done) | skip
    walk_at "go"
    exact ⟨.inl rfl, h⟩
  · refine ⟨.inl rfl, ?_⟩
    have e2 : isPos d = false := by
      cases d <;> first | rfl | (cases e)
    rw [← e2]
    exact h
/-- the module's texts -/
structure Mtx (mg : Str → Option Value) : Prop where
  letters : ∃ t, mg "LETTERS" = some (.str lettersS t)
  figures : ∃ t, mg "FIGURES" = some (.str figuresS t)
theorem ok_is_name (B : Bi mg) (M : Mtx mg) {f : Addr} {fd : FuncData} (F : Fun K "is_name" "is_name" s_is_name f fd) : FnOk P w K mg base (L2.CX P w) 1 f fd ["thing"] (spD K T (pred isName)) := by
  refine okD F sc_is_name pred_len (fun cdv A outer s H E An ds g C hr tk h => ?_)
  obtain ⟨d, rfl, ty, h⟩ := h
  obtain ⟨t1, m1⟩ := M.letters
  obtain ⟨t2, m2⟩ := M.figures
  have nd := sc_is_name.nd
  show DSs _ T An ⟨[.dat d, .non], [], An.ws, g⟩ _ _
  cases d with
  | str s =>
    have hl : s.length ≤ 1000 := of_decide_eq_true ty
    walk_at "go"
    refine ⟨true, rfl, true, rfl, fun z => (by cases z), fun _ => ?_⟩
    walk_at "go"
    have hz : s.length ≤ sizeLine := by rw [sizeLine_eq]; omega
    have esz : (s.length : Int) = (s.cps.size : Int) := rfl
    refine ⟨hz, ?_⟩
    rw [esz]
    refine ⟨fun e1 => ?_, fun e1 => ?_⟩
    · have e1' : 1 ≤ s.cps.size := by have := of_decide_eq_true e1; omega
      walk_at "go"
      refine ⟨fun e2 => ?_, fun e2 => ?_⟩
      · have e2' : ¬ s.cps.size ≤ 8 := fun z => by simp at e2; omega
        refine ⟨fun _ => ?_, fun z => (by cases z)⟩
        walk_at "go"
        have en : isName (.str s) = false := by
          show nameB s = false
          unfold nameB
          rw [decide_eq_false e2']
          simp
        rw [en] at h
        exact ⟨.inl rfl, h⟩
      · have e2' : s.cps.size ≤ 8 := by simp at e2; omega
        refine dw_or1 ?_
        obtain ⟨c, cs, ecs⟩ : ∃ c cs, s.cps.toList = c :: cs := by
          cases e : s.cps.toList with
          | nil =>
            have : s.cps.size = 0 := by rw [← Array.length_toList, e]; rfl
            omega
          | cons c cs => exact ⟨c, cs, rfl⟩
        refine dt_ninSg (de_ixS ?_)
        walk_at "go"
        refine ⟨s, 0, c, rfl, rfl, hz, by rw [ecs]; exact atI_nat (j := 0) rfl, ?_⟩
        refine de_globS m1 ?_
        refine ⟨c, rfl, ?_⟩
        have en : isName (.str s) = (isLet c && s.cps.toList.all fun c => isLet c || isFig c) := by
          show nameB s = _
          unfold nameB
          rw [decide_eq_true e1', decide_eq_true e2', ecs]
          rfl
        rw [en] at h
        refine ⟨fun e3 => ?_, fun e3 => ?_⟩
        · have e3' : isLet c = false := by unfold isLet; simpa using e3
          rw [e3'] at h
          walk_at "go"
          exact ⟨.inl rfl, h⟩
        · have e3' : isLet c = true := by unfold isLet; simpa using e3
          rw [e3', Bool.true_and] at h
          walk_at "go"
          refine de_dv (dv_lc rfl nd (blkOk_by (own := [("sign", 1)]) (by kernel_rfl)) (di_str (de_name ?_)))
          refine ⟨s, rfl, lcd_fm (fun x => match x with | .str z => (z.cps.toList.map fun c => .bl (isLet c || isFig c)) | _ => []) rfl (by unfold chrs; rw [List.length_map, Array.length_toList, sizeLine_eq]; omega) (fun i5 y acc D0 ey => ?_) fun a5 => ?_⟩
          · unfold chrs at ey
            rw [List.getElem?_map] at ey
            obtain ⟨k, ek, rfl⟩ := Option.map_eq_some_iff.mp ey
            walk_at "blk"
            walk_at "gg"
            walk_at "blk"
            refine dts_nil ⟨fun _ => ?_, fun z => (by cases z)⟩
            walk_at "blk"
            refine de_or (de_inSg (de_name ?_))
            walk_at "n"
            refine de_globS m1 ?_
            refine ⟨k, rfl, ?_⟩
            show branch _ _ (decide (k ∈ lettersS.cps.toList))
            refine ⟨fun e4 => ⟨?_, rfl, rfl, rfl⟩, fun e4 => ?_⟩
            · have : isLet k = true := e4
              show [D.bl (isLet k || isFig k)] = _
              rw [this]
              rfl
            · have e5 : isLet k = false := e4
              refine de_one (de_inSg (de_name ?_))
              walk_at "n"
              refine de_globS m2 ?_
              refine ⟨k, rfl, ?_⟩
              refine ⟨?_, rfl, rfl, rfl⟩
              show [D.bl (isLet k || isFig k)] = [D.bl (isFig k)]
              rw [e5]
              rfl
          · walk_at "go"
            refine ⟨s.cps.toList.map fun c => isLet c || isFig c, ?_, .inr ⟨_, rfl⟩, ?_⟩
            · show some _ = some _
              congr 1
              unfold chrs
              rw [List.flatMap_map, List.map_map]
              exact (List.map_eq_flatMap).symm
            · rw [List.all_map]
              exact h
    · have e1' : ¬ 1 ≤ s.cps.size := fun z => by have := of_decide_eq_false e1; omega
      refine ⟨fun _ => ⟨fun _ => ?_, fun z => (by cases z)⟩, fun z => (by cases z)⟩
      walk_at "go"
      have en : isName (.str s) = false := by
        show nameB s = false
        unfold nameB
        rw [decide_eq_false e1']
        rfl
      rw [en] at h
      exact ⟨.inl rfl, h⟩
  | _ =>
    first
    | (cases ty; done)
    | (walk_at "go"
       refine ⟨false, rfl, false, rfl, fun _ => ⟨fun _ => ?_, fun z => (by cases z)⟩, fun z => (by cases z)⟩
       walk_at "go"
       exact ⟨.inl rfl, h⟩)
end
end K70
end

section
namespace DL
open PySem L2
theorem put_new {acc : List (Key × D)} {k : Key} {d : D} (h : k ∉ acc.map (·.1)) : putD acc k d = acc ++ [(k, d)] := by
  unfold putD
  rw [if_neg]
  intro z
  obtain ⟨kv, m, e⟩ := List.any_eq_true.mp z
  exact h (List.mem_map.mpr ⟨kv, m, of_decide_eq_true e⟩)
theorem merge_new : ∀ (ps acc : List (Key × D)), (ps.map (·.1)).Nodup → (∀ k ∈ ps.map (·.1), k ∉ acc.map (·.1)) → mergeD acc ps = acc ++ ps
  | [], acc, _, _ => by simp [mergeD]
  | (k, d) :: ps, acc, nd, h => by
    rw [List.map_cons] at nd
    obtain ⟨n1, n2⟩ := List.nodup_cons.mp nd
    show mergeD (putD acc k d) ps = _
    rw [put_new (h k (List.mem_cons_self)), merge_new ps _ n2 fun k' hk z => ?_, List.append_assoc]
    · rfl
    · rw [List.map_append] at z
      rcases List.mem_append.mp z with z | z
      · exact h k' (List.mem_cons_of_mem _ hk) z
      · have : k' = k := List.mem_singleton.mp z
        exact n1 (this ▸ hk)
def txts (ns : List Str) : List D := ns.map D.str
theorem eqFl_str (a b : Str) : eqFl (.str a) (.str b) = (a == b) := rfl
/-- addresses of a land -/
structure okNames (ns : List Str) : Prop where
  nm : ∀ n ∈ ns, nameB n = true
  nd : ns.Nodup
  two : 2 ≤ ns.length
  few : ns.length ≤ 100
theorem name_short {n : Str} (h : nameB n = true) : n.length ≤ 8 := by
  unfold nameB at h
  rw [Bool.and_eq_true, Bool.and_eq_true, Bool.and_eq_true] at h
  exact of_decide_eq_true h.1.1.2
theorem txts_wt {ns : List Str} (h : ∀ n ∈ ns, nameB n = true) : wts (txts ns) = true := by
  induction ns with
  | nil => rfl
  | cons n ns ih =>
    show wts (.str n :: txts ns) = true
    unfold wts
    rw [ih fun x hx => h x (List.mem_cons_of_mem _ hx), Bool.and_true]
    show decide _ = true
    exact decide_eq_true (by have := name_short (h n (List.mem_cons_self)); omega)
end DL
open PySem L2 DL
namespace K70
section
variable {P : Program} {w : World} {K : PySem.W.Frag} {mg : Str → Option Value} {base : Heap} {T : List (Addr × Str)}
/-- are_unlike -/
def ulkN : DF := fun ds g C => ∃ ss : List Str, ds = [.lst (txts ss)] ∧ ss.length ≤ 1000 ∧ ss.Nodup ∧ C (.ret (.bl true) g)
theorem ok_are_unlike (B : Bi mg) {f : Addr} {fd : FuncData} (F : Fun K "are_unlike" "are_unlike" s_are_unlike f fd) : FnOk P w K mg base (L2.CX P w) 1 f fd ["things"] (spD K T ulkN) := by
  refine okD F sc_are_unlike (fun ds g C h => by obtain ⟨ss, rfl, _⟩ := h; rfl) (fun cdv A outer s H E An ds g C hr tk h => ?_)
  obtain ⟨ss, rfl, hl, hn, h⟩ := h
  have nd := sc_are_unlike.nd
  show DSs _ T An ⟨[.dat (.lst (txts ss)), .non], [], An.ws, g⟩ _ _
  refine dss_cons (ds_ret (dv_de (de_eq hr.units (de_dv (dv_len B.len (da_cons (de_dv (dv_dc rfl nd (blkOk_by (own := [("thing", 1)]) (by kernel_rfl)) (di_seq (de_name ?_))))))))))
  walk_at "n"
  refine ⟨_, rfl, dcd_fold (fun x => match x with | .str z => some (.inr z, .bl true) | _ => none) rfl (by unfold txts; rw [List.length_map, sizeLine_eq]; omega) (fun i5 y acc D0 ey => ?_) fun a5 => ?_⟩
  · unfold txts at ey
    rw [List.getElem?_map] at ey
    obtain ⟨z, ez, rfl⟩ := Option.map_eq_some_iff.mp ey
    walk_at "blk"
    walk_at "gg"
    walk_at "blk"
    refine dts_nil ⟨fun _ => ?_, fun z => (by cases z)⟩
    walk_at "blk"
    walk_at "go"
    walk_at "blk"
    walk_at "go"
    exact ⟨_, rfl, rfl, rfl, rfl, rfl⟩
  · have ef : (txts ss).filterMap (fun x => match x with | .str z => some ((.inr z : Key), D.bl true) | _ => none) = ss.map fun z => (.inr z, .bl true) := by
      unfold txts
      rw [List.filterMap_map]
      induction ss with
      | nil => rfl
      | cons a ss ih =>
        rw [List.filterMap_cons, List.map_cons]
        show (_, _) :: _ = _
        rw [ih (by rw [List.length_cons] at hl; omega) (List.nodup_cons.mp hn).2]
    have em : mergeD [] (ss.map fun z => ((.inr z : Key), D.bl true)) = ss.map fun z => (.inr z, .bl true) := by
      rw [merge_new _ [] _ (fun k hk z => by cases z)]
      · rfl
      · rw [List.map_map]
        exact List.pairwise_map.mpr (hn.imp fun h z => h (Sum.inr.inj z))
    rw [ef, em]
    refine da_nil ?_
    show lenD [.dK _] _ _
    walk_at "go"
    refine lenD_seq rfl ?_
    refine ⟨_, eqP_int, .inr ⟨_, rfl⟩, ?_⟩
    have eb : (((ss.map fun z => ((.inr z : Key), D.bl true)).length : Int) == ((txts ss).length : Int)) = true := by
      unfold txts
      rw [List.length_map, List.length_map]
      simp
    rw [eb]
    exact h
/-- checked_addresses -/
def ckaN : DF := fun ds g C => ∃ (ns : List Str) (d : D), ds = [d] ∧ (d = .lst (txts ns) ∨ d = .tup (txts ns)) ∧ okNames ns ∧ C (.ret (.tup (txts ns)) g)
theorem ok_checked_addresses (B : Bi mg) {f fn : Addr} {fd : FuncData} (F : Fun K "checked_addresses" "checked_addresses" s_checked_addresses f fd) (h1 : Kn P w K mg base T "is_list" 1 (pred isList)) (h2 : Kn P w K mg base T "first_odd" 5 (fod P w K mg base T 3))
    (hn : mg "is_name" = some (.ref fn)) (hf : FnAt K fn) (hk : KnA P w K mg base T fn 3 (pred isName)) : FnOk P w K mg base (L2.CX P w) 7 f fd ["addresses"] (spD K T ckaN) := by
  refine okD F sc_checked_addresses (fun ds g C h => by obtain ⟨ns, d, rfl, _⟩ := h; rfl) (fun cdv A outer s H E An ds g C hr tk h => ?_)
  obtain ⟨ns, d, rfl, hd, ok, h⟩ := h
  have nd := sc_checked_addresses.nd
  have hfew := ok.few
  have eit : items d = txts ns := by rcases hd with rfl | rfl <;> rfl
  have ewt : wt d = true := by rcases hd with rfl | rfl <;> exact txts_wt ok.nm
  have eli : isList d = true := by rcases hd with rfl | rfl <;> rfl
  have eod : oddOf isName d = .non := by
    unfold oddOf
    rw [if_pos eli, eit]
    have e : firstOdd isName (txts ns) = none := List.findIdx?_eq_none_iff.mpr fun y hy => by
      obtain ⟨n, hm, rfl⟩ := List.mem_map.mp hy
      show (!nameB n) = false
      rw [ok.nm n hm]
      rfl
    rw [e]
    rfl
  show DSs _ T An ⟨[.dat d, .non, .non, .non], [], An.ws, g⟩ _ _
  walk_at "go"
  refine de_fn hn hf ?_
  walk_at "go"
  refine ⟨d, fn, isName, rfl, hk, ewt, by rw [eit]; unfold txts; rw [List.length_map, sizeLine_eq]; omega, ?_⟩
  rw [eod]
  walk_at "go"
  refine ⟨d, rfl, ewt, ?_⟩
  rw [eli]
  refine ⟨true, rfl, fun z => (by cases z), fun _ => ?_⟩
  walk_at "n"
  refine dss_nil (dss_cons (ds_for (passes_of rfl) rfl (di_enum B.enumerate ?_)))
  walk_at "go"
  have esq : seqD d = some (txts ns) := by rcases hd with rfl | rfl <;> rfl
  refine ⟨txts ns, esq, fun i ρ => ∃ s2 s3 : Sl, ρ = ⟨[.dat d, .dat .non, s2, s3], [], An.ws, g⟩, ⟨.non, .non, rfl⟩, fun i dd ρ2 ei hI => ?_, fun ρ2 hI => ?_⟩
  · obtain ⟨s2, s3, rfl⟩ := hI
    rw [enumOf_get] at ei
    obtain ⟨y, ey, rfl⟩ := Option.map_eq_some_iff.mp ei
    unfold txts at ey
    rw [List.getElem?_map] at ey
    obtain ⟨n, en, rfl⟩ := Option.map_eq_some_iff.mp ey
    rw [Nat.zero_add]
    have hi : i < ns.length := (List.getElem?_eq_some_iff.mp en).1
    have hno : (((txts ns).take i).any fun y => eqFl y (.str n)) = false := by
      rw [List.any_eq_false]
      intro y hy
      unfold txts at hy
      rw [← List.map_take] at hy
      obtain ⟨m, hm, rfl⟩ := List.mem_map.mp hy
      rw [eqFl_str]
      intro z
      have ez : m = n := eq_of_beq z
      subst ez
      obtain ⟨j, ej⟩ := List.getElem?_of_mem hm
      rw [List.getElem?_take] at ej
      split at ej
      · rename_i hji
        have := (List.getElem?_inj (by omega) ok.nd).mp (ej.trans en.symm)
        omega
      · cases ej
    have hfl : ((txts ns).take i).all flatD = true := List.all_eq_true.mpr fun y hy => by
      have hy := List.mem_of_mem_take hy
      obtain ⟨m, _, rfl⟩ := List.mem_map.mp hy
      rfl
    have hcut : cutD (txts ns) none (some (i : Int)) = (txts ns).take i := by
      unfold cutD
      rw [HT.sIx_nat, HT.sIx_none, Nat.sub_zero, List.drop_zero, Nat.min_eq_left (by unfold txts; rw [List.length_map]; omega)]
    refine ⟨[2, 3], ?_⟩
    walk_at "gg"
    refine dss_cons (ds_if (dt_bool (dw_or (dt_eq hr.units (de_name ?_)))))
    walk_at "go"
    refine ⟨false, rfl, fun z => (by cases z), fun _ => ?_⟩
    refine dw_or1 (dt_inS (de_name ?_))
    rcases hd with rfl | rfl
    · walk_at "go"
      refine ⟨_, rfl, fun a => ?_⟩
      rw [hcut]
      refine ⟨_, rfl, rfl, hfl, ?_⟩
      rw [if_neg (by decide), hno]
      refine ⟨fun z => (by cases z), fun _ => ?_⟩
      exact dss_nil (dss_nil ⟨_, _, rfl⟩)
    · walk_at "n"
      refine de_sliceT ?_
      walk_at "go"
      refine ⟨_, rfl, ?_⟩
      rw [hcut]
      refine ⟨_, rfl, rfl, hfl, ?_⟩
      rw [if_neg (by decide), hno]
      refine ⟨fun z => (by cases z), fun _ => ?_⟩
      exact dss_nil (dss_nil ⟨_, _, rfl⟩)
  · obtain ⟨s2, s3, rfl⟩ := hI
    walk_at "go"
    refine lenD_seq esq ?_
    have htwo := ok.two
    have elen : ((txts ns).length : Int) = (ns.length : Int) := by unfold txts; rw [List.length_map]
    walk_at "go"
    rw [elen]
    refine ⟨fun z => ?_, fun _ => ?_⟩
    · have : (ns.length : Int) < 2 := of_decide_eq_true z
      omega
    walk_at "go"
    exact ⟨_, esq, .inl rfl, h⟩
/-- a land -/
def landD (LC : Addr) (ns : List Str) (most : Int) : D := .obj LC [("names", .tup (txts ns)), ("bound", .int most)]
def lanN (LC : Addr) : DF := fun ds g C => ∃ (ns : List Str) (d : D) (most : Int), ds = [d, .int most] ∧ (d = .lst (txts ns) ∨ d = .tup (txts ns)) ∧ okNames ns ∧ 1 ≤ most ∧ C (.ret (landD LC ns most) g)
theorem ok_Land (B : Bi mg) {LC f : Addr} {fd : FuncData} (F : Fun K "__init__" "Land.__init__" s_Land___init__ f fd) (ow : OwnC K LC) (nn : NoAttr K LC "names") (nb : NoAttr K LC "bound") (h1 : Kn P w K mg base T "checked_addresses" 7 ckaN) (h2 : Kn P w K mg base T "is_positive" 2 (pred isPos)) : FnOk P w K mg base (L2.CX P w) 8 f fd ["self", "addresses", "most"] (spI K T LC (lanN LC)) := by
  refine okI F sc_Land___init__ ow (fun ds g C h => by obtain ⟨ns, d, m, rfl, _⟩ := h; rfl) (fun cdv A outer s H E An ds g C x dx hr tk h => ?_)
  obtain ⟨ns, d, most, rfl, hd, ok, hm, h⟩ := h
  have nd := sc_Land___init__.nd
  show DSs _ T An ⟨[.dat (.ref x), .dat d, .dat (.int most)], [(x, .ins LC dx [])], An.ws, g⟩ _ _
  refine dss_cons (ds_fldO nn ?_)
  walk_at "v1"
  walk_at "go"
  refine ⟨ns, d, rfl, hd, ok, ?_⟩
  walk_at "go"
  refine ⟨x, 0, dx, [], rfl, rfl, by decide, ?_⟩
  walk_at "n"
  show DSs _ T An ⟨[.dat (.ref x), .dat d, .dat (.int most)], [(x, .ins LC dx [("names", .tup (txts ns))])], An.ws, g⟩ _ _
  walk_at "go"
  refine ⟨.int most, rfl, rfl, ?_⟩
  have ep : isPos (.int most) = true := decide_eq_true hm
  rw [ep]
  refine ⟨true, rfl, fun z => (by cases z), fun _ => ?_⟩
  refine dss_nil (dss_cons (ds_fldO nb (dv_de (de_name ?_))))
  walk_at "n"
  refine de_name ?_
  walk_at "n"
  refine ⟨x, 0, dx, [("names", .tup (txts ns))], rfl, rfl, by show 1 < 1000; decide, ?_⟩
  refine dss_nil ?_
  refine ⟨rfl, landD LC ns most, LR.ins (dx := dx) (fs := [("names", .tup (txts ns)), ("bound", .int most)]) ⟨.inr 0, rfl⟩ (.cons (.same _) (.cons (.same _) .nil)), h⟩
end
end K70
end

section
namespace DL
open PySem L2
/-! ### rows of stretches -/
abbrev Row := List (Int × Int)
def pairT (p : Int × Int) : D := .tup [.int p.1, .int p.2]
def rowL (r : Row) : List D := r.map pairT
def sizeR (r : Row) : Int := (r.map fun p => p.2 - p.1 + 1).sum
def tidyS (acc : Row) (p : Int × Int) : Row := match acc.getLast? with
  | some q => if q.2 + 1 = p.1 then acc.dropLast ++ [(q.1, p.2)] else acc ++ [p]
  | none => acc ++ [p]
def tidyR (r : Row) : Row := r.foldl tidyS []
def partS (z : Row × Row × Int) (p : Int × Int) : Row × Row × Int :=
  let here := min z.2.2 (p.2 - p.1 + 1)
  (if here > 0 then z.1 ++ [(p.1, p.1 + here - 1)] else z.1, if p.1 + here ≤ p.2 then z.2.1 ++ [(p.1 + here, p.2)] else z.2.1, z.2.2 - here)
def partR (r : Row) (k : Int) : Row × Row × Int := r.foldl partS ([], [], k)
def lessR (r : Row) (i k : Int) : Row := tidyR ((partR r i).1 ++ (partR (partR r i).2.1 k).2.1)
theorem tidyS_len (acc : Row) (p : Int × Int) : (tidyS acc p).length ≤ acc.length + 1 := by
  unfold tidyS
  split
  · split
    · rw [List.length_append, List.length_dropLast]
      show _ - 1 + 1 ≤ _
      omega
    · rw [List.length_append]
      exact Nat.le_refl _
  · rw [List.length_append]
    exact Nat.le_refl _
theorem tidy_fold (r acc : Row) : (r.foldl tidyS acc).length ≤ acc.length + r.length := by
  induction r generalizing acc with
  | nil => exact Nat.le_refl _
  | cons p r ih =>
    have := ih (tidyS acc p)
    have := tidyS_len acc p
    rw [List.foldl_cons, List.length_cons]
    omega
theorem tidy_len (r : Row) : (tidyR r).length ≤ r.length := by
  have := tidy_fold r []
  rw [List.length_nil] at this
  unfold tidyR
  omega
theorem part_fold (r : Row) (z : Row × Row × Int) : (r.foldl partS z).1.length ≤ z.1.length + r.length ∧ (r.foldl partS z).2.1.length ≤ z.2.1.length + r.length := by
  induction r generalizing z with
  | nil => exact ⟨Nat.le_refl _, Nat.le_refl _⟩
  | cons p r ih =>
    obtain ⟨h1, h2⟩ := ih (partS z p)
    rw [List.foldl_cons, List.length_cons]
    have h3 : (partS z p).1.length ≤ z.1.length + 1 := by
      unfold partS
      dsimp only
      split
      · rw [List.length_append]; exact Nat.le_refl _
      · omega
    have h4 : (partS z p).2.1.length ≤ z.2.1.length + 1 := by
      unfold partS
      dsimp only
      split
      · rw [List.length_append]; exact Nat.le_refl _
      · omega
    omega
theorem part_len (r : Row) (k : Int) : (partR r k).1.length ≤ r.length ∧ (partR r k).2.1.length ≤ r.length := by
  have := part_fold r ([], [], k)
  simp only [List.length_nil, Nat.zero_add] at this
  exact this
theorem less_len (r : Row) (i k : Int) : (lessR r i k).length ≤ 2 * r.length := by
  have h1 := tidy_len ((partR r i).1 ++ (partR (partR r i).2.1 k).2.1)
  rw [List.length_append] at h1
  have h2 := part_len r i
  have h3 := part_len (partR r i).2.1 k
  unfold lessR
  omega
theorem fold_take {α β : Type} (f : β → α → β) (z : β) (l : List α) (i : Nat) (x : α) (h : l[i]? = some x) : (l.take (i + 1)).foldl f z = f ((l.take i).foldl f z) x := by
  rw [List.take_add_one, h, List.foldl_append]
  rfl
end DL
open PySem L2 DL
namespace K70
section
variable {P : Program} {w : World} {K : PySem.W.Frag} {mg : Str → Option Value} {base : Heap} {T : List (Addr × Str)}
theorem ixN_last {n : Nat} (h : 0 < n) : ixN n (-1) = some (n - 1) := by
  unfold ixN
  simp
  omega
theorem atI_last {ds : List D} {d : D} (h : ds.getLast? = some d) : atI ds (-1) = some d := by
  have hne : ds ≠ [] := fun z => by rw [z] at h; cases h
  have hl : 0 < ds.length := List.length_pos_iff.mpr hne
  rw [List.getLast?_eq_getElem?] at h
  unfold atI
  rw [ixN_last hl]
  exact h
/-- size_of -/
def sizN : DF := fun ds g C => ∃ r : Row, ds = [.lst (rowL r)] ∧ r.length < 2 ^ 19 ∧ C (.ret (.int (sizeR r)) g)
theorem ok_size_of (B : Bi mg) {f : Addr} {fd : FuncData} (F : Fun K "size_of" "size_of" s_size_of f fd) : FnOk P w K mg base (L2.CX P w) 1 f fd ["row"] (spD K T sizN) := by
  refine okD F sc_size_of (fun ds g C h => by obtain ⟨r, rfl, _⟩ := h; rfl) (fun cdv A outer s H E An ds g C hr tk h => ?_)
  obtain ⟨r, rfl, hl, h⟩ := h
  have nd := sc_size_of.nd
  show DSs _ T An ⟨[.dat (.lst (rowL r)), .non, .non], [], An.ws, g⟩ _ _
  walk_at "s1"
  walk_at "s1"
  refine dv_sum rfl B.sum ?_
  refine da_cons (de_dv (dv_lc rfl nd (blkOk_by (own := [("first", 1), ("last", 2)]) (by kernel_rfl)) (di_seq (de_name ?_))))
  walk_at "n"
  refine ⟨_, rfl, lcd_fm (fun x => match x with | .tup [.int a, .int b] => [.int (b - a + 1)] | _ => []) rfl (by unfold rowL; rw [List.length_map, sizeLine_eq]; omega) (fun i y acc D0 ey => ?_) fun a => ?_⟩
  · unfold rowL at ey
    rw [List.getElem?_map] at ey
    obtain ⟨⟨a, b⟩, ep, rfl⟩ := Option.map_eq_some_iff.mp ey
    walk_at "blk"
    walk_at "gg"
    walk_at "blk"
    refine dts_nil ⟨fun _ => ?_, fun z => (by cases z)⟩
    walk_at "blk"
    walk_at "go"
    exact ⟨rfl, rfl, rfl, rfl⟩
  · refine da_nil ⟨r.map (fun p : Int × Int => p.2 - p.1 + 1), ?_, .inl rfl, h⟩
    show some _ = some _
    congr 1
    unfold rowL
    rw [List.flatMap_map, List.map_map]
    exact (List.map_eq_flatMap).symm
/-- tidy -/
def tidN : DF := fun ds g C => ∃ r : Row, ds = [.lst (rowL r)] ∧ r.length < 2 ^ 19 ∧ C (.new (rowL (tidyR r)) g)
theorem ok_tidy (B : Bi mg) {f : Addr} {fd : FuncData} (F : Fun K "tidy" "tidy" s_tidy f fd) : FnOk P w K mg base (L2.CX P w) 1 f fd ["stretches"] (spD K T tidN) := by
  refine okD F sc_tidy (fun ds g C h => by obtain ⟨r, rfl, _⟩ := h; rfl) (fun cdv A outer s H E An ds g C hr tk h => ?_)
  obtain ⟨r, rfl, hl, h⟩ := h
  have nd := sc_tidy.nd
  show DSs _ T An ⟨[.dat (.lst (rowL r)), .non, .non, .non], [], An.ws, g⟩ _ _
  walk_at "go"
  refine ⟨by show 0 ≤ sizeLine; decide, fun p1 => ?_⟩
  walk_at "n"
  refine dss_cons (ds_for (passes_of rfl) rfl (di_seq (de_name ?_)))
  walk_at "n"
  refine ⟨_, rfl, fun i ρ => ∃ s2 s3 : Sl, ρ = ⟨[.dat (.lst (rowL r)), .own p1 (rowL ((r.take i).foldl tidyS [])), s2, s3], [], An.ws, g⟩, ⟨.non, .non, rfl⟩, fun i dd ρ2 ei hI => ?_, fun ρ2 hI => ?_⟩
  · obtain ⟨s2, s3, rfl⟩ := hI
    unfold rowL at ei
    rw [List.getElem?_map] at ei
    obtain ⟨⟨a, b⟩, ep, rfl⟩ := Option.map_eq_some_iff.mp ei
    have hstep := fold_take tidyS [] r i (a, b) ep
    have hlen : ((r.take i).foldl tidyS []).length ≤ i := by
      have := tidy_len (r.take i)
      rw [List.length_take] at this
      unfold tidyR at this
      omega
    have hi : i < r.length := (List.getElem?_eq_some_iff.mp ep).1
    generalize (r.take i).foldl tidyS [] = acc at hstep hlen ⊢
    refine ⟨[2, 3], ?_⟩
    walk_at "gg"
    rcases List.eq_nil_or_concat acc with rfl | ⟨ini, q, ecc⟩
    · refine dss_cons (ds_if (dt_look fun An2 ew => ?_))
      walk_at "go"
      refine ⟨false, rfl, fun z => (by cases z), fun _ => ⟨fun z => (by cases z), fun _ => ?_⟩⟩
      refine dss_cons (ds_app ?_ ?_)
      · exact trivial
      walk_at "go"
      refine ⟨by show 2 ≤ sizeLine; decide, by show 0 < sizeLine; decide, ?_⟩
      refine dss_nil (dss_nil ⟨.dat (.int a), .dat (.int b), ?_⟩)
      rw [hstep]
      rfl
    · rw [List.concat_eq_append] at ecc
      subst ecc
      have etru : tru (.lst (rowL (ini ++ [q]))) = some true := by
        unfold rowL
        rw [List.map_append]
        cases ini <;> rfl
      have elast : ∀ d, d = pairT q → atI (rowL (ini ++ [q])) (-1) = some d := fun d e => by
        subst e
        refine atI_last ?_
        unfold rowL
        rw [List.map_append]
        simp
      refine dss_cons (ds_if (dt_look fun An2 ew => dt_imp (C1 := fun k ρ' => k = decide (q.2 + 1 = a) ∧ ρ'.g = g) ?_ ?_))
      · refine dt_bool (dw_and (dt_tru (de_name ?_)))
        refine ⟨true, etru, fun _ => ?_, fun z => (by cases z)⟩
        refine dw_and1 (dt_eq hr.units ?_)
        walk_at "go"
        refine ⟨_, pairT q, rfl, elast _ rfl, ?_⟩
        walk_at "go"
        refine ixD_seq (j := 1) rfl rfl rfl ?_
        walk_at "go"
        exact ⟨_, eqP_int, rfl, rfl⟩
      · rintro k ρ' ⟨rfl, eg⟩
        rw [eg]
        refine ⟨fun e => ?_, fun e => ?_⟩
        · have e1 : q.2 + 1 = a := of_decide_eq_true e
          have es : tidyS (ini ++ [q]) (a, b) = ini ++ [(q.1, b)] := by
            unfold tidyS
            simp [e1]
          refine dss_cons (ds_store (de_tup (da_cons (de_ix (de_ixOwn ?_ ?_)))))
          · exact trivial
          walk_at "go"
          refine ⟨-1, pairT q, rfl, elast _ rfl, ?_⟩
          walk_at "go"
          refine ixD_seq (j := 0) rfl rfl rfl ?_
          walk_at "go"
          refine ⟨by show 2 ≤ sizeLine; decide, ?_⟩
          refine dg_own ?_ ?_
          · exact trivial
          walk_at "go"
          refine ⟨-1, ini.length, rfl, ?_, ?_⟩
          · have : (rowL (ini ++ [q])).length = ini.length + 1 := by unfold rowL; rw [List.length_map, List.length_append]; rfl
            rw [this, ixN_last (by omega)]
            rfl
          refine dss_nil (dss_nil ⟨.dat (.int a), .dat (.int b), ?_⟩)
          rw [hstep, es]
          have e2 : (rowL (ini ++ [q])).set ini.length (.tup [.int q.1, .int b]) = rowL (ini ++ [(q.1, b)]) := by
            unfold rowL
            rw [List.map_append, List.map_append, List.set_append_right _ _ (by rw [List.length_map]; exact Nat.le_refl _), List.length_map, Nat.sub_self]
            rfl
          show Ev.mk _ _ _ _ = _
          rw [← e2]
          rfl
        · have e1 : ¬ q.2 + 1 = a := of_decide_eq_false e
          have es : tidyS (ini ++ [q]) (a, b) = (ini ++ [q]) ++ [(a, b)] := by
            unfold tidyS
            simp [e1]
          refine dss_cons (ds_app ?_ ?_)
          · exact trivial
          walk_at "go"
          refine ⟨by show 2 ≤ sizeLine; decide, ?_, ?_⟩
          · unfold rowL
            rw [List.length_map, sizeLine_eq]
            omega
          refine dss_nil (dss_nil ⟨.dat (.int a), .dat (.int b), ?_⟩)
          rw [hstep, es]
          show Ev.mk _ _ _ _ = _
          unfold rowL
          rw [List.map_append (l₁ := ini ++ [q])]
          rfl
  · obtain ⟨s2, s3, rfl⟩ := hI
    have el : (rowL r).length = r.length := by unfold rowL; rw [List.length_map]
    rw [el, List.take_length]
    walk_at "s1"
    walk_at "s1"
    refine dv_back ?_
    exact ⟨rfl, h⟩
/-- parted -/
def parN : DF := fun ds g C => ∃ (r : Row) (k : Int), ds = [.lst (rowL r), .int k] ∧ r.length < 2 ^ 19 ∧ C (.ret (.tup [.lst (rowL (partR r k).1), .lst (rowL (partR r k).2.1)]) g)
theorem ok_parted (B : Bi mg) {f : Addr} {fd : FuncData} (F : Fun K "parted" "parted" s_parted f fd) : FnOk P w K mg base (L2.CX P w) 1 f fd ["row", "many"] (spD K T parN) := by
  refine okD F sc_parted (fun ds g C h => by obtain ⟨r, k, rfl, _⟩ := h; rfl) (fun cdv A outer s H E An ds g C hr tk h => ?_)
  obtain ⟨r, k, rfl, hl, h⟩ := h
  have nd := sc_parted.nd
  show DSs _ T An ⟨[.dat (.lst (rowL r)), .dat (.int k), .non, .non, .non, .non, .non, .non], [], An.ws, g⟩ _ _
  refine dss_cons (ds_parV3 rfl nd (dv_list (da_nil ⟨by show 0 ≤ sizeLine; decide, fun p1 => ?_⟩)))
  refine dv_list (da_nil ⟨by show 0 ≤ sizeLine; decide, fun p2 => ?_⟩)
  refine ⟨_, rfl, rfl, dv_de (de_name ?_)⟩
  walk_at "n"
  refine ⟨_, rfl, rfl, ?_⟩
  walk_at "n"
  refine dss_cons (ds_for (passes_of rfl) rfl (di_seq (de_name ?_)))
  walk_at "n"
  refine ⟨_, rfl, fun i ρ => ∃ s5 s6 s7 : Sl, ρ = ⟨[.dat (.lst (rowL r)), .dat (.int k), .own p1 (rowL ((r.take i).foldl partS ([], [], k)).1), .own p2 (rowL ((r.take i).foldl partS ([], [], k)).2.1), .dat (.int ((r.take i).foldl partS ([], [], k)).2.2), s5, s6, s7], [], An.ws, g⟩, ⟨.non, .non, .non, rfl⟩, fun i dd ρ2 ei hI => ?_, fun ρ2 hI => ?_⟩
  · obtain ⟨s5, s6, s7, rfl⟩ := hI
    unfold rowL at ei
    rw [List.getElem?_map] at ei
    obtain ⟨⟨a, b⟩, ep, rfl⟩ := Option.map_eq_some_iff.mp ei
    have hstep := fold_take partS ([], [], k) r i (a, b) ep
    have hi : i < r.length := (List.getElem?_eq_some_iff.mp ep).1
    have hlen := part_fold (r.take i) ([], [], k)
    rw [List.length_take] at hlen
    simp only [List.length_nil, Nat.zero_add] at hlen
    generalize (r.take i).foldl partS ([], [], k) = z at hstep hlen ⊢
    obtain ⟨za, zb, zl⟩ := z
    have eh : (if b - a + 1 < zl then b - a + 1 else zl) = min zl (b - a + 1) := by split <;> omega
    have es : partS (za, zb, zl) (a, b) = (if min zl (b - a + 1) > 0 then za ++ [(a, a + min zl (b - a + 1) - 1)] else za, if a + min zl (b - a + 1) ≤ b then zb ++ [(a + min zl (b - a + 1), b)] else zb, zl - min zl (b - a + 1)) := rfl
    have ra : ∀ (x : Row) p, rowL (x ++ [p]) = rowL x ++ [pairT p] := fun x p => by unfold rowL; rw [List.map_append]; rfl
    have lr : ∀ x : Row, (rowL x).length = x.length := fun x => by unfold rowL; rw [List.length_map]
    dsimp only at hlen
    refine ⟨[5, 6], ?_⟩
    walk_at "gg"
    refine dss_cons (ds_set nd (dv_imp (C1 := fun rr ρ' => rr = .v (.int (min zl (b - a + 1))) ∧ ρ' = ⟨[.dat (.lst (rowL r)), .dat (.int k), .own p1 (rowL za), .own p2 (rowL zb), .dat (.int zl), .dat (.int a), .dat (.int b), s7], [], An.ws, g⟩) (dv_min rfl B.min ?_) ?_))
    · walk_at "go"
      rw [eh]
      exact ⟨rfl, rfl⟩
    rintro rr ρ' ⟨rfl, rfl⟩
    generalize min zl (b - a + 1) = here at es ⊢
    refine dss_cons (ds_imp (O1 := { nx := fun ρ' => ρ' = ⟨[.dat (.lst (rowL r)), .dat (.int k), .own p1 (rowL (if here > 0 then za ++ [(a, a + here - 1)] else za)), .own p2 (rowL zb), .dat (.int zl), .dat (.int a), .dat (.int b), .dat (.int here)], [], An.ws, g⟩, rt := fun _ _ => False }) (ds_if ?_) ?_ (fun _ _ z => z.elim) (fun _ z => z.elim) (fun _ z => z.elim))
    · walk_at "go"
      refine ⟨fun e => ?_, fun e => ?_⟩
      · have e1 : here > 0 := of_decide_eq_true e
        refine dss_cons (ds_app ?_ ?_)
        · exact trivial
        walk_at "go"
        refine ⟨by show 2 ≤ sizeLine; decide, by rw [lr, sizeLine_eq]; omega, ?_⟩
        refine dss_nil ?_
        rw [if_pos e1, ra]
        rfl
      · have e1 : ¬ here > 0 := of_decide_eq_false e
        walk_at "go"
        rw [if_neg e1]
        rfl
    rintro ρ' rfl
    refine dss_cons (ds_imp (O1 := { nx := fun ρ' => ρ' = ⟨[.dat (.lst (rowL r)), .dat (.int k), .own p1 (rowL (if here > 0 then za ++ [(a, a + here - 1)] else za)), .own p2 (rowL (if a + here ≤ b then zb ++ [(a + here, b)] else zb)), .dat (.int zl), .dat (.int a), .dat (.int b), .dat (.int here)], [], An.ws, g⟩, rt := fun _ _ => False }) (ds_if ?_) ?_ (fun _ _ z => z.elim) (fun _ z => z.elim) (fun _ z => z.elim))
    · walk_at "go"
      refine ⟨fun e => ?_, fun e => ?_⟩
      · have e1 : a + here ≤ b := of_decide_eq_true e
        refine dss_cons (ds_app ?_ ?_)
        · exact trivial
        walk_at "go"
        refine ⟨by show 2 ≤ sizeLine; decide, by rw [lr, sizeLine_eq]; omega, ?_⟩
        refine dss_nil ?_
        rw [if_pos e1, ra]
        rfl
      · have e1 : ¬ a + here ≤ b := of_decide_eq_false e
        walk_at "go"
        rw [if_neg e1]
    rintro ρ' rfl
    walk_at "go"
    refine ⟨.dat (.int a), .dat (.int b), .dat (.int here), ?_⟩
    rw [hstep, es]
    rfl
  · obtain ⟨s5, s6, s7, rfl⟩ := hI
    have el : (rowL r).length = r.length := by unfold rowL; rw [List.length_map]
    rw [el, List.take_length]
    walk_at "go"
    refine ⟨by show 2 ≤ sizeLine; decide, .inl rfl, h⟩
/-- lessened -/
def lesN : DF := fun ds g C => ∃ (r : Row) (i k : Int), ds = [.lst (rowL r), .int i, .int k] ∧ r.length < 2 ^ 18 ∧ C (.new (rowL (lessR r i k)) g)
theorem ok_lessened (B : Bi mg) {f : Addr} {fd : FuncData} (F : Fun K "lessened" "lessened" s_lessened f fd) (h1 : Kn P w K mg base T "parted" 1 parN) (h2 : Kn P w K mg base T "tidy" 1 tidN) : FnOk P w K mg base (L2.CX P w) 2 f fd ["row", "index", "many"] (spD K T lesN) := by
  refine okD F sc_lessened (fun ds g C h => by obtain ⟨r, i, k, rfl, _⟩ := h; rfl) (fun cdv A outer s H E An ds g C hr tk h => ?_)
  obtain ⟨r, i, k, rfl, hl, h⟩ := h
  have nd := sc_lessened.nd
  have l1 := part_len r i
  have l2 := part_len (partR r i).2.1 k
  have lr : ∀ x : Row, (rowL x).length = x.length := fun x => by unfold rowL; rw [List.length_map]
  show DSs _ T An ⟨[.dat (.lst (rowL r)), .dat (.int i), .dat (.int k), .non, .non], [], An.ws, g⟩ _ _
  refine dss_cons (ds_unp (de_dv (dv_call h1 (hr.mono (by decide)) tkF ?_)))
  walk_at "go"
  refine ⟨r, i, rfl, by omega, ?_⟩
  refine ⟨[3, 4], ?_⟩
  walk_at "gg"
  refine dss_cons (ds_ret (dv_call h2 (hr.mono (by decide)) tk (da_cons (de_dv (dv_list (da_star (de_name ?_)))))))
  walk_at "n"
  refine ⟨_, rfl, da_star (de_ix (de_dv (dv_call h1 (hr.mono (by decide)) tkF ?_)))⟩
  walk_at "go"
  refine ⟨(partR r i).2.1, k, rfl, by omega, ?_⟩
  walk_at "go"
  refine ixD_seq (j := 1) rfl rfl rfl ?_
  refine ⟨_, rfl, da_nil ⟨?_, fun a => ?_⟩⟩
  · rw [List.append_nil, List.length_append, lr, lr, sizeLine_eq]
    omega
  refine da_nil ⟨(partR r i).1 ++ (partR (partR r i).2.1 k).2.1, ?_, ?_, ?_⟩
  · rw [List.append_nil]
    unfold rowL
    rw [List.map_append]
  · rw [List.length_append]
    omega
  · exact fun a => ⟨rfl, h⟩
end
end K70
end

section
namespace DL
open PySem L2
theorem eqP_empty {ds : List D} {ps : List PyData} (h1 : toPys ds = some ps) (h2 : PyData.canLayAll0 ps = true) (h3 : PyData.depthAll ps ≤ 60) : eqP (.lst ds) (.lst []) = some ds.isEmpty := by
  unfold eqP
  have e1 : toPy (.lst ds) = some (.list ps) := by rw [toPy, h1]; rfl
  have e2 : toPy (.lst []) = some (.list []) := by rw [toPy, toPys]; rfl
  have s1 : SeqAt.shaped (.list ps) = true := by
    unfold SeqAt.shaped
    rw [PyData.canLay0, h2]
    have : PyData.depth (.list ps) ≤ 64 := by rw [PyData.depth]; omega
    simp [this]
  have s2 : SeqAt.shaped (.list []) = true := by rfl
  rw [e1, e2]
  show (if (SeqAt.shaped (.list ps) && SeqAt.shaped (.list [])) = true then _ else _) = _
  rw [s1, s2]
  cases ds with
  | nil =>
    rw [toPys] at h1
    cases h1
    rfl
  | cons d ds =>
    cases ps with
    | nil =>
      rw [toPys] at h1
      split at h1 <;> cases h1
    | cons p ps => rfl
theorem row_py : ∀ r : Row, ∃ ps, toPys (rowL r) = some ps ∧ PyData.canLayAll0 ps = true ∧ PyData.depthAll ps ≤ 60
  | [] => ⟨[], rfl, rfl, Nat.zero_le _⟩
  | p :: r => by
    obtain ⟨ps, h1, h2, h3⟩ := row_py r
    refine ⟨.tuple [.int p.1, .int p.2] :: ps, ?_, ?_, ?_⟩
    · show toPys (pairT p :: rowL r) = _
      rw [toPys, h1]
      rfl
    · rw [PyData.canLayAll0, h2]
      rfl
    · rw [PyData.depthAll]
      have : PyData.depth (.tuple [.int p.1, .int p.2]) = 1 := rfl
      omega
theorem eqP_row (r : Row) : eqP (.lst (rowL r)) (.lst []) = some (decide (r = [])) := by
  obtain ⟨ps, h1, h2, h3⟩ := row_py r
  rw [eqP_empty h1 h2 h3]
  cases r <;> rfl
/-! ### rows of a land -/
abbrev Rows := Str → Row
def upR (r : Rows) (a : Str) (x : Row) : Rows := fun n => if n = a then x else r n
def rowsK (ns : List Str) (r : Rows) : List (Key × D) := ns.map fun n => (.inr n, .lst (rowL (r n)))
theorem look_rows {ns : List Str} {r : Rows} {a : Str} (h : a ∈ ns) : lookD (rowsK ns r) (.inr a) = some (.lst (rowL (r a))) := by
  unfold lookD rowsK
  induction ns with
  | nil => cases h
  | cons n ns ih =>
    rw [List.map_cons, List.find?_cons]
    by_cases e : n = a
    · subst e
      rw [decide_eq_true rfl]
      rfl
    · rw [decide_eq_false (fun z => e (Sum.inr.inj z))]
      rcases List.mem_cons.mp h with h | h
      · exact absurd h.symm e
      · exact ih h
theorem put_rows {ns : List Str} {r : Rows} {a : Str} (h : a ∈ ns) (x : Row) : putD (rowsK ns r) (.inr a) (.lst (rowL x)) = rowsK ns (upR r a x) := by
  have hp : ((rowsK ns r).any fun kv => decide (kv.1 = (.inr a : Key))) = true := List.any_eq_true.mpr ⟨(.inr a, .lst (rowL (r a))), List.mem_map.mpr ⟨a, h, rfl⟩, decide_eq_true rfl⟩
  unfold putD
  rw [if_pos hp]
  show (ns.map fun n => ((.inr n : Key), D.lst (rowL (r n)))).map (fun kv => if kv.1 = Sum.inr a then (kv.1, D.lst (rowL x)) else kv) = ns.map fun n => ((.inr n : Key), D.lst (rowL (upR r a x n)))
  rw [List.map_map]
  refine List.map_congr_left fun n _ => ?_
  show (if (Sum.inr n : Key) = Sum.inr a then ((.inr n : Key), D.lst (rowL x)) else ((.inr n : Key), D.lst (rowL (r n)))) = _
  unfold upR
  by_cases e : n = a
  · rw [if_pos (by rw [e]), if_pos e]
  · rw [if_neg (fun z => e (Sum.inr.inj z)), if_neg e]
inductive Deed where
  | make (a : Str) (k : Int) | grow (a : Str) (k : Int) | move (a b : Str) | swap (a b : Str) | cut (a : Str) (k : Int) (b : Str)
  | split (a : Str) (k : Int) (b c : Str) | pour (a b : Str) | drop (a : Str) (i k : Int) | fin (a : Str) | wait (k : Int)
def Deed.word : Deed → Str
  | .make _ _ => "make" | .grow _ _ => "grow" | .move _ _ => "move" | .swap _ _ => "swap" | .cut _ _ _ => "cut"
  | .split _ _ _ _ => "split" | .pour _ _ => "pour" | .drop _ _ _ => "drop" | .fin _ => "end" | .wait _ => "wait"
def Deed.parts : Deed → List D
  | .make a k => [.str a, .int k] | .grow a k => [.str a, .int k] | .move a b => [.str a, .str b] | .swap a b => [.str a, .str b] | .cut a k b => [.str a, .int k, .str b]
  | .split a k b c => [.str a, .int k, .str b, .str c] | .pour a b => [.str a, .str b] | .drop a i k => [.str a, .int i, .int k] | .fin a => [.str a] | .wait k => [.int k]
def Deed.items (d : Deed) : List D := .str d.word :: d.parts
/-- the names that a deed has are of the land, no two alike -/
def Deed.ok (ns : List Str) : Deed → Prop
  | .make a k => a ∈ ns ∧ 1 ≤ k
  | .grow a k => a ∈ ns ∧ 1 ≤ k
  | .move a b => a ∈ ns ∧ b ∈ ns ∧ a ≠ b
  | .swap a b => a ∈ ns ∧ b ∈ ns ∧ a ≠ b
  | .cut a k b => a ∈ ns ∧ b ∈ ns ∧ a ≠ b ∧ 1 ≤ k
  | .split a k b c => a ∈ ns ∧ b ∈ ns ∧ c ∈ ns ∧ a ≠ b ∧ a ≠ c ∧ b ≠ c ∧ 1 ≤ k
  | .pour a b => a ∈ ns ∧ b ∈ ns ∧ a ≠ b
  | .drop a i k => a ∈ ns ∧ 0 ≤ i ∧ 1 ≤ k
  | .fin a => a ∈ ns
  | .wait k => 1 ≤ k
def movedR (r : Rows) : Deed → Option Rows
  | .move a b => if r b = [] then some (upR (upR r a []) b (r a)) else none
  | .swap a b => if r b = [] then none else some (upR (upR r a (r b)) b (r a))
  | .pour a b => if r b = [] then none else some (upR (upR r a []) b (tidyR (r b ++ r a)))
  | .cut a k b => if r b = [] then (if sizeR (r a) ≤ k then none else some (upR (upR r a (partR (r a) k).1) b (partR (r a) k).2.1)) else none
  | .split a k b c => if r b = [] ∧ r c = [] then (if sizeR (r a) ≤ k then none else some (upR (upR (upR r a []) b (partR (r a) k).1) c (partR (r a) k).2.1)) else none
  | _ => none
def behindR (r : Rows) (made : Int) : Deed → Option Rows
  | .wait _ => some r
  | .make a k => if r a = [] then some (upR r a (tidyR (r a ++ [(made + 1, made + k)]))) else none
  | .grow a k => if r a = [] then none else some (upR r a (tidyR (r a ++ [(made + 1, made + k)])))
  | .drop a i k => if r a = [] then none else if sizeR (r a) ≥ i + k then some (upR r a (lessR (r a) i k)) else none
  | .fin a => if r a = [] then none else some (upR r a [])
  | .move a b => if r a = [] then none else movedR r (.move a b)
  | .swap a b => if r a = [] then none else movedR r (.swap a b)
  | .pour a b => if r a = [] then none else movedR r (.pour a b)
  | .cut a k b => if r a = [] then none else movedR r (.cut a k b)
  | .split a k b c => if r a = [] then none else movedR r (.split a k b c)
def Deed.isMV : Deed → Bool
  | .move _ _ => true | .swap _ _ => true | .pour _ _ => true | .cut _ _ _ => true | .split _ _ _ _ => true
  | _ => false
def Deed.isMake : Deed → Bool
  | .make _ _ => true
  | _ => false
theorem word_make (d : Deed) : (d.word == ("make" : Str)) = d.isMake := by cases d <;> kernel_rfl
theorem word_not {d : Deed} (h : d.isMake = false) : d.word ≠ "make" := fun z => by
  have e := word_make d
  rw [z, h] at e
  simp at e
theorem eqP_word (d : Deed) : eqP (.str d.word) (.str "wait") = some (d.word == "wait") ∧ eqP (.str d.word) (.str "make") = some (d.word == "make") ∧ eqP (.str d.word) (.str "drop") = some (d.word == "drop") ∧ eqP (.str d.word) (.str "end") = some (d.word == "end") := by
  cases d <;> refine ⟨?_, ?_, ?_, ?_⟩ <;> kernel_rfl
theorem behind_none {r : Rows} {made : Int} {d : Deed} {a : Str} {rest : List D} (ha : d.parts = .str a :: rest) (h : ¬ (r a = [] ↔ d.word = "make")) : behindR r made d = none := by
  cases d with
  | wait k => cases ha
  | make b k =>
    cases ha
    exact if_neg fun e => h ⟨fun _ => rfl, fun _ => e⟩
  | _ =>
    cases ha
    refine if_pos (Classical.byContradiction fun e => h ⟨fun z => absurd z e, fun z => absurd z (word_not rfl)⟩)
theorem behind_some {r : Rows} {made : Int} {d : Deed} {a : Str} {rest : List D} (ha : d.parts = .str a :: rest) (h : r a = [] ↔ d.word = "make") : (d.word = "make" ∧ ∃ k, d = .make a k) ∨ r a ≠ [] := by
  cases d with
  | wait k => cases ha
  | make b k =>
    cases ha
    exact .inl ⟨rfl, k, rfl⟩
  | _ =>
    cases ha
    exact .inr fun e => absurd (h.mp e) (word_not rfl)
def Deed.isMG : Deed → Bool
  | .make _ _ => true
  | .grow _ _ => true
  | _ => false
theorem any_MG (d : Deed) : ([D.str "make", D.str "grow"].any fun y => eqFl y (.str d.word)) = d.isMG := by cases d <;> kernel_rfl
theorem isMG_of {d : Deed} {a : Str} {rest : List D} (ha : d.parts = .str a :: rest) (h : d.isMG = true) : ∃ k, rest = [.int k] ∧ (d = .make a k ∨ d = .grow a k) := by
  cases d with
  | make b k => cases ha; exact ⟨k, rfl, .inl rfl⟩
  | grow b k => cases ha; exact ⟨k, rfl, .inr rfl⟩
  | _ => cases h
theorem merge_one (kvs : List (Key × D)) (k : Key) (d : D) : mergeD kvs (mergeD [] [(k, d)]) = putD kvs k d := rfl
theorem isDrop_of {d : Deed} {a : Str} {rest : List D} (ha : d.parts = .str a :: rest) (h : (d.word == ("drop" : Str)) = true) : ∃ i k, rest = [.int i, .int k] ∧ d = .drop a i k := by
  cases d with
  | drop b i k => cases ha; exact ⟨i, k, rfl, rfl⟩
  | _ => exact absurd h (by rw [Bool.not_eq_true]; kernel_rfl)
theorem isEnd_of {d : Deed} {a : Str} {rest : List D} (ha : d.parts = .str a :: rest) (h : (d.word == ("end" : Str)) = true) : rest = [] ∧ d = .fin a := by
  cases d with
  | fin b => cases ha; exact ⟨rfl, rfl⟩
  | _ => exact absurd h (by rw [Bool.not_eq_true]; kernel_rfl)
theorem moved_of {r : Rows} {made : Int} {d : Deed} {a : Str} {rest : List D} (ha : d.parts = .str a :: rest) (h1 : d.isMG = false) (h2 : (d.word == ("drop" : Str)) = false) (h3 : (d.word == ("end" : Str)) = false) (hr : r a ≠ []) :
    behindR r made d = movedR r d ∧ d.isMV = true := by
  cases d with
  | make b k => cases h1
  | grow b k => cases h1
  | wait k => cases ha
  | drop b i k => exact absurd h2 (by rw [Bool.not_eq_false]; kernel_rfl)
  | fin b => exact absurd h3 (by rw [Bool.not_eq_false]; kernel_rfl)
  | move b c => cases ha; exact ⟨if_neg hr, rfl⟩
  | swap b c => cases ha; exact ⟨if_neg hr, rfl⟩
  | pour b c => cases ha; exact ⟨if_neg hr, rfl⟩
  | cut b k c => cases ha; exact ⟨if_neg hr, rfl⟩
  | split b k c e => cases ha; exact ⟨if_neg hr, rfl⟩
def rowsOut (ns : List Str) (g : Nat) : Option Rows → Out
  | none => .ret .non g
  | some r => .newB (.dK (rowsK ns r)) g
end DL
open PySem L2 DL
namespace K70
section
variable {P : Program} {w : World} {K : PySem.W.Frag} {mg : Str → Option Value} {base : Heap} {T : List (Addr × Str)}
/-- rows_behind -/
def behN : DF := fun ds g C => ∃ (ns : List Str) (r : Rows) (made : Int) (d : Deed), ds = [.dK (rowsK ns r), .int made, .tup d.items] ∧ okNames ns ∧ d.ok ns ∧ (∀ n, (r n).length < 2 ^ 17) ∧ C (rowsOut ns g (behindR r made d))
def movN : DF := fun ds g C => ∃ (ns : List Str) (r : Rows) (d : Deed) (a : Str), ds = [.dK (rowsK ns r), .str d.word, .tup d.parts, .lst (rowL (r a))] ∧ d.parts.head? = some (.str a) ∧ okNames ns ∧ d.ok ns ∧ (∀ n, (r n).length < 2 ^ 17) ∧ d.isMV = true ∧ C (rowsOut ns g (movedR r d))
theorem ok_rows_behind (B : Bi mg) {f : Addr} {fd : FuncData} (F : Fun K "rows_behind" "rows_behind" s_rows_behind f fd) (h1 : Kn P w K mg base T "size_of" 1 sizN) (h2 : Kn P w K mg base T "tidy" 1 tidN) (h3 : Kn P w K mg base T "lessened" 2 lesN) (h4 : Kn P w K mg base T "rows_moved" 3 movN) : FnOk P w K mg base (L2.CX P w) 4 f fd ["rows", "made", "deed"] (spD K T behN) := by
  refine okD F sc_rows_behind (fun ds g C h => by obtain ⟨ns, r, made, d, rfl, _⟩ := h; rfl) (fun cdv A outer s H E An ds g C hr tk h => ?_)
  obtain ⟨ns, r, made, d, rfl, okn, okd, hl, h⟩ := h
  have nd := sc_rows_behind.nd
  show DSs _ T An ⟨[.dat (.dK (rowsK ns r)), .dat (.int made), .dat (.tup d.items), .non, .non, .non], [], An.ws, g⟩ _ _
  refine dss_cons (ds_par rfl nd (dv_de (de_ix (de_name ?_))))
  walk_at "go"
  refine ixD_seq (j := 0) rfl rfl rfl ?_
  refine ⟨_, rfl, ?_⟩
  refine de_sliceT ?_
  walk_at "go"
  refine ⟨_, rfl, ?_⟩
  have ecut : cutD d.items (some 1) none = d.parts := by
    unfold cutD
    cases d <;> rfl
  rw [ecut]
  walk_at "n"
  refine dss_cons (ds_if (dt_eq hr.units (de_name ?_)))
  walk_at "go"
  refine ⟨_, (eqP_word d).1, fun e => ?_, fun e => ?_⟩
  · have e0 : d.word = "wait" := eq_of_beq e
    cases d with
    | wait k =>
      walk_at "s1"
      walk_at "s1"
      refine dv_dictC B.dict (da_cons (de_name ?_))
      walk_at "n"
      exact da_nil fun a => ⟨rfl, h⟩
    | _ => exact absurd e (by rw [Bool.not_eq_true]; kernel_rfl)
  refine dss_nil ?_
  obtain ⟨a, rest, ha, hm⟩ : ∃ a rest, d.parts = .str a :: rest ∧ a ∈ ns := by
    cases d with
    | wait k => exact absurd e (by rw [Bool.not_eq_false]; kernel_rfl)
    | _ => first | exact ⟨_, _, rfl, okd.1⟩ | exact ⟨_, _, rfl, okd⟩
  refine dss_cons (ds_set nd (dv_de (de_ixK hr.units (de_name ?_))))
  walk_at "n"
  refine de_ix (de_name ?_)
  walk_at "go"
  rw [ha]
  refine ixD_seq (j := 0) rfl rfl rfl ?_
  refine ⟨_, _, rfl, look_rows hm, ?_⟩
  walk_at "n"
  refine dss_cons (ds_if (dt_ne hr.units (de_eq hr.units (de_name ?_))))
  walk_at "n"
  refine de_dv (dv_list (da_nil ⟨by show 0 ≤ sizeLine; decide, fun p1 => ?_⟩))
  refine ⟨_, eqP_row (r a), ?_⟩
  refine de_eq hr.units (de_name ?_)
  walk_at "go"
  refine ⟨_, (eqP_word d).2.1, ?_⟩
  refine ⟨decide (r a = []) == (d.word == "make"), by cases decide (r a = []) <;> cases (d.word == ("make" : Str)) <;> rfl, fun e1 => ?_, fun e1 => ?_⟩
  · walk_at "go"
    have hnone : behindR r made d = none := behind_none ha fun z => by
      by_cases e2 : r a = []
      · have e3 := z.mp e2
        rw [e2, e3] at e1
        simp at e1
      · have e3 : (d.word == ("make" : Str)) = false := by
          rw [beq_eq_false_iff_ne]
          exact fun q => e2 (z.mpr q)
        rw [decide_eq_false e2, e3] at e1
        cases e1
    rw [hnone] at h
    exact ⟨.inl rfl, h⟩
  refine dss_nil ?_
  have hiff : r a = [] ↔ d.word = "make" := by
    have e2 : decide (r a = []) = (d.word == ("make" : Str)) := by simpa using e1
    constructor
    · intro z
      rw [decide_eq_true z] at e2
      exact eq_of_beq e2.symm
    · intro z
      rw [z] at e2
      exact of_decide_eq_true (by rw [e2]; simp)
  show DSs _ T An ⟨[.dat (.dK (rowsK ns r)), .dat (.int made), .dat (.tup d.items), .dat (.str d.word), .dat (.tup (.str a :: rest)), .dat (.lst (rowL (r a)))], [], An.ws, g⟩ _ _
  have lr : ∀ x : Row, (rowL x).length = x.length := fun x => by unfold rowL; rw [List.length_map]
  have hla := hl a
  have hfew := okn.few
  have lk : (rowsK ns r).length ≤ 100 := by unfold rowsK; rw [List.length_map]; exact hfew
  refine dss_cons (ds_if (dt_inS (de_name ?_)))
  walk_at "go"
  refine ⟨by show 2 ≤ sizeLine; decide, ?_⟩
  refine ⟨_, rfl, rfl, rfl, ?_⟩
  rw [if_neg (by decide), any_MG]
  refine ⟨fun e2 => ?_, fun e2 => ?_⟩
  · obtain ⟨k, rfl, hdk⟩ := isMG_of ha e2
    have hres : behindR r made d = some (upR r a (tidyR (r a ++ [(made + 1, made + k)]))) := by
      rcases hdk with rfl | rfl
      · exact if_pos (hiff.mpr rfl)
      · exact if_neg fun z => absurd (hiff.mp z) (word_not rfl)
    rw [hres] at h
    refine dss_cons (ds_ret (dv_dstar fun d0 => de_name ?_))
    walk_at "n"
    refine ⟨_, _, rfl, rfl, fun e0 => dps_cons (de_ix (de_name ?_))⟩
    walk_at "go"
    refine ixD_seq (j := 0) rfl rfl rfl ?_
    refine de_dv (dv_call h2 (hr.mono (by decide)) tkF (da_cons (de_dv (dv_list (da_star (de_name ?_))))))
    walk_at "n"
    refine ⟨_, rfl, ?_⟩
    walk_at "go"
    refine ixD_seq (j := 1) rfl rfl rfl ?_
    walk_at "go"
    refine ⟨by show 2 ≤ sizeLine; decide, ?_⟩
    refine da_nil ⟨by rw [List.length_append, lr, sizeLine_eq]; show _ + 1 ≤ _; omega, fun a1 => ?_⟩
    refine da_nil ⟨r a ++ [(made + 1, made + k)], ?_, by rw [List.length_append]; show _ + 1 < _; omega, fun a2 => ?_⟩
    · unfold rowL
      rw [List.map_append]
      rfl
    refine ⟨_, rfl, dps_nil ⟨⟨[.dat (.dK (rowsK ns r)), .dat (.int made), .dat (.tup d.items), .dat (.str d.word), .dat (.tup [.str a, .int k]), .dat (.lst (rowL (r a)))], [], An.ws, g⟩, rfl, by rw [sizeLine_eq]; show _ + 1 ≤ _; omega, ?_⟩⟩
    rw [merge_one]
    show _ ∧ C (.newB (.dK (putD (rowsK ns r) (.inr a) (.lst (rowL (tidyR (r a ++ [(made + 1, made + k)])))))) g)
    rw [put_rows hm]
    exact ⟨rfl, h⟩
  refine dss_nil (dss_cons (ds_if (dt_eq hr.units (de_name ?_))))
  walk_at "go"
  have hra : r a ≠ [] := fun z => by
    have hw := hiff.mp z
    cases d with
    | make b k => cases e2
    | _ => exact absurd hw (word_not rfl)
  refine ⟨_, (eqP_word d).2.2.1, fun e3 => ?_, fun e3 => ?_⟩
  · obtain ⟨i, k, rfl, rfl⟩ := isDrop_of ha e3
    have hres : behindR r made (.drop a i k) = if sizeR (r a) ≥ i + k then some (upR r a (lessR (r a) i k)) else none := if_neg hra
    rw [hres] at h
    refine dss_cons (ds_ret (dv_if (dt_ge (de_dv (dv_call h1 (hr.mono (by decide)) tkF (da_cons (de_name ?_)))))))
    walk_at "n"
    refine da_nil ⟨r a, rfl, by omega, ?_⟩
    walk_at "go"
    refine ixD_seq (j := 1) rfl rfl rfl ?_
    walk_at "go"
    refine ixD_seq (j := 2) rfl rfl rfl ?_
    walk_at "n"
    refine ⟨fun e4 => ?_, fun e4 => ?_⟩
    · rw [if_pos (of_decide_eq_true e4)] at h
      refine dv_dstar fun d0 => de_name ?_
      walk_at "n"
      refine ⟨_, _, rfl, rfl, fun e0 => dps_cons (de_ix (de_name ?_))⟩
      walk_at "go"
      refine ixD_seq (j := 0) rfl rfl rfl ?_
      refine de_dv (dv_call h3 (hr.mono (by decide)) tkF ?_)
      walk_at "go"
      refine ixD_seq (j := 1) rfl rfl rfl ?_
      walk_at "go"
      refine ixD_seq (j := 2) rfl rfl rfl ?_
      refine da_nil ⟨r a, i, k, rfl, by omega, fun a1 => ?_⟩
      refine ⟨_, rfl, dps_nil ⟨⟨[.dat (.dK (rowsK ns r)), .dat (.int made), .dat (.tup (Deed.drop a i k).items), .dat (.str (Deed.drop a i k).word), .dat (.tup [.str a, .int i, .int k]), .dat (.lst (rowL (r a)))], [], An.ws, g⟩, rfl, by rw [sizeLine_eq]; show _ + 1 ≤ _; omega, ?_⟩⟩
      rw [merge_one]
      show _ ∧ C (.newB (.dK (putD (rowsK ns r) (.inr a) (.lst (rowL (lessR (r a) i k))))) g)
      rw [put_rows hm]
      exact ⟨rfl, h⟩
    · rw [if_neg (of_decide_eq_false e4)] at h
      walk_at "go"
      exact ⟨.inl rfl, h⟩
  refine dss_nil (dss_cons (ds_if (dt_eq hr.units (de_name ?_))))
  walk_at "go"
  refine ⟨_, (eqP_word d).2.2.2, fun e4 => ?_, fun e4 => ?_⟩
  · obtain ⟨rfl, rfl⟩ := isEnd_of ha e4
    have hres : behindR r made (.fin a) = some (upR r a []) := if_neg hra
    rw [hres] at h
    refine dss_cons (ds_ret (dv_dstar fun d0 => de_name ?_))
    walk_at "n"
    refine ⟨_, _, rfl, rfl, fun e0 => dps_cons (de_ix (de_name ?_))⟩
    walk_at "go"
    refine ixD_seq (j := 0) rfl rfl rfl ?_
    refine de_dv (dv_list (da_nil ⟨by show 0 ≤ sizeLine; decide, fun a1 => ?_⟩))
    refine ⟨_, rfl, dps_nil ⟨_, rfl, by rw [sizeLine_eq]; show _ + 1 ≤ _; omega, ?_⟩⟩
    rw [merge_one]
    show _ ∧ C (.newB (.dK (putD (rowsK ns r) (.inr a) (.lst (rowL [])))) g)
    rw [put_rows hm]
    exact ⟨rfl, h⟩
  obtain ⟨hres, hws⟩ := moved_of (made := made) ha e2 e3 e4 hra
  rw [hres] at h
  refine dss_nil (dss_cons (ds_ret (dv_call h4 (hr.mono (by decide)) tk ?_)))
  walk_at "go"
  refine ⟨ns, r, d, a, by rw [ha], by rw [ha]; rfl, okn, okd, hl, hws, ?_⟩
  generalize movedR r d = o at h ⊢
  cases o with
  | none => exact ⟨.inl rfl, h⟩
  | some r' => exact fun a => ⟨rfl, h⟩
end
end K70
end

section
namespace DL
open PySem L2
def Deed.others : Deed → List Str
  | .move _ b => [b] | .swap _ b => [b] | .pour _ b => [b] | .cut _ _ b => [b] | .split _ _ b c => [b, c]
  | _ => []
def Deed.isSP : Deed → Bool
  | .swap _ _ => true
  | .pour _ _ => true
  | _ => false
theorem any_SP (d : Deed) : ([D.str "swap", D.str "pour"].any fun y => eqFl y (.str d.word)) = d.isSP := by cases d <;> kernel_rfl
def blocked (r : Rows) (d : Deed) : Bool := d.others.any fun o => decide (r o = []) == d.isSP
theorem moved_blocked {r : Rows} {d : Deed} (h : blocked r d = true) : movedR r d = none := by
  cases d with
  | move a b =>
    have : decide (r b = []) = false := by simpa [blocked, Deed.others, Deed.isSP] using h
    exact if_neg (of_decide_eq_false this)
  | swap a b =>
    have : decide (r b = []) = true := by simpa [blocked, Deed.others, Deed.isSP] using h
    exact if_pos (of_decide_eq_true this)
  | pour a b =>
    have : decide (r b = []) = true := by simpa [blocked, Deed.others, Deed.isSP] using h
    exact if_pos (of_decide_eq_true this)
  | cut a k b =>
    have : decide (r b = []) = false := by simpa [blocked, Deed.others, Deed.isSP] using h
    exact if_neg (of_decide_eq_false this)
  | split a k b c =>
    refine if_neg fun z => ?_
    simp [blocked, Deed.others, Deed.isSP, z.1, z.2] at h
  | _ => rfl
theorem part_kind {d : Deed} {y : D} (h : y ∈ d.parts) : (∃ z, y = .str z) ∨ ∃ i, y = .int i := by
  cases d <;> simp only [Deed.parts, List.mem_cons, List.not_mem_nil, or_false] at h
  all_goals
    rcases h with h
    first
    | (rcases h with rfl | rfl | rfl | rfl <;> first | exact .inl ⟨_, rfl⟩ | exact .inr ⟨_, rfl⟩)
    | (rcases h with rfl | rfl | rfl <;> first | exact .inl ⟨_, rfl⟩ | exact .inr ⟨_, rfl⟩)
    | (rcases h with rfl | rfl <;> first | exact .inl ⟨_, rfl⟩ | exact .inr ⟨_, rfl⟩)
    | (subst h; first | exact .inl ⟨_, rfl⟩ | exact .inr ⟨_, rfl⟩)
theorem others_in {ns : List Str} {d : Deed} (h : d.ok ns) : ∀ o ∈ d.others, o ∈ ns := by
  cases d with
  | move a b => intro o ho; obtain rfl := List.mem_singleton.mp ho; exact h.2.1
  | swap a b => intro o ho; obtain rfl := List.mem_singleton.mp ho; exact h.2.1
  | pour a b => intro o ho; obtain rfl := List.mem_singleton.mp ho; exact h.2.1
  | cut a k b => intro o ho; obtain rfl := List.mem_singleton.mp ho; exact h.2.1
  | split a k b c =>
    intro o ho
    rcases List.mem_cons.mp ho with rfl | ho
    · exact h.2.1
    · obtain rfl := List.mem_singleton.mp ho
      exact h.2.2.1
  | _ => intro o ho; cases ho
theorem merge_two {kvs : List (Key × D)} {k1 k2 : Key} {d1 d2 : D} (h : k1 ≠ k2) : mergeD kvs (mergeD [] [(k1, d1), (k2, d2)]) = putD (putD kvs k1 d1) k2 d2 := by
  have e : mergeD [] [(k1, d1), (k2, d2)] = [(k1, d1), (k2, d2)] := merge_new _ [] (by simpa using h) (fun k _ z => by cases z)
  rw [e]
  rfl
theorem merge_three {kvs : List (Key × D)} {k1 k2 k3 : Key} {d1 d2 d3 : D} (h : k1 ≠ k2) (h2 : k1 ≠ k3) (h3 : k2 ≠ k3) : mergeD kvs (mergeD [] [(k1, d1), (k2, d2), (k3, d3)]) = putD (putD (putD kvs k1 d1) k2 d2) k3 d3 := by
  have e : mergeD [] [(k1, d1), (k2, d2), (k3, d3)] = [(k1, d1), (k2, d2), (k3, d3)] := merge_new _ [] (by simp [h, h2, h3]) (fun k _ z => by cases z)
  rw [e]
  rfl
theorem inr_ne {a b : Str} (h : a ≠ b) : (Sum.inr a : Key) ≠ Sum.inr b := fun z => h (Sum.inr.inj z)
end DL
open PySem L2 DL
namespace K70
section
variable {P : Program} {w : World} {K : PySem.W.Frag} {mg : Str → Option Value} {base : Heap} {T : List (Addr × Str)}
theorem ok_rows_moved (B : Bi mg) {f : Addr} {fd : FuncData} (F : Fun K "rows_moved" "rows_moved" s_rows_moved f fd) (h1 : Kn P w K mg base T "size_of" 1 sizN) (h2 : Kn P w K mg base T "tidy" 1 tidN) (h3 : Kn P w K mg base T "parted" 1 parN) : FnOk P w K mg base (L2.CX P w) 3 f fd ["rows", "word", "parts", "row"] (spD K T movN) := by
  refine okD F sc_rows_moved (fun ds g C h => by obtain ⟨ns, r, d, a, rfl, _⟩ := h; rfl) (fun cdv A outer s H E An ds g C hr tk h => ?_)
  obtain ⟨ns, r, d, a, rfl, hpa, okn, okd, hl, hws, h⟩ := h
  have nd := sc_rows_moved.nd
  have lr : ∀ x : Row, (rowL x).length = x.length := fun x => by unfold rowL; rw [List.length_map]
  have hfew := okn.few
  have lk : (rowsK ns r).length ≤ 100 := by unfold rowsK; rw [List.length_map]; exact hfew
  have hoi := others_in okd
  show DSs _ T An ⟨[.dat (.dK (rowsK ns r)), .dat (.str d.word), .dat (.tup d.parts), .dat (.lst (rowL (r a))), .non, .non, .non, .non, .non], [], An.ws, g⟩ _ _
  refine dss_cons (ds_setLc rfl nd (blkOk_by (own := [("part", 4)]) (by kernel_rfl)) rfl rfl (di_seq (de_sliceT ?_)))
  walk_at "go"
  have ecut : cutD d.parts (some 1) none = d.parts.drop 1 := by
    cases d <;> first | rfl | (cases hws; done)
  refine ⟨_, rfl, _, rfl, ?_⟩
  rw [ecut]
  refine lcd_fm (fun x => match x with | .str z => [.str z] | _ => []) rfl (by rw [sizeLine_eq]; cases d <;> simp [Deed.parts]) (fun i5 y acc D0 ey => ?_) fun a1 => ?_
  · have hy := part_kind (List.mem_of_mem_drop (List.mem_of_getElem? ey))
    walk_at "blk"
    walk_at "gg"
    walk_at "blk"
    walk_at "go"
    rcases hy with ⟨z, rfl⟩ | ⟨z, rfl⟩
    · refine ⟨true, rfl, true, rfl, fun _ => ?_, fun z => (by cases z)⟩
      walk_at "blk"
      walk_at "go"
      exact ⟨rfl, rfl, rfl, rfl⟩
    · refine ⟨false, rfl, false, rfl, fun z => (by cases z), fun _ => ⟨rfl, rfl, rfl, rfl⟩⟩
  have eo : (d.parts.drop 1).flatMap (fun x => match x with | .str z => [D.str z] | _ => []) = txts d.others := by
    cases d <;> first | rfl | (cases hws; done)
  rw [eo]
  walk_at "n"
  have hol : d.others.length ≤ 2 := by cases d <;> simp [Deed.others]
  refine dss_cons (ds_if (dt_imp (C1 := fun k ρ' => k = blocked r d ∧ ρ' = ⟨[.dat (.dK (rowsK ns r)), .dat (.str d.word), .dat (.tup d.parts), .dat (.lst (rowL (r a))), .non, .dat (.lst (txts d.others)), .non, .non, .non], [], An.ws, g⟩) (dt_tru (de_dv (dv_any rfl B.any (da_cons (de_dv (dv_lc rfl nd (blkOk_by (own := [("other", 6)]) (by kernel_rfl)) (di_seq (de_name ?_)))))))) ?_))
  · walk_at "n"
    refine ⟨_, rfl, lcd_fm (fun x => match x with | .str o => [.bl (decide (r o = []) == d.isSP)] | _ => []) rfl (by unfold txts; rw [List.length_map, sizeLine_eq]; omega) (fun i5 y acc D0 ey => ?_) fun a2 => ?_⟩
    · unfold txts at ey
      rw [List.getElem?_map] at ey
      obtain ⟨o, eo2, rfl⟩ := Option.map_eq_some_iff.mp ey
      have ho := hoi o (List.mem_of_getElem? eo2)
      walk_at "blk"
      walk_at "gg"
      walk_at "blk"
      refine dts_nil ⟨fun _ => ?_, fun z => (by cases z)⟩
      walk_at "blk"
      refine de_eq hr.units (de_eq hr.units (de_ixK hr.units (de_name ?_)))
      walk_at "go"
      refine ⟨_, _, rfl, look_rows ho, ?_⟩
      refine de_dv (dv_list (da_nil ⟨by show 0 ≤ sizeLine; decide, fun p1 => ?_⟩))
      refine ⟨_, eqP_row (r o), ?_⟩
      refine de_inS (de_name ?_)
      walk_at "go"
      refine ⟨by show 2 ≤ sizeLine; decide, ?_⟩
      refine ⟨_, rfl, rfl, rfl, ?_⟩
      rw [if_neg (by decide), any_SP]
      refine ⟨decide (r o = []) == d.isSP, by cases decide (r o = []) <;> cases d.isSP <;> rfl, ?_⟩
      exact ⟨rfl, rfl, rfl, rfl⟩
    · refine da_nil ⟨d.others.map fun o => decide (r o = []) == d.isSP, ?_, ?_⟩
      · show some _ = some _
        congr 1
        unfold txts
        rw [List.flatMap_map, List.map_map]
        exact (List.map_eq_flatMap).symm
      · rw [List.any_map]
        exact ⟨_, rfl, rfl, rfl⟩
  rintro k ρ' ⟨rfl, rfl⟩
  refine ⟨fun e1 => ?_, fun e1 => ?_⟩
  · rw [moved_blocked e1] at h
    walk_at "go"
    exact ⟨.inl rfl, h⟩
  refine dss_nil ?_
  cases d with
  | move b c =>
    obtain rfl : b = a := by cases hpa; rfl
    obtain ⟨m1, m2, ne⟩ := okd
    have hrc : r c = [] := of_decide_eq_true (p := r c = []) (by simpa [blocked, Deed.others, Deed.isSP] using e1)
    have hres : movedR r (.move b c) = some (upR (upR r b []) c (r b)) := if_pos hrc
    rw [hres] at h
    refine dss_cons (ds_if (dt_eq hr.units (de_name ?_)))
    walk_at "go"
    refine ⟨true, by kernel_rfl, fun _ => ?_, fun z => (by cases z)⟩
    refine dss_cons (ds_ret (dv_dstar fun d0 => de_name ?_))
    walk_at "n"
    refine ⟨_, _, rfl, rfl, fun e0 => dps_cons (de_ix (de_name ?_))⟩
    walk_at "go"
    refine ixD_seq (j := 0) rfl rfl rfl ?_
    refine de_dv (dv_list (da_nil ⟨by show 0 ≤ sizeLine; decide, fun a1 => ?_⟩))
    refine ⟨_, rfl, dps_cons (de_ix (de_name ?_))⟩
    walk_at "go"
    refine ixD_seq (j := 0) rfl rfl rfl ?_
    walk_at "go"
    refine ⟨_, rfl, dps_nil ⟨_, rfl, by rw [sizeLine_eq]; show _ + 2 ≤ _; omega, ?_⟩⟩
    rw [merge_two (inr_ne ne)]
    show _ ∧ C (.newB (.dK (putD (putD (rowsK ns r) (.inr b) (.lst (rowL []))) (.inr c) (.lst (rowL (r b))))) g)
    rw [put_rows m1, put_rows m2]
    exact ⟨rfl, h⟩
  | swap b c =>
    obtain rfl : b = a := by cases hpa; rfl
    obtain ⟨m1, m2, ne⟩ := okd
    have hrc : r c ≠ [] := of_decide_eq_false (p := r c = []) (by simpa [blocked, Deed.others, Deed.isSP] using e1)
    have hres : movedR r (.swap b c) = some (upR (upR r b (r c)) c (r b)) := if_neg hrc
    rw [hres] at h
    refine dss_cons (ds_if (dt_eq hr.units (de_name ?_)))
    walk_at "go"
    refine ⟨false, by kernel_rfl, fun z => (by cases z), fun _ => dss_nil ?_⟩
    refine dss_cons (ds_if (dt_eq hr.units (de_name ?_)))
    walk_at "go"
    refine ⟨true, by kernel_rfl, fun _ => ?_, fun z => (by cases z)⟩
    refine dss_cons (ds_ret (dv_dstar fun d0 => de_name ?_))
    walk_at "n"
    refine ⟨_, _, rfl, rfl, fun e0 => dps_cons (de_ix (de_name ?_))⟩
    walk_at "go"
    refine ixD_seq (j := 0) rfl rfl rfl ?_
    refine de_ixK hr.units (de_name ?_)
    walk_at "n"
    refine de_ix (de_name ?_)
    walk_at "go"
    refine ixD_seq (j := 0) rfl rfl rfl ?_
    refine ⟨_, _, rfl, look_rows m2, ?_⟩
    refine ⟨_, rfl, dps_cons (de_ix (de_name ?_))⟩
    walk_at "go"
    refine ixD_seq (j := 0) rfl rfl rfl ?_
    walk_at "go"
    refine ⟨_, rfl, dps_nil ⟨_, rfl, by rw [sizeLine_eq]; show _ + 2 ≤ _; omega, ?_⟩⟩
    rw [merge_two (inr_ne ne)]
    show _ ∧ C (.newB (.dK (putD (putD (rowsK ns r) (.inr b) (.lst (rowL (r c)))) (.inr c) (.lst (rowL (r b))))) g)
    rw [put_rows m1, put_rows m2]
    exact ⟨rfl, h⟩
  | pour b c =>
    obtain rfl : b = a := by cases hpa; rfl
    obtain ⟨m1, m2, ne⟩ := okd
    have hla := hl b
    have hlc := hl c
    have hrc : r c ≠ [] := of_decide_eq_false (p := r c = []) (by simpa [blocked, Deed.others, Deed.isSP] using e1)
    have hres : movedR r (.pour b c) = some (upR (upR r b []) c (tidyR (r c ++ r b))) := if_neg hrc
    rw [hres] at h
    refine dss_cons (ds_if (dt_eq hr.units (de_name ?_)))
    walk_at "go"
    refine ⟨false, by kernel_rfl, fun z => (by cases z), fun _ => dss_nil ?_⟩
    refine dss_cons (ds_if (dt_eq hr.units (de_name ?_)))
    walk_at "go"
    refine ⟨false, by kernel_rfl, fun z => (by cases z), fun _ => dss_nil ?_⟩
    refine dss_cons (ds_if (dt_eq hr.units (de_name ?_)))
    walk_at "go"
    refine ⟨true, by kernel_rfl, fun _ => ?_, fun z => (by cases z)⟩
    refine dss_cons (ds_ret (dv_dstar fun d0 => de_name ?_))
    walk_at "n"
    refine ⟨_, _, rfl, rfl, fun e0 => dps_cons (de_ix (de_name ?_))⟩
    walk_at "go"
    refine ixD_seq (j := 0) rfl rfl rfl ?_
    refine de_dv (dv_list (da_nil ⟨by show 0 ≤ sizeLine; decide, fun a1 => ?_⟩))
    refine ⟨_, rfl, dps_cons (de_ix (de_name ?_))⟩
    walk_at "go"
    refine ixD_seq (j := 0) rfl rfl rfl ?_
    refine de_dv (dv_call h2 (hr.mono (by decide)) tkF (da_cons (de_dv (dv_list (da_star (de_ixK hr.units (de_name ?_)))))))
    walk_at "n"
    refine de_ix (de_name ?_)
    walk_at "go"
    refine ixD_seq (j := 0) rfl rfl rfl ?_
    refine ⟨_, _, rfl, look_rows m2, ?_⟩
    refine ⟨_, rfl, da_star (de_name ?_)⟩
    walk_at "n"
    refine ⟨_, rfl, da_nil ⟨by rw [List.append_nil, List.length_append, lr, lr, sizeLine_eq]; omega, fun a2 => ?_⟩⟩
    refine da_nil ⟨r c ++ r b, ?_, by rw [List.length_append]; omega, fun a3 => ?_⟩
    · rw [List.append_nil]
      unfold rowL
      rw [List.map_append]
    refine ⟨_, rfl, dps_nil ⟨⟨[.dat (.dK (rowsK ns r)), .dat (.str (Deed.pour b c).word), .dat (.tup (Deed.pour b c).parts), .dat (.lst (rowL (r b))), .non, .dat (.lst (txts (Deed.pour b c).others)), .non, .non, .non], [], An.ws, g⟩, rfl, by rw [sizeLine_eq]; show _ + 2 ≤ _; omega, ?_⟩⟩
    rw [merge_two (inr_ne ne)]
    show _ ∧ C (.newB (.dK (putD (putD (rowsK ns r) (.inr b) (.lst (rowL []))) (.inr c) (.lst (rowL (tidyR (r c ++ r b)))))) g)
    rw [put_rows m1, put_rows m2]
    exact ⟨rfl, h⟩
  | cut b k c =>
    obtain rfl : b = a := by cases hpa; rfl
    obtain ⟨m1, m2, ne, hk⟩ := okd
    have hla := hl b
    have hres : movedR r (.cut b k c) = if sizeR (r b) ≤ k then none else some (upR (upR r b (partR (r b) k).1) c (partR (r b) k).2.1) := if_pos (of_decide_eq_true (p := r c = []) (by simpa [blocked, Deed.others, Deed.isSP] using e1))
    rw [hres] at h
    refine dss_cons (ds_if (dt_eq hr.units (de_name ?_)))
    walk_at "go"
    refine ⟨false, by kernel_rfl, fun z => (by cases z), fun _ => dss_nil ?_⟩
    refine dss_cons (ds_if (dt_eq hr.units (de_name ?_)))
    walk_at "go"
    refine ⟨false, by kernel_rfl, fun z => (by cases z), fun _ => dss_nil ?_⟩
    refine dss_cons (ds_if (dt_eq hr.units (de_name ?_)))
    walk_at "go"
    refine ⟨false, by kernel_rfl, fun z => (by cases z), fun _ => dss_nil ?_⟩
    refine dss_cons (ds_if (dt_le (de_dv (dv_call h1 (hr.mono (by decide)) tkF (da_cons (de_name ?_))))))
    walk_at "n"
    refine da_nil ⟨r b, rfl, by omega, ?_⟩
    walk_at "go"
    refine ixD_seq (j := 1) rfl rfl rfl ?_
    walk_at "n"
    refine ⟨fun e2 => ?_, fun e2 => ?_⟩
    · rw [if_pos (of_decide_eq_true e2)] at h
      walk_at "go"
      exact ⟨.inl rfl, h⟩
    rw [if_neg (of_decide_eq_false e2)] at h
    refine dss_nil (dss_cons (ds_unp (de_dv (dv_call h3 (hr.mono (by decide)) tkF (da_cons (de_name ?_))))))
    walk_at "go"
    refine ixD_seq (j := 1) rfl rfl rfl ?_
    refine da_nil ⟨r b, k, rfl, by omega, ?_⟩
    refine ⟨[7, 8], ?_⟩
    walk_at "gg"
    refine dss_cons (ds_if (dt_eq hr.units (de_name ?_)))
    walk_at "go"
    refine ⟨true, by kernel_rfl, fun _ => ?_, fun z => (by cases z)⟩
    refine dss_cons (ds_ret (dv_dstar fun d0 => de_name ?_))
    walk_at "n"
    refine ⟨_, _, rfl, rfl, fun e0 => dps_cons (de_ix (de_name ?_))⟩
    walk_at "go"
    refine ixD_seq (j := 0) rfl rfl rfl ?_
    walk_at "go"
    refine ⟨_, rfl, dps_cons (de_ix (de_name ?_))⟩
    walk_at "go"
    refine ixD_seq (j := 0) rfl rfl rfl ?_
    walk_at "go"
    refine ⟨_, rfl, dps_nil ⟨_, rfl, by rw [sizeLine_eq]; show _ + 2 ≤ _; omega, ?_⟩⟩
    rw [merge_two (inr_ne ne)]
    show _ ∧ C (.newB (.dK (putD (putD (rowsK ns r) (.inr b) (.lst (rowL (partR (r b) k).1))) (.inr c) (.lst (rowL (partR (r b) k).2.1)))) g)
    rw [put_rows m1, put_rows m2]
    exact ⟨rfl, h⟩
  | split b k c e =>
    obtain rfl : b = a := by cases hpa; rfl
    obtain ⟨m1, m2, m3, n1, n2, n3, hk⟩ := okd
    have hla := hl b
    have hrce : r c = [] ∧ r e = [] := by
      have q : ¬ r c = [] → False := fun z => (by simp [blocked, Deed.others, Deed.isSP, z] at e1)
      have q2 : ¬ r e = [] → False := fun z => (by simp [blocked, Deed.others, Deed.isSP, z] at e1)
      exact ⟨Classical.byContradiction q, Classical.byContradiction q2⟩
    have hres : movedR r (.split b k c e) = if sizeR (r b) ≤ k then none else some (upR (upR (upR r b []) c (partR (r b) k).1) e (partR (r b) k).2.1) := if_pos hrce
    rw [hres] at h
    refine dss_cons (ds_if (dt_eq hr.units (de_name ?_)))
    walk_at "go"
    refine ⟨false, by kernel_rfl, fun z => (by cases z), fun _ => dss_nil ?_⟩
    refine dss_cons (ds_if (dt_eq hr.units (de_name ?_)))
    walk_at "go"
    refine ⟨false, by kernel_rfl, fun z => (by cases z), fun _ => dss_nil ?_⟩
    refine dss_cons (ds_if (dt_eq hr.units (de_name ?_)))
    walk_at "go"
    refine ⟨false, by kernel_rfl, fun z => (by cases z), fun _ => dss_nil ?_⟩
    refine dss_cons (ds_if (dt_le (de_dv (dv_call h1 (hr.mono (by decide)) tkF (da_cons (de_name ?_))))))
    walk_at "n"
    refine da_nil ⟨r b, rfl, by omega, ?_⟩
    walk_at "go"
    refine ixD_seq (j := 1) rfl rfl rfl ?_
    walk_at "n"
    refine ⟨fun e2 => ?_, fun e2 => ?_⟩
    · rw [if_pos (of_decide_eq_true e2)] at h
      walk_at "go"
      exact ⟨.inl rfl, h⟩
    rw [if_neg (of_decide_eq_false e2)] at h
    refine dss_nil (dss_cons (ds_unp (de_dv (dv_call h3 (hr.mono (by decide)) tkF (da_cons (de_name ?_))))))
    walk_at "go"
    refine ixD_seq (j := 1) rfl rfl rfl ?_
    refine da_nil ⟨r b, k, rfl, by omega, ?_⟩
    refine ⟨[7, 8], ?_⟩
    walk_at "gg"
    refine dss_cons (ds_if (dt_eq hr.units (de_name ?_)))
    walk_at "go"
    refine ⟨false, by kernel_rfl, fun z => (by cases z), fun _ => dss_nil ?_⟩
    refine dss_cons (ds_ret (dv_dstar fun d0 => de_name ?_))
    walk_at "n"
    refine ⟨_, _, rfl, rfl, fun e0 => dps_cons (de_ix (de_name ?_))⟩
    walk_at "go"
    refine ixD_seq (j := 0) rfl rfl rfl ?_
    refine de_dv (dv_list (da_nil ⟨by show 0 ≤ sizeLine; decide, fun a1 => ?_⟩))
    refine ⟨_, rfl, dps_cons (de_ix (de_name ?_))⟩
    walk_at "go"
    refine ixD_seq (j := 0) rfl rfl rfl ?_
    walk_at "go"
    refine ⟨_, rfl, dps_cons (de_ix (de_name ?_))⟩
    walk_at "go"
    refine ixD_seq (j := 1) rfl rfl rfl ?_
    walk_at "go"
    refine ⟨_, rfl, dps_nil ⟨_, rfl, by rw [sizeLine_eq]; show _ + 3 ≤ _; omega, ?_⟩⟩
    rw [merge_three (inr_ne n1) (inr_ne n2) (inr_ne n3)]
    show _ ∧ C (.newB (.dK (putD (putD (putD (rowsK ns r) (.inr b) (.lst (rowL []))) (.inr c) (.lst (rowL (partR (r b) k).1))) (.inr e) (.lst (rowL (partR (r b) k).2.1)))) g)
    rw [put_rows m1, put_rows m2, put_rows m3]
    exact ⟨rfl, h⟩
  | _ => cases hws
end
end K70
end

section
namespace DL
open PySem L2
def totR (ns : List Str) (r : Rows) : Int := (ns.map fun n => sizeR (r n)).sum
def Deed.gain : Deed → Int
  | .make _ k => k
  | .grow _ k => k
  | _ => 0
def doneR (ns : List Str) (most : Int) (r : Rows) (made : Int) (d : Deed) : Option (Rows × Int) := match behindR r made d with
  | none => none
  | some r' => if totR ns r' > most then none else some (r', made + d.gain)
theorem up_len {r : Rows} {M : Nat} {a : Str} {x : Row} (h : ∀ n, (r n).length ≤ M) (hx : x.length ≤ M) : ∀ n, (upR r a x n).length ≤ M := fun n => by
  unfold upR
  split
  · exact hx
  · exact h n
theorem moved_len {r r' : Rows} {d : Deed} {M : Nat} (h : ∀ n, (r n).length ≤ M) (e : movedR r d = some r') : ∀ n, (r' n).length ≤ 2 * M := by
  have h2 : ∀ n, (r n).length ≤ 2 * M := fun n => by have := h n; omega
  have hp : ∀ a k, (partR (r a) k).1.length ≤ 2 * M ∧ (partR (r a) k).2.1.length ≤ 2 * M := fun a k => by
    have := part_len (r a) k
    have := h a
    omega
  cases d with
  | move a b =>
    dsimp only [movedR] at e
    split at e
    · cases e; exact up_len (up_len h2 (Nat.zero_le _)) (h2 a)
    · cases e
  | swap a b =>
    dsimp only [movedR] at e
    split at e
    · cases e
    · cases e; exact up_len (up_len h2 (h2 b)) (h2 a)
  | pour a b =>
    dsimp only [movedR] at e
    split at e
    · cases e
    · cases e
      refine up_len (up_len h2 (Nat.zero_le _)) ?_
      have := tidy_len (r b ++ r a)
      rw [List.length_append] at this
      have := h a
      have := h b
      omega
  | cut a k b =>
    dsimp only [movedR] at e
    split at e
    · split at e
      · cases e
      · cases e; exact up_len (up_len h2 (hp a k).1) (hp a k).2
    · cases e
  | split a k b c =>
    dsimp only [movedR] at e
    split at e
    · split at e
      · cases e
      · cases e; exact up_len (up_len (up_len h2 (Nat.zero_le _)) (hp a k).1) (hp a k).2
    · cases e
  | _ => cases e
theorem behind_len {r r' : Rows} {made : Int} {d : Deed} {M : Nat} (h : ∀ n, (r n).length ≤ M) (e : behindR r made d = some r') : ∀ n, (r' n).length ≤ 2 * M + 1 := by
  have h2 : ∀ n, (r n).length ≤ 2 * M + 1 := fun n => by have := h n; omega
  have ht : ∀ a p, (tidyR (r a ++ [p])).length ≤ 2 * M + 1 := fun a p => by
    have := tidy_len (r a ++ [p])
    rw [List.length_append] at this
    have := h a
    simp only [List.length_singleton] at *
    omega
  have hm : ∀ {d : Deed}, movedR r d = some r' → ∀ n, (r' n).length ≤ 2 * M + 1 := fun e n => by have := moved_len h e n; omega
  cases d with
  | wait k => cases e; exact h2
  | make a k =>
    dsimp only [behindR] at e
    split at e
    · cases e; exact up_len h2 (ht a _)
    · cases e
  | grow a k =>
    dsimp only [behindR] at e
    split at e
    · cases e
    · cases e; exact up_len h2 (ht a _)
  | drop a i k =>
    dsimp only [behindR] at e
    split at e
    · cases e
    · split at e
      · cases e
        refine up_len h2 ?_
        have := less_len (r a) i k
        have := h a
        omega
      · cases e
  | fin a =>
    dsimp only [behindR] at e
    split at e
    · cases e
    · cases e; exact up_len h2 (Nat.zero_le _)
  | _ =>
    dsimp only [behindR] at e
    split at e
    · cases e
    · exact hm e
end DL
end

section
namespace DL
open PySem L2
def rowF : D → List D
  | .lst l => [.int (l.map fun y => match y with | .tup [.int a, .int b] => b - a + 1 | _ => 0).sum]
  | _ => []
theorem rowF_row (r : Row) : rowF (.lst (rowL r)) = [.int (sizeR r)] := by
  show [D.int ((rowL r).map _).sum] = _
  unfold rowL sizeR
  rw [List.map_map]
  rfl
theorem rowF_rows (ns : List Str) (r : Rows) : ((rowsK ns r).map fun x => x.2).flatMap rowF = (ns.map fun n => sizeR (r n)).map D.int := by
  unfold rowsK
  rw [List.map_map, List.map_map, List.flatMap_map]
  induction ns with
  | nil => rfl
  | cons n ns ih =>
    rw [List.flatMap_cons, List.map_cons, ih]
    show rowF (.lst (rowL (r n))) ++ _ = _
    rw [rowF_row]
    rfl
theorem isMG_ex {d : Deed} (h : d.isMG = true) : ∃ w a k, d.items = [.str w, .str a, .int k] ∧ d.gain = k := by
  cases d with
  | make b k => exact ⟨_, _, _, rfl, rfl⟩
  | grow b k => exact ⟨_, _, _, rfl, rfl⟩
  | _ => cases h
theorem isMG_no {d : Deed} (h : d.isMG = false) : d.gain = 0 := by
  cases d <;> first | rfl | cases h
theorem items_word (d : Deed) : ∃ rest, d.items = .str d.word :: rest := by cases d <;> exact ⟨_, rfl⟩
end DL
open PySem L2 DL
namespace K70
section
variable {P : Program} {w : World} {K : PySem.W.Frag} {mg : Str → Option Value} {base : Heap} {T : List (Addr × Str)}
def doneO (ns : List Str) (g : Nat) : Option (Rows × Int) → Out
  | none => .ret .non g
  | some (r, m) => .ret (.tup [.dK (rowsK ns r), .int m]) g
/-- done -/
def donN (LC : Addr) : DF := fun ds g C => ∃ (ns : List Str) (most : Int) (r : Rows) (made : Int) (d : Deed), ds = [landD LC ns most, .dK (rowsK ns r), .int made, .tup d.items] ∧ okNames ns ∧ d.ok ns ∧ (∀ n, (r n).length < 2 ^ 17) ∧ C (doneO ns g (doneR ns most r made d))
theorem ok_done (B : Bi mg) {LC f : Addr} {fd : FuncData} (F : Fun K "done" "done" s_done f fd) (nb : NoAttr K LC "bound") (h1 : Kn P w K mg base T "size_of" 1 sizN) (h2 : Kn P w K mg base T "rows_behind" 4 behN) : FnOk P w K mg base (L2.CX P w) 5 f fd ["land", "rows", "made", "deed"] (spD K T (donN LC)) := by
  refine okD F sc_done (fun ds g C h => by obtain ⟨ns, most, r, made, d, rfl, _⟩ := h; rfl) (fun cdv A outer s H E An ds g C hr tk h => ?_)
  obtain ⟨ns, most, r, made, d, rfl, okn, okd, hl, h⟩ := h
  have nd := sc_done.nd
  show DSs _ T An ⟨[.dat (landD LC ns most), .dat (.dK (rowsK ns r)), .dat (.int made), .dat (.tup d.items), .non, .non], [], An.ws, g⟩ _ _
  refine dss_cons (ds_set nd (dv_call h2 (hr.mono (by decide)) tkF ?_))
  walk_at "go"
  refine ⟨ns, r, made, d, rfl, okn, okd, hl, ?_⟩
  unfold doneR at h
  cases eb : behindR r made d with
  | none =>
    rw [eb] at h
    show DSs _ T An ⟨[.dat (landD LC ns most), .dat (.dK (rowsK ns r)), .dat (.int made), .dat (.tup d.items), .dat .non, .non], [], An.ws, g⟩ _ _
    refine dss_cons (ds_if (dt_bool (dw_or (dt_is (de_name ?_)))))
    walk_at "go"
    refine ⟨rfl, ?_⟩
    refine ⟨fun _ => ⟨fun _ => ?_, fun e => (by cases e)⟩, fun e => (by cases e)⟩
    walk_at "go"
    exact ⟨.inl rfl, h⟩
  | some r' =>
    rw [eb] at h
    dsimp only [rowsOut, outD]
    intro aa
    have hl' : ∀ n, (r' n).length ≤ 2 * (2 ^ 17) + 1 := behind_len (M := 2 ^ 17) (fun n => Nat.le_of_lt (hl n)) eb
    have hfew := okn.few
    have lk : (rowsK ns r').length ≤ 100 := by unfold rowsK; rw [List.length_map]; exact hfew
    refine dss_cons (ds_if (dt_bool (dw_or (dt_is (de_name ?_)))))
    walk_at "go"
    refine ⟨rfl, ?_⟩
    refine ⟨fun e => (by cases e), fun _ => ?_⟩
    refine dw_or1 (dt_gt ?_)
    refine de_dv (dv_sum rfl B.sum (da_cons (de_dv (dv_lc rfl nd (blkOk_by (own := [("row", 5)]) (by kernel_rfl)) (di_values (de_name ?_))))))
    walk_at "n"
    refine ⟨_, rfl, ?_⟩
    refine lcd_fm rowF rfl (by rw [List.length_map, sizeLine_eq]; omega) (fun i y acc D0 ey => ?_) fun a => ?_
    · rw [List.getElem?_map] at ey
      obtain ⟨kv, ekv, rfl⟩ := Option.map_eq_some_iff.mp ey
      unfold rowsK at ekv
      rw [List.getElem?_map] at ekv
      obtain ⟨n, en, rfl⟩ := Option.map_eq_some_iff.mp ekv
      have hn := hl' n
      walk_at "blk"
      walk_at "gg"
      walk_at "blk"
      refine dts_nil ⟨fun _ => ?_, fun z => (by cases z)⟩
      walk_at "blk"
      refine de_dv (dv_call h1 (hr.mono (by decide)) tkF (da_cons (de_name ?_)))
      walk_at "n"
      refine da_nil ⟨r' n, rfl, by omega, ?_⟩
      exact ⟨rowF_row _, rfl, rfl, rfl⟩
    · refine da_nil ⟨ns.map fun n => sizeR (r' n), by show some _ = some _; rw [rowF_rows], ?_⟩
      walk_at "n"
      refine de_fld nb (de_name ?_)
      walk_at "n"
      refine ⟨_, _, rfl, rfl, ?_⟩
      walk_at "n"
      have et : (ns.map fun n => sizeR (r' n)).sum = totR ns r' := rfl
      rw [et]
      refine ⟨fun e => ?_, fun e => ?_⟩
      · have h' := h
        dsimp only at h'
        rw [if_pos (of_decide_eq_true e)] at h'
        walk_at "go"
        exact ⟨.inl rfl, h'⟩
      · have h' := h
        dsimp only at h'
        rw [if_neg (of_decide_eq_false e)] at h'
        refine dss_nil (dss_cons (ds_ret ?_))
        walk_at "go"
        obtain ⟨rest, ew⟩ := items_word d
        refine dt_inS (de_ix (de_name ?_))
        walk_at "go"
        rw [ew]
        refine ixD_seq (j := 0) rfl rfl rfl ?_
        walk_at "go"
        refine ⟨by show 2 ≤ sizeLine; decide, ?_⟩
        refine ⟨_, rfl, rfl, rfl, ?_⟩
        rw [if_neg (by decide), any_MG]
        refine ⟨fun e2 => ?_, fun e2 => ?_⟩
        · obtain ⟨w', a', k', ei, ek⟩ := isMG_ex e2
          rw [ek] at h'
          walk_at "go"
          rw [← ew, ei]
          refine ixD_seq (j := 2) rfl rfl rfl ?_
          walk_at "go"
          exact ⟨by show 2 ≤ sizeLine; decide, .inl rfl, h'⟩
        · rw [isMG_no e2, Int.add_zero] at h'
          walk_at "go"
          exact ⟨by show 2 ≤ sizeLine; decide, .inl rfl, h'⟩
end
end K70
end

section
namespace DL
open PySem L2
def partB (ns : List Str) (k : Str) (d : D) : Bool :=
  if (k == ("a" : Str)) = true then (match d with | .str s => (txts ns).any fun y => eqFl y (.str s) | _ => false)
  else if (k == ("n" : Str)) = true then isPos d else isNum d
theorem txts_flat (ns : List Str) : (txts ns).all flatD = true := by
  rw [List.all_eq_true]
  intro x hx
  obtain ⟨s, _, rfl⟩ := List.mem_map.mp hx
  rfl
end DL
open PySem L2 DL
namespace K70
section
variable {P : Program} {w : World} {K : PySem.W.Frag} {mg : Str → Option Value} {base : Heap} {T : List (Addr × Str)}
/-- is_part -/
def parN2 (LC : Addr) : DF := fun ds g C => ∃ (ns : List Str) (most : Int) (k : Str) (d : D), ds = [landD LC ns most, .str k, d] ∧ okNames ns ∧ (k = "a" ∨ k = "n" ∨ k = "k") ∧ wt d = true ∧ C (.ret (.bl (partB ns k d)) g)
theorem ok_is_part (B : Bi mg) {LC f : Addr} {fd : FuncData} (F : Fun K "is_part" "is_part" s_is_part f fd) (nn : NoAttr K LC "names") (h1 : Kn P w K mg base T "is_positive" 2 (pred isPos)) (h2 : Kn P w K mg base T "is_number" 2 (pred isNum)) : FnOk P w K mg base (L2.CX P w) 3 f fd ["land", "kind", "part"] (spD K T (parN2 LC)) := by
  refine okD F sc_is_part (fun ds g C h => by obtain ⟨ns, most, k, d, rfl, _⟩ := h; rfl) (fun cdv A outer s H E An ds g C hr tk h => ?_)
  obtain ⟨ns, most, k, d, rfl, okn, hk, ty, h⟩ := h
  have nd := sc_is_part.nd
  have hfew := okn.few
  show DSs _ T An ⟨[.dat (landD LC ns most), .dat (.str k), .dat d], [], An.ws, g⟩ _ _
  unfold partB at h
  have q1 : eqP (.str k) (.str "a") = some (k == ("a" : Str)) := by rcases hk with rfl | rfl | rfl <;> kernel_rfl
  have q2 : eqP (.str k) (.str "n") = some (k == ("n" : Str)) := by rcases hk with rfl | rfl | rfl <;> kernel_rfl
  refine dss_cons (ds_if (dt_eq hr.units (de_name ?_)))
  walk_at "go"
  refine ⟨_, q1, fun e => ?_, fun e => ?_⟩
  · rw [if_pos e] at h
    cases d with
    | str s =>
      refine dss_cons (ds_ret (dv_de (de_and ?_)))
      walk_at "go"
      refine ⟨true, rfl, ?_⟩
      refine ⟨fun _ => ?_, fun z => (by cases z)⟩
      refine de_one (de_inS (de_name ?_))
      walk_at "n"
      refine de_fld nn (de_name ?_)
      walk_at "n"
      refine ⟨_, _, rfl, rfl, ?_⟩
      refine ⟨_, rfl, rfl, txts_flat ns, ?_⟩
      rw [if_neg (by decide)]
      exact ⟨.inr ⟨_, rfl⟩, h⟩
    | _ =>
      first
      | (cases ty; done)
      | (walk_at "go"
         exact ⟨false, rfl, fun z => (by cases z), fun _ => ⟨.inl rfl, h⟩⟩)
  · rw [if_neg (by rw [e]; decide)] at h
    refine dss_nil (dss_cons (ds_ret (dv_if (dt_eq hr.units (de_name ?_)))))
    walk_at "go"
    refine ⟨_, q2, fun e1 => ?_, fun e1 => ?_⟩
    · rw [if_pos e1] at h
      walk_at "go"
      exact ⟨d, rfl, ty, .inl rfl, h⟩
    · rw [if_neg (by rw [e1]; decide)] at h
      walk_at "go"
      exact ⟨d, rfl, ty, .inl rfl, h⟩
end
end K70
end

section
namespace DL
open PySem L2
def Deed.kinds : Deed → Str
  | .make _ _ => "an" | .grow _ _ => "an" | .move _ _ => "aa" | .swap _ _ => "aa" | .cut _ _ _ => "ana"
  | .split _ _ _ _ => "anaa" | .pour _ _ => "aa" | .drop _ _ _ => "akn" | .fin _ => "a" | .wait _ => "n"
theorem part_a {ns : List Str} {s : Str} (h : s ∈ ns) : partB ns "a" (.str s) = true := by
  show ((txts ns).any fun y => eqFl y (.str s)) = true
  refine List.any_eq_true.mpr ⟨.str s, List.mem_map.mpr ⟨s, h, rfl⟩, ?_⟩
  rw [eqFl_str]
  exact beq_self_eq_true s
theorem part_n {ns : List Str} {i : Int} (h : 1 ≤ i) : partB ns "n" (.int i) = true := by
  show decide (1 ≤ i) = true
  exact decide_eq_true h
theorem part_k {ns : List Str} {i : Int} (h : 0 ≤ i) : partB ns "k" (.int i) = true := by
  show decide (0 ≤ i) = true
  exact decide_eq_true h
/-- a kind with a part -/
def kp (ns : List Str) (y : D) : Prop := ∃ k p, y = .tup [.str k, p] ∧ (k = "a" ∨ k = "n" ∨ k = "k") ∧ ((∃ s, p = .str s ∧ s ∈ ns) ∨ ∃ i, p = .int i) ∧ partB ns k p = true
theorem kp_a {ns : List Str} {s : Str} (h : s ∈ ns) : kp ns (.tup [.str "a", .str s]) := ⟨_, _, rfl, .inl rfl, .inl ⟨s, rfl, h⟩, part_a h⟩
theorem kp_n {ns : List Str} {i : Int} (h : 1 ≤ i) : kp ns (.tup [.str "n", .int i]) := ⟨_, _, rfl, .inr (.inl rfl), .inr ⟨i, rfl⟩, part_n h⟩
theorem kp_k {ns : List Str} {i : Int} (h : 0 ≤ i) : kp ns (.tup [.str "k", .int i]) := ⟨_, _, rfl, .inr (.inr rfl), .inr ⟨i, rfl⟩, part_k h⟩
theorem kinds_ok {ns : List Str} {d : Deed} (h : d.ok ns) : ∀ y ∈ zipOf (chrs d.kinds) d.parts, kp ns y := by
  intro y hy
  cases d with
  | make a k =>
    have e : zipOf (chrs (Deed.make a k).kinds) (Deed.make a k).parts = [.tup [.str "a", .str a], .tup [.str "n", .int k]] := by kernel_rfl
    rw [e] at hy
    simp only [List.mem_cons, List.not_mem_nil, or_false] at hy
    rcases hy with rfl | rfl
    · exact kp_a h.1
    · exact kp_n h.2
  | grow a k =>
    have e : zipOf (chrs (Deed.grow a k).kinds) (Deed.grow a k).parts = [.tup [.str "a", .str a], .tup [.str "n", .int k]] := by kernel_rfl
    rw [e] at hy
    simp only [List.mem_cons, List.not_mem_nil, or_false] at hy
    rcases hy with rfl | rfl
    · exact kp_a h.1
    · exact kp_n h.2
  | move a b =>
    have e : zipOf (chrs (Deed.move a b).kinds) (Deed.move a b).parts = [.tup [.str "a", .str a], .tup [.str "a", .str b]] := by kernel_rfl
    rw [e] at hy
    simp only [List.mem_cons, List.not_mem_nil, or_false] at hy
    rcases hy with rfl | rfl
    · exact kp_a h.1
    · exact kp_a h.2.1
  | swap a b =>
    have e : zipOf (chrs (Deed.swap a b).kinds) (Deed.swap a b).parts = [.tup [.str "a", .str a], .tup [.str "a", .str b]] := by kernel_rfl
    rw [e] at hy
    simp only [List.mem_cons, List.not_mem_nil, or_false] at hy
    rcases hy with rfl | rfl
    · exact kp_a h.1
    · exact kp_a h.2.1
  | pour a b =>
    have e : zipOf (chrs (Deed.pour a b).kinds) (Deed.pour a b).parts = [.tup [.str "a", .str a], .tup [.str "a", .str b]] := by kernel_rfl
    rw [e] at hy
    simp only [List.mem_cons, List.not_mem_nil, or_false] at hy
    rcases hy with rfl | rfl
    · exact kp_a h.1
    · exact kp_a h.2.1
  | cut a k b =>
    have e : zipOf (chrs (Deed.cut a k b).kinds) (Deed.cut a k b).parts = [.tup [.str "a", .str a], .tup [.str "n", .int k], .tup [.str "a", .str b]] := by kernel_rfl
    rw [e] at hy
    simp only [List.mem_cons, List.not_mem_nil, or_false] at hy
    rcases hy with rfl | rfl | rfl
    · exact kp_a h.1
    · exact kp_n h.2.2.2
    · exact kp_a h.2.1
  | split a k b c =>
    have e : zipOf (chrs (Deed.split a k b c).kinds) (Deed.split a k b c).parts = [.tup [.str "a", .str a], .tup [.str "n", .int k], .tup [.str "a", .str b], .tup [.str "a", .str c]] := by kernel_rfl
    rw [e] at hy
    simp only [List.mem_cons, List.not_mem_nil, or_false] at hy
    rcases hy with rfl | rfl | rfl | rfl
    · exact kp_a h.1
    · exact kp_n h.2.2.2.2.2.2
    · exact kp_a h.2.1
    · exact kp_a h.2.2.1
  | drop a i k =>
    have e : zipOf (chrs (Deed.drop a i k).kinds) (Deed.drop a i k).parts = [.tup [.str "a", .str a], .tup [.str "k", .int i], .tup [.str "n", .int k]] := by kernel_rfl
    rw [e] at hy
    simp only [List.mem_cons, List.not_mem_nil, or_false] at hy
    rcases hy with rfl | rfl | rfl
    · exact kp_a h.1
    · exact kp_k h.2.1
    · exact kp_n h.2.2
  | fin a =>
    have e : zipOf (chrs (Deed.fin a).kinds) (Deed.fin a).parts = [.tup [.str "a", .str a]] := by kernel_rfl
    rw [e] at hy
    simp only [List.mem_cons, List.not_mem_nil, or_false] at hy
    rcases hy with rfl
    exact kp_a h
  | wait k =>
    have e : zipOf (chrs (Deed.wait k).kinds) (Deed.wait k).parts = [.tup [.str "n", .int k]] := by kernel_rfl
    rw [e] at hy
    simp only [List.mem_cons, List.not_mem_nil, or_false] at hy
    rcases hy with rfl
    exact kp_n h
theorem kinds_len (d : Deed) : ((chrs d.kinds).length = d.parts.length) := by cases d <;> kernel_rfl
end DL
end

section
namespace DL
open PySem L2
def Deed.days : Deed → Int
  | .wait k => k
  | _ => 0
abbrev Stp := Rows × Int × Int
/-- a history: deeds and what stands at each moment -/
structure Hist (ns : List Str) (most : Int) (ds : List Deed) (ss : List Stp) : Prop where
  ok : ∀ d ∈ ds, d.ok ns
  len : ss.length = ds.length + 1
  zero : ss[0]? = some (fun _ => [], 0, 0)
  step : ∀ i d r m y, ds[i]? = some d → ss[i]? = some (r, m, y) → ∃ r' m', doneR ns most r m d = some (r', m') ∧ ss[i + 1]? = some (r', m', y + d.days)
  few : ds.length ≤ 16
theorem done_behind {ns : List Str} {most : Int} {r r' : Rows} {m m' : Int} {d : Deed} (e : doneR ns most r m d = some (r', m')) : behindR r m d = some r' := by
  unfold doneR at e
  cases eb : behindR r m d with
  | none => rw [eb] at e; cases e
  | some q =>
    rw [eb] at e
    dsimp only at e
    split at e
    · cases e
    · cases e; rfl
section
variable {ns : List Str} {most : Int} {ds : List Deed} {ss : List Stp}
theorem Hist.lens (h : Hist ns most ds ss) : ∀ (i : Nat) (r : Rows) (m y : Int), ss[i]? = some (r, m, y) → ∀ n, (r n).length + 1 ≤ 2 ^ i
  | 0, r, m, y, e, n => by
    rw [h.zero] at e
    cases e
    exact Nat.le_refl _
  | i + 1, r', m', y', e, n => by
    have hi : i + 1 < ss.length := (List.getElem?_eq_some_iff.mp e).1
    have hl := h.len
    obtain ⟨d, ed⟩ : ∃ d, ds[i]? = some d := ⟨_, List.getElem?_eq_getElem (by omega)⟩
    obtain ⟨⟨r, m, y⟩, es⟩ : ∃ s, ss[i]? = some s := ⟨_, List.getElem?_eq_getElem (by omega)⟩
    obtain ⟨r2, m2, e1, e2⟩ := h.step i d r m y ed es
    rw [e2] at e
    cases e
    have := behind_len (M := 2 ^ i - 1) (fun k => by have := h.lens i r m y es k; omega) (done_behind e1) n
    have hp : 0 < 2 ^ i := Nat.two_pow_pos i
    have : 2 ^ (i + 1) = 2 * 2 ^ i := by rw [Nat.pow_succ]; omega
    omega
theorem Hist.lt17 (h : Hist ns most ds ss) {i : Nat} {r : Rows} {m y : Int} (e : ss[i]? = some (r, m, y)) (n : Str) : (r n).length < 2 ^ 17 := by
  have hi : i < ss.length := (List.getElem?_eq_some_iff.mp e).1
  have := h.len
  have := h.few
  have h1 := h.lens i r m y e n
  have h2 : 2 ^ i ≤ 2 ^ 16 := Nat.pow_le_pow_right (by decide) (by omega)
  omega
theorem Hist.at (h : Hist ns most ds ss) {i : Nat} (hi : i ≤ ds.length) : ∃ r m y, ss[i]? = some (r, m, y) := by
  have := h.len
  exact ⟨_, _, _, List.getElem?_eq_getElem (by omega)⟩
theorem Hist.nil : Hist ns most [] [(fun _ => [], 0, 0)] := ⟨fun d hd => (by cases hd), rfl, rfl, fun i d r m y ed => (by cases ed), Nat.zero_le _⟩
theorem Hist.snoc (h : Hist ns most ds ss) {r r' : Rows} {m m' y : Int} {d : Deed} (hf : ds.length < 16) (es : ss[ds.length]? = some (r, m, y)) (okd : d.ok ns) (e : doneR ns most r m d = some (r', m')) :
    Hist ns most (ds ++ [d]) (ss ++ [(r', m', y + d.days)]) := by
  have hl := h.len
  refine ⟨fun x hx => ?_, by simp [hl], ?_, fun i x q n z ex eq => ?_, by rw [List.length_append]; exact hf⟩
  · rcases List.mem_append.mp hx with hx | hx
    · exact h.ok x hx
    · cases List.mem_singleton.mp hx; exact okd
  · rw [List.getElem?_append_left (by omega)]
    exact h.zero
  · by_cases hi : i < ds.length
    · rw [List.getElem?_append_left hi] at ex
      rw [List.getElem?_append_left (by omega)] at eq
      obtain ⟨q', n', e1, e2⟩ := h.step i x q n z ex eq
      exact ⟨q', n', e1, by rw [List.getElem?_append_left (by omega)]; exact e2⟩
    · have hx : i < (ds ++ [d]).length := (List.getElem?_eq_some_iff.mp ex).1
      rw [List.length_append] at hx
      simp only [List.length_singleton] at hx
      have hi2 : i = ds.length := by omega
      subst hi2
      rw [List.getElem?_append_right (Nat.le_refl _)] at ex
      simp only [Nat.sub_self, List.getElem?_cons_zero] at ex
      cases ex
      rw [List.getElem?_append_left (by omega), es] at eq
      cases eq
      refine ⟨r', m', e, ?_⟩
      rw [List.getElem?_append_right (by omega), hl, Nat.sub_self]
      rfl
end
def dedT (d : Deed) : D := .tup d.items
def stpD (ns : List Str) (s : Stp) : D := .tup [.dK (rowsK ns s.1), .int s.2.1, .int s.2.2]
def histF (LC : Addr) (ns : List Str) (most : Int) (ds : List Deed) (ss : List Stp) : List (Str × D) := [("own_land", K70.landD LC ns most), ("own_deeds", .lst (ds.map dedT)), ("steps", .lst (ss.map (stpD ns)))]
/-- a history as data -/
def histD (HC LC : Addr) (ns : List Str) (most : Int) (ds : List Deed) (ss : List Stp) : D := .obj HC (histF LC ns most ds ss)
/-- the first day, the last day of a moment -/
def dayAt (ss : List Stp) (i : Nat) : Int := match ss[i]? with
  | some s => s.2.2
  | none => 0
def lastAt (ds : List Deed) (ss : List Stp) (i : Nat) : Int := dayAt ss i + (match ds[i]? with
  | some (.wait k) => k - 1
  | _ => 0)
def rowAt (ss : List Stp) (i : Nat) (n : Str) : Row := match ss[i]? with
  | some s => s.1 n
  | none => []
theorem wts_cons {d : D} {ds : List D} (h1 : wt d = true) (h2 : wts ds = true) : wts (d :: ds) = true := by
  unfold wts
  rw [h1, h2]
  rfl
theorem name_wt {ns : List Str} (okn : okNames ns) {a : Str} (h : a ∈ ns) : wt (.str a) = true := by
  show decide _ = true
  exact decide_eq_true (by have := name_short (okn.nm a h); omega)
theorem word_wt (d : Deed) : wt (.str d.word) = true := by cases d <;> kernel_rfl
theorem parts_wt {ns : List Str} (okn : okNames ns) {d : Deed} (h : d.ok ns) : wts d.parts = true := by
  cases d with
  | make a k => exact wts_cons (name_wt okn h.1) rfl
  | grow a k => exact wts_cons (name_wt okn h.1) rfl
  | move a b => exact wts_cons (name_wt okn h.1) (wts_cons (name_wt okn h.2.1) rfl)
  | swap a b => exact wts_cons (name_wt okn h.1) (wts_cons (name_wt okn h.2.1) rfl)
  | pour a b => exact wts_cons (name_wt okn h.1) (wts_cons (name_wt okn h.2.1) rfl)
  | cut a k b => exact wts_cons (name_wt okn h.1) (wts_cons rfl (wts_cons (name_wt okn h.2.1) rfl))
  | split a k b c => exact wts_cons (name_wt okn h.1) (wts_cons rfl (wts_cons (name_wt okn h.2.1) (wts_cons (name_wt okn h.2.2.1) rfl)))
  | drop a i k => exact wts_cons (name_wt okn h.1) rfl
  | fin a => exact wts_cons (name_wt okn h) rfl
  | wait k => rfl
theorem items_wt {ns : List Str} (okn : okNames ns) {d : Deed} (h : d.ok ns) : wts d.items = true := wts_cons (word_wt d) (parts_wt okn h)
def Deed.names : Deed → List Str
  | .make a _ => [a] | .grow a _ => [a] | .move a b => [a, b] | .swap a b => [a, b] | .cut a _ b => [a, b]
  | .split a _ b c => [a, b, c] | .pour a b => [a, b] | .drop a _ _ => [a] | .fin a => [a] | .wait _ => []
theorem names_nd {ns : List Str} {d : Deed} (h : d.ok ns) : d.names.Nodup := by
  cases d with
  | move a b => simp [Deed.names]; exact h.2.2
  | swap a b => simp [Deed.names]; exact h.2.2
  | pour a b => simp [Deed.names]; exact h.2.2
  | cut a k b => simp [Deed.names]; exact h.2.2.1
  | split a k b c => simp [Deed.names]; exact ⟨⟨h.2.2.2.1, h.2.2.2.2.1⟩, h.2.2.2.2.2.1⟩
  | _ => simp [Deed.names]
/-- the texts of a list -/
def strsOf (d : D) : List D := match d with
  | .str z => [.str z]
  | _ => []
theorem strs_names (d : Deed) : d.parts.flatMap strsOf = txts d.names := by cases d <;> rfl
end DL
end

section
open PySem L2 DL
namespace K70
section
variable {P : Program} {w : World} {K : PySem.W.Frag} {mg : Str → Option Value} {base : Heap} {T : List (Addr × Str)}
/-- the module's dict FORMS -/
structure Forms (K : PySem.W.Frag) (w : World) (mg : Str → Option Value) (d : Addr) : Prop where
  hm : mg "FORMS" = some (.ref d)
  kd : ∃ ee n, KDict K w d ee n
  has : ∀ x : Deed, ∃ t, PySem.W.nsIn K d x.word = some (some (.str x.kinds t))
/-- is_deed -/
def deeN (LC : Addr) : DF := fun ds g C => ∃ (ns : List Str) (most : Int) (d : Deed) (x : D), ds = [landD LC ns most, x] ∧ (x = .lst d.items ∨ x = .tup d.items) ∧ okNames ns ∧ d.ok ns ∧ C (.ret (.bl true) g)
theorem ok_is_deed (B : Bi mg) {LC FD f : Addr} {fd : FuncData} (F : Fun K "is_deed" "is_deed" s_is_deed f fd) (Fo : Forms K w mg FD) (h0 : Kn P w K mg base T "is_list" 1 (pred isList)) (h1 : Kn P w K mg base T "is_part" 3 (parN2 LC)) (h2 : Kn P w K mg base T "are_unlike" 1 ulkN) : FnOk P w K mg base (L2.CX P w) 4 f fd ["land", "thing"] (spD K T (deeN LC)) := by
  refine okD F sc_is_deed (fun ds g C h => by obtain ⟨ns, most, d, x, rfl, _⟩ := h; rfl) (fun cdv A outer s H E An ds g C hr tk h => ?_)
  obtain ⟨ns, most, d, x, rfl, hx, okn, okd, h⟩ := h
  have nd := sc_is_deed.nd
  show DSs _ T An ⟨[.dat (landD LC ns most), .dat x, .non, .non, .non, .non], [], An.ws, g⟩ _ _
  obtain ⟨ee, n, KD⟩ := Fo.kd
  have wi : wts d.items = true := items_wt okn okd
  have wx : wt x = true := by rcases hx with rfl | rfl <;> exact wi
  refine dss_cons (ds_if (dt_bool (dw_or (dt_not (dt_tru (de_dv (dv_call h0 (hr.mono (by decide)) tkF (da_cons (de_name ?_)))))))))
  walk_at "n"
  refine da_nil ⟨x, rfl, wx, ?_⟩
  have il : isList x = true := by rcases hx with rfl | rfl <;> rfl
  rw [il]
  refine ⟨true, rfl, ?_⟩
  refine ⟨fun z => (by cases z), fun _ => ?_⟩
  walk_at "go"
  have hlen : d.items.length ≤ 5 := by cases d <;> simp [Deed.items, Deed.parts]
  have hpl : d.parts.length ≤ 4 := by cases d <;> simp [Deed.parts]
  have hnl : d.names.length ≤ 3 := by cases d <;> simp [Deed.names]
  have hpos : d.items.length ≠ 0 := by unfold Deed.items; simp
  rcases hx with rfl | rfl
  · refine ⟨_, rfl, ?_⟩
    walk_at "go"
    have e1 : ((d.items.length : Int) == 0) = false := by rw [beq_eq_false_iff_ne]; omega
    refine ⟨false, ?_, fun z => (by cases z), fun _ => ?_⟩
    · rw [eqP_int, e1]
    refine dw_or ?_
    walk_at "go"
    refine ixD_seq (j := 0) rfl rfl rfl ?_
    walk_at "n"
    refine ⟨true, rfl, true, rfl, fun z => (by cases z), fun _ => ?_⟩
    refine dw_or1 (dt_ninKd KD (de_ix (de_name ?_)))
    walk_at "go"
    refine ixD_seq (j := 0) rfl rfl rfl ?_
    refine de_globR Fo.hm ?_
    obtain ⟨tk0, hf⟩ := Fo.has d
    refine ⟨_, _, rfl, rfl, hf, fun z => (by cases z), fun _ => ?_⟩
    refine dss_nil (dss_cons (ds_par rfl nd (dv_de (de_ixKd KD (de_globR Fo.hm (de_ix (de_name ?_)))))))
    walk_at "go"
    refine ixD_seq (j := 0) rfl rfl rfl ?_
    refine ⟨_, _, _, rfl, rfl, hf, ?_⟩
    walk_at "n"
    refine ⟨_, rfl, de_dv (dv_slice (de_name ?_))⟩
    walk_at "go"
    have ecut : cutD d.items (some 1) none = d.parts := by
      unfold cutD
      cases d <;> rfl
    refine ⟨_, rfl, fun a => ?_⟩
    rw [ecut]
    refine dss_cons (ds_if (dt_bool (dw_or (dt_ne hr.units (de_dv (dv_len B.len (da_cons (de_name ?_))))))))
    walk_at "go"
    have kl : decide (d.kinds.length ≤ 4) = true := by cases d <;> kernel_rfl
    have kq : d.kinds.length = d.parts.length := by cases d <;> kernel_rfl
    refine ⟨by have := of_decide_eq_true kl; rw [sizeLine_eq]; omega, ?_⟩
    walk_at "go"
    refine ⟨_, rfl, ?_⟩
    walk_at "n"
    rw [kq]
    refine ⟨true, by rw [eqP_int, beq_self_eq_true], fun z => (by cases z), fun _ => ?_⟩
    refine dw_or1 (dt_not (dt_tru (de_dv (dv_all rfl B.all (da_cons (de_dv (dv_lc rfl nd (blkOk_by (own := [("kind", 4), ("part", 5)]) (by kernel_rfl)) (di_zipS B.zip (da_cons (de_name ?_))))))))))
    walk_at "go"
    refine ⟨_, _, d.parts, rfl, .inl rfl, ?_⟩
    refine lcd_fm (fun _ => [.bl true]) rfl (by rw [zipOf_len, kinds_len, Nat.min_self, sizeLine_eq]; omega) (fun i y acc D0 ey => ?_) fun a => ?_
    · obtain ⟨k, p, rfl, hk, hp, hpart⟩ := kinds_ok okd y (List.mem_of_getElem? ey)
      have wp : wt p = true := by
        rcases hp with ⟨s, rfl, hs⟩ | ⟨i, rfl⟩
        · exact name_wt okn hs
        · rfl
      walk_at "blk"
      walk_at "gg"
      walk_at "blk"
      refine dts_nil ⟨fun _ => ?_, fun z => (by cases z)⟩
      walk_at "blk"
      refine de_dv (dv_call h1 (hr.mono (by decide)) tkF (da_cons (de_name ?_)))
      walk_at "go"
      refine ⟨ns, most, k, p, rfl, okn, hk, wp, ?_⟩
      rw [hpart]
      exact ⟨rfl, rfl, rfl, rfl⟩
    · refine da_nil ⟨(zipOf (chrs d.kinds) d.parts).map fun _ => true, ?_, ?_⟩
      · show some _ = some _
        congr 1
        rw [List.map_map]
        exact (List.map_eq_flatMap).symm
      have eall : ((zipOf (chrs d.kinds) d.parts).map fun _ => true).all id = true := by
        rw [List.all_eq_true]
        intro x hx
        obtain ⟨_, _, rfl⟩ := List.mem_map.mp hx
        rfl
      rw [eall]
      walk_at "n"
      refine ⟨true, rfl, fun z => (by cases z), fun _ => ?_⟩
      refine dss_nil (dss_cons (ds_ret (dv_call h2 (hr.mono (by decide)) tk (da_cons (de_dv (dv_lc rfl nd (blkOk_by (own := [("part", 5)]) (by kernel_rfl)) (di_seq (de_name ?_))))))))
      walk_at "n"
      refine ⟨_, rfl, lcd_fm strsOf rfl (by rw [sizeLine_eq]; omega) (fun i y acc D0 ey => ?_) fun a => ?_⟩
      · walk_at "blk"
        walk_at "gg"
        walk_at "blk"
        walk_at "go"
        rcases part_kind (List.mem_of_getElem? ey) with ⟨z, rfl⟩ | ⟨z, rfl⟩
        · refine ⟨true, rfl, true, rfl, fun _ => ?_, fun z => (by cases z)⟩
          walk_at "blk"
          walk_at "go"
          exact ⟨rfl, rfl, rfl, rfl⟩
        · refine ⟨false, rfl, false, rfl, fun z => (by cases z), fun _ => ⟨rfl, rfl, rfl, rfl⟩⟩
      · rw [strs_names]
        exact da_nil ⟨d.names, rfl, by omega, names_nd okd, .inl rfl, h⟩
  · refine lenD_seq rfl ?_
    walk_at "go"
    have e1 : ((d.items.length : Int) == 0) = false := by rw [beq_eq_false_iff_ne]; omega
    refine ⟨false, ?_, fun z => (by cases z), fun _ => ?_⟩
    · rw [eqP_int, e1]
    refine dw_or ?_
    walk_at "go"
    refine ixD_seq (j := 0) rfl rfl rfl ?_
    walk_at "n"
    refine ⟨true, rfl, true, rfl, fun z => (by cases z), fun _ => ?_⟩
    refine dw_or1 (dt_ninKd KD (de_ix (de_name ?_)))
    walk_at "go"
    refine ixD_seq (j := 0) rfl rfl rfl ?_
    refine de_globR Fo.hm ?_
    obtain ⟨tk0, hf⟩ := Fo.has d
    refine ⟨_, _, rfl, rfl, hf, fun z => (by cases z), fun _ => ?_⟩
    refine dss_nil (dss_cons (ds_par rfl nd (dv_de (de_ixKd KD (de_globR Fo.hm (de_ix (de_name ?_)))))))
    walk_at "go"
    refine ixD_seq (j := 0) rfl rfl rfl ?_
    refine ⟨_, _, _, rfl, rfl, hf, ?_⟩
    walk_at "n"
    refine ⟨_, rfl, de_sliceT (de_name ?_)⟩
    walk_at "go"
    have ecut : cutD d.items (some 1) none = d.parts := by
      unfold cutD
      cases d <;> rfl
    refine ⟨_, rfl, ?_⟩
    rw [ecut]
    walk_at "n"
    refine dss_cons (ds_if (dt_bool (dw_or (dt_ne hr.units (de_dv (dv_len B.len (da_cons (de_name ?_))))))))
    walk_at "go"
    have kl : decide (d.kinds.length ≤ 4) = true := by cases d <;> kernel_rfl
    have kq : d.kinds.length = d.parts.length := by cases d <;> kernel_rfl
    refine ⟨by have := of_decide_eq_true kl; rw [sizeLine_eq]; omega, ?_⟩
    walk_at "go"
    refine lenD_seq rfl ?_
    walk_at "n"
    rw [kq]
    refine ⟨true, by rw [eqP_int, beq_self_eq_true], fun z => (by cases z), fun _ => ?_⟩
    refine dw_or1 (dt_not (dt_tru (de_dv (dv_all rfl B.all (da_cons (de_dv (dv_lc rfl nd (blkOk_by (own := [("kind", 4), ("part", 5)]) (by kernel_rfl)) (di_zipS B.zip (da_cons (de_name ?_))))))))))
    walk_at "go"
    refine ⟨_, _, d.parts, rfl, .inr rfl, ?_⟩
    refine lcd_fm (fun _ => [.bl true]) rfl (by rw [zipOf_len, kinds_len, Nat.min_self, sizeLine_eq]; omega) (fun i y acc D0 ey => ?_) fun a => ?_
    · obtain ⟨k, p, rfl, hk, hp, hpart⟩ := kinds_ok okd y (List.mem_of_getElem? ey)
      have wp : wt p = true := by
        rcases hp with ⟨s, rfl, hs⟩ | ⟨i, rfl⟩
        · exact name_wt okn hs
        · rfl
      walk_at "blk"
      walk_at "gg"
      walk_at "blk"
      refine dts_nil ⟨fun _ => ?_, fun z => (by cases z)⟩
      walk_at "blk"
      refine de_dv (dv_call h1 (hr.mono (by decide)) tkF (da_cons (de_name ?_)))
      walk_at "go"
      refine ⟨ns, most, k, p, rfl, okn, hk, wp, ?_⟩
      rw [hpart]
      exact ⟨rfl, rfl, rfl, rfl⟩
    · refine da_nil ⟨(zipOf (chrs d.kinds) d.parts).map fun _ => true, ?_, ?_⟩
      · show some _ = some _
        congr 1
        rw [List.map_map]
        exact (List.map_eq_flatMap).symm
      have eall : ((zipOf (chrs d.kinds) d.parts).map fun _ => true).all id = true := by
        rw [List.all_eq_true]
        intro x hx
        obtain ⟨_, _, rfl⟩ := List.mem_map.mp hx
        rfl
      rw [eall]
      walk_at "n"
      refine ⟨true, rfl, fun z => (by cases z), fun _ => ?_⟩
      refine dss_nil (dss_cons (ds_ret (dv_call h2 (hr.mono (by decide)) tk (da_cons (de_dv (dv_lc rfl nd (blkOk_by (own := [("part", 5)]) (by kernel_rfl)) (di_seq (de_name ?_))))))))
      walk_at "n"
      refine ⟨_, rfl, lcd_fm strsOf rfl (by rw [sizeLine_eq]; omega) (fun i y acc D0 ey => ?_) fun a => ?_⟩
      · walk_at "blk"
        walk_at "gg"
        walk_at "blk"
        walk_at "go"
        rcases part_kind (List.mem_of_getElem? ey) with ⟨z, rfl⟩ | ⟨z, rfl⟩
        · refine ⟨true, rfl, true, rfl, fun _ => ?_, fun z => (by cases z)⟩
          walk_at "blk"
          walk_at "go"
          exact ⟨rfl, rfl, rfl, rfl⟩
        · refine ⟨false, rfl, false, rfl, fun z => (by cases z), fun _ => ⟨rfl, rfl, rfl, rfl⟩⟩
      · rw [strs_names]
        exact da_nil ⟨d.names, rfl, by omega, names_nd okd, .inl rfl, h⟩
end
end K70
end

section
open PySem L2 DL
namespace K70
section
variable {P : Program} {w : World} {K : PySem.W.Frag} {mg : Str → Option Value} {base : Heap} {T : List (Addr × Str)}
/-- History.can -/
def canN (HC LC : Addr) : DF := fun ds g C => ∃ (ns : List Str) (most : Int) (od : D) (sl : List D) (r : Rows) (m y : Int) (d : Deed) (x : D) (r' : Rows) (m' : Int), ds = [.obj HC [("own_land", landD LC ns most), ("own_deeds", od), ("steps", .lst sl)], x] ∧
  sl.getLast? = some (stpD ns (r, m, y)) ∧ (x = .lst d.items ∨ x = .tup d.items) ∧ okNames ns ∧ d.ok ns ∧ (∀ n, (r n).length < 2 ^ 17) ∧ doneR ns most r m d = some (r', m') ∧ C (.ret (.bl true) g)
theorem ok_can (B : Bi mg) {HC LC f : Addr} {fd : FuncData} (F : Fun K "can" "History.can" s_History_can f fd) (nl : NoAttr K HC "own_land") (nst : NoAttr K HC "steps") (h1 : Kn P w K mg base T "is_deed" 4 (deeN LC)) (h2 : Kn P w K mg base T "done" 5 (donN LC)) : FnOk P w K mg base (L2.CX P w) 6 f fd ["self", "deed"] (spD K T (canN HC LC)) := by
  refine okD F sc_History_can (fun ds g C h => by obtain ⟨ns, most, od, sl, r, m, y, d, x, r', m', rfl, _⟩ := h; rfl) (fun cdv A outer s H E An ds g C hr tk h => ?_)
  obtain ⟨ns, most, od, sl, r, m, y, d, x, r', m', rfl, hl, hx, okn, okd, h17, hd, h⟩ := h
  have nd := sc_History_can.nd
  have hx' : seqD x = some d.items := by rcases hx with rfl | rfl <;> rfl
  show DSs _ T An ⟨[.dat (.obj HC [("own_land", landD LC ns most), ("own_deeds", od), ("steps", .lst sl)]), .dat x, .non, .non, .non], [], An.ws, g⟩ _ _
  refine dss_cons (ds_unp (de_ix (de_fld nst (de_name ?_))))
  walk_at "n"
  refine ⟨_, _, rfl, rfl, ?_⟩
  walk_at "go"
  refine ⟨sl, _, rfl, atI_last hl, ?_⟩
  refine ⟨[2, 3, 4], ?_⟩
  unfold stpD
  walk_at "gg"
  refine dss_cons (ds_ret (dv_de (de_and ?_)))
  refine de_dv (dv_call h1 (hr.mono (by decide)) tkF (da_cons (de_fld nl (de_name ?_))))
  walk_at "n"
  refine ⟨_, _, rfl, rfl, ?_⟩
  walk_at "go"
  refine ⟨ns, most, d, x, rfl, hx, okn, okd, ?_⟩
  walk_at "n"
  refine ⟨fun _ => ?_, fun z => (by cases z)⟩
  refine de_one (de_isnt (de_dv (dv_call h2 (hr.mono (by decide)) tkF (da_cons (de_fld nl (de_name ?_))))))
  walk_at "n"
  refine ⟨_, _, rfl, rfl, ?_⟩
  walk_at "go"
  refine ⟨_, hx', da_nil ⟨ns, most, r, m, d, rfl, okn, okd, h17, ?_⟩⟩
  rw [hd]
  dsimp only [doneO]
  walk_at "go"
  exact ⟨rfl, .inl rfl, h⟩
/-- History.add -/
def addN (HC LC : Addr) : DFH := fun hd ds g C => ∃ (ns : List Str) (most : Int) (x dx as ad : Addr) (sl dl : List D) (r : Rows) (m y : Int) (d : Deed) (r' : Rows) (m' : Int), ds = [.ref x, dedT d] ∧
  hd = [(as, .lst sl), (ad, .lst dl), (x, .ins HC dx [("own_land", landD LC ns most), ("own_deeds", .ref ad), ("steps", .ref as)])] ∧
  sl.getLast? = some (stpD ns (r, m, y)) ∧ okNames ns ∧ d.ok ns ∧ (∀ n, (r n).length < 2 ^ 17) ∧ doneR ns most r m d = some (r', m') ∧ sl.length < 1000 ∧ dl.length < 1000 ∧
  C [(as, .lst (sl ++ [stpD ns (r', m', y + d.days)])), (ad, .lst (dl ++ [dedT d])), (x, .ins HC dx [("own_land", landD LC ns most), ("own_deeds", .ref ad), ("steps", .ref as)])] g
theorem ok_add (B : Bi mg) {HC LC f : Addr} {fd : FuncData} (F : Fun K "add" "History.add" s_History_add f fd) (nl : NoAttr K HC "own_land") (nde : NoAttr K HC "own_deeds") (nst : NoAttr K HC "steps") (h2 : Kn P w K mg base T "done" 5 (donN LC)) : FnOk P w K mg base (L2.CX P w) 6 f fd ["self", "deed"] (spH K T (addN HC LC)) := by
  refine okH F sc_History_add (fun hd ds g C h => by obtain ⟨ns, most, x, dx, as, ad, sl, dl, r, m, y, d, r', m', rfl, _⟩ := h; rfl) (fun cdv A outer s H E An hd ds g C hr tk h => ?_)
  obtain ⟨ns, most, x, dx, as, ad, sl, dl, r, m, y, d, r', m', rfl, rfl, hl, okn, okd, h17, hd, hsl, hdl, h⟩ := h
  have nd := sc_History_add.nd
  show DSs _ T An ⟨[.dat (.ref x), .dat (dedT d), .non, .non, .non], [(as, .lst sl), (ad, .lst dl), (x, .ins HC dx [("own_land", landD LC ns most), ("own_deeds", .ref ad), ("steps", .ref as)])], An.ws, g⟩ _ _
  refine dss_cons (ds_unp (de_ixR (de_fldR nst (de_name ?_))))
  walk_at "n"
  refine ⟨x, .inr 2, dx, _, _, rfl, rfl, rfl, ?_⟩
  walk_at "go"
  refine ⟨as, .inr 0, sl, -1, _, rfl, rfl, rfl, atI_last hl, ?_⟩
  refine ⟨[2, 3, 4], ?_⟩
  unfold stpD
  walk_at "gg"
  refine dss_cons (ds_appR (de_fldR nde (de_name ?_)))
  walk_at "n"
  refine ⟨x, .inr 2, dx, _, _, rfl, rfl, rfl, ?_⟩
  refine ⟨ad, .inr 1, dl, rfl, rfl, de_name ?_⟩
  walk_at "n"
  refine ⟨1, dl, rfl, by rw [sizeLine_eq]; omega, ?_⟩
  refine dss_cons (ds_appR (de_fldR nst (de_name ?_)))
  walk_at "n"
  refine ⟨x, .inr 2, dx, _, _, rfl, rfl, rfl, ?_⟩
  refine ⟨as, .inr 0, sl, rfl, rfl, ?_⟩
  refine de_tup (da_star (de_dv (dv_call h2 (hr.mono (by decide)) tkF (da_cons (de_fldR nl (de_name ?_))))))
  walk_at "n"
  refine ⟨x, .inr 2, dx, _, _, rfl, rfl, rfl, ?_⟩
  walk_at "go"
  refine ⟨ns, most, r, m, d, rfl, okn, okd, h17, ?_⟩
  rw [hd]
  dsimp only [doneO]
  walk_at "n"
  refine ⟨_, rfl, da_cons (de_if (dt_eq hr.units (de_ix (de_name ?_))))⟩
  obtain ⟨rest, ew⟩ := items_word d
  walk_at "go"
  unfold dedT
  rw [ew]
  refine ixD_seq (j := 0) rfl rfl rfl ?_
  walk_at "go"
  refine ⟨_, (eqP_word d).1, fun e => ?_, fun e => ?_⟩
  · have e0 : d.word = "wait" := eq_of_beq e
    cases d with
    | wait k =>
      walk_at "go"
      cases ew
      refine ixD_seq (j := 1) rfl rfl rfl ?_
      walk_at "go"
      refine ⟨by show 3 ≤ sizeLine; decide, 0, sl, rfl, by rw [sizeLine_eq]; omega, dss_nil ⟨rfl, rfl, h⟩⟩
    | _ => exact absurd e (by rw [Bool.not_eq_true]; kernel_rfl)
  · have e2 : d.days = 0 := by
      cases d with
      | wait k => exact absurd e (by rw [Bool.not_eq_false]; kernel_rfl)
      | _ => rfl
    rw [e2, Int.add_zero] at h
    walk_at "go"
    refine ⟨by show 3 ≤ sizeLine; decide, 0, sl, rfl, by rw [sizeLine_eq]; omega, dss_nil ⟨rfl, rfl, ?_⟩⟩
    rw [← ew]
    exact h
end
end K70
end

section
namespace DL
open PySem L2
theorem ixN_nat {n i : Nat} (h : i < n) : ixN n (i : Int) = some i := by
  unfold ixN
  rw [if_pos (by omega)]
  simp
  omega
theorem steps_at {ns : List Str} {ss : List Stp} {i : Nat} {r : Rows} {m y : Int} (e : ss[i]? = some (r, m, y)) : atI (ss.map (stpD ns)) (i : Int) = some (.tup [.dK (rowsK ns r), .int m, .int y]) := by
  have hi : i < ss.length := (List.getElem?_eq_some_iff.mp e).1
  unfold atI
  rw [ixN_nat (by rw [List.length_map]; exact hi)]
  show (ss.map (stpD ns))[i]? = _
  rw [List.getElem?_map, e]
  rfl
theorem deeds_at {dl : List Deed} {i : Nat} {d : Deed} (e : dl[i]? = some d) : atI (dl.map dedT) (i : Int) = some (.tup d.items) := by
  have hi : i < dl.length := (List.getElem?_eq_some_iff.mp e).1
  unfold atI
  rw [ixN_nat (by rw [List.length_map]; exact hi)]
  show (dl.map dedT)[i]? = _
  rw [List.getElem?_map, e]
  rfl
end DL
open PySem L2 DL
namespace K70
section
variable {P : Program} {w : World} {K : PySem.W.Frag} {mg : Str → Option Value} {base : Heap} {T : List (Addr × Str)}
/-- History.now -/
def nowN (HC LC : Addr) : DF := fun ds g C => ∃ (ns : List Str) (most : Int) (dl : List Deed) (ss : List Stp), ds = [histD HC LC ns most dl ss] ∧ C (.ret (.int (dl.length : Int)) g)
theorem ok_now (B : Bi mg) {HC LC f : Addr} {fd : FuncData} (F : Fun K "now" "History.now" s_History_now f fd) (nde : NoAttr K HC "own_deeds") : FnOk P w K mg base (L2.CX P w) 1 f fd ["self"] (spD K T (nowN HC LC)) := by
  refine okD F sc_History_now (fun ds g C h => by obtain ⟨ns, most, dl, ss, rfl, _⟩ := h; rfl) (fun cdv A outer s H E An ds g C hr tk h => ?_)
  obtain ⟨ns, most, dl, ss, rfl, h⟩ := h
  show DSs _ T An ⟨[.dat (histD HC LC ns most dl ss)], [], An.ws, g⟩ _ _
  refine dss_cons (ds_ret (dv_len B.len (da_cons (de_fld nde (de_name ?_)))))
  walk_at "n"
  refine ⟨_, _, rfl, rfl, ?_⟩
  refine da_nil ?_
  refine lenD_seq rfl ?_
  rw [List.length_map]
  exact ⟨.inl rfl, h⟩
/-- History.moment_of -/
def momN (HC LC : Addr) : DF := fun ds g C => ∃ (ns : List Str) (most : Int) (dl : List Deed) (ss : List Stp) (i : Nat), ds = [histD HC LC ns most dl ss, .int (i : Int)] ∧ i ≤ dl.length ∧ C (.ret (.int (i : Int)) g)
theorem ok_moment_of (B : Bi mg) {HC LC f : Addr} {fd : FuncData} (F : Fun K "moment_of" "History.moment_of" s_History_moment_of f fd) (nde : NoAttr K HC "own_deeds") (h1 : Kn P w K mg base T "is_number" 2 (pred isNum)) : FnOk P w K mg base (L2.CX P w) 3 f fd ["self", "moment"] (spD K T (momN HC LC)) := by
  refine okD F sc_History_moment_of (fun ds g C h => by obtain ⟨ns, most, dl, ss, i, rfl, _⟩ := h; rfl) (fun cdv A outer s H E An ds g C hr tk h => ?_)
  obtain ⟨ns, most, dl, ss, i, rfl, hi, h⟩ := h
  show DSs _ T An ⟨[.dat (histD HC LC ns most dl ss), .dat (.int (i : Int))], [], An.ws, g⟩ _ _
  refine dss_cons (ds_if (dt_is (de_name ?_)))
  walk_at "go"
  refine ⟨rfl, ?_⟩
  refine ⟨fun z => (by cases z), fun _ => ?_⟩
  refine dss_nil (dss_cons (ds_if (dt_bool (dw_or (dt_not (dt_tru (de_dv (dv_call h1 (hr.mono (by decide)) tkF (da_cons (de_name ?_))))))))))
  walk_at "n"
  refine da_nil ⟨.int (i : Int), rfl, rfl, ?_⟩
  have en : isNum (.int (i : Int)) = true := decide_eq_true (Int.natCast_nonneg i)
  rw [en]
  walk_at "n"
  refine ⟨true, rfl, fun z => (by cases z), fun _ => ?_⟩
  refine dw_or1 (dt_gt (de_name ?_))
  walk_at "n"
  refine de_dv (dv_len B.len (da_cons (de_fld nde (de_name ?_))))
  walk_at "n"
  refine ⟨_, _, rfl, rfl, ?_⟩
  refine da_nil ?_
  refine lenD_seq rfl ?_
  rw [List.length_map]
  walk_at "n"
  refine ⟨fun z => ?_, fun _ => ?_⟩
  · have := of_decide_eq_true z
    omega
  refine dss_nil (dss_cons (ds_ret (dv_de (de_name ?_))))
  walk_at "n"
  exact ⟨.inl rfl, h⟩
/-- History.day -/
def dayN (HC LC : Addr) : DF := fun ds g C => ∃ (ns : List Str) (most : Int) (dl : List Deed) (ss : List Stp) (i : Nat), ds = [histD HC LC ns most dl ss, .int (i : Int)] ∧ Hist ns most dl ss ∧ i ≤ dl.length ∧ C (.ret (.int (dayAt ss i)) g)
theorem ok_day (B : Bi mg) {HC LC f : Addr} {fd : FuncData} (F : FunV K "day" "History.day" s_History_day f fd) (nst : NoAttr K HC "steps") (h1 : KnM P w K mg base T HC "moment_of" 3 (momN HC LC) []) : FnOk P w K mg base (L2.CX P w) 4 f fd ["self", "moment"] (spD K T (dayN HC LC)) := by
  refine okDv F sc_History_day (fun ds g C h => by obtain ⟨ns, most, dl, ss, i, rfl, _⟩ := h; rfl) (fun cdv A outer s H E An ds g C hr tk h => ?_)
  obtain ⟨ns, most, dl, ss, i, rfl, hh, hi, h⟩ := h
  obtain ⟨r, m, y, es⟩ := hh.at hi
  have ed : dayAt ss i = y := by unfold dayAt; rw [es]
  rw [ed] at h
  show DSs _ T An ⟨[.dat (histD HC LC ns most dl ss), .dat (.int (i : Int))], [], An.ws, g⟩ _ _
  refine dss_cons (ds_ret (dv_de (de_ix (de_ix (de_fld nst (de_name ?_))))))
  walk_at "n"
  refine ⟨_, _, rfl, rfl, ?_⟩
  refine de_dv (dv_meth h1 (hr.mono (by decide)) tkF (de_name ?_))
  walk_at "n"
  refine ⟨_, rfl, rfl, da_cons (de_name ?_)⟩
  walk_at "n"
  refine da_nil ⟨ns, most, dl, ss, i, rfl, hi, ?_⟩
  walk_at "n"
  refine ⟨_, _, rfl, steps_at es, ?_⟩
  walk_at "go"
  refine ixD_seq (j := 2) rfl rfl rfl ?_
  exact ⟨.inl rfl, h⟩
end
end K70
end

section
open PySem L2 DL
namespace K70
section
variable {P : Program} {w : World} {K : PySem.W.Frag} {mg : Str → Option Value} {base : Heap} {T : List (Addr × Str)}
/-- History.last_day -/
def lasN (HC LC : Addr) : DF := fun ds g C => ∃ (ns : List Str) (most : Int) (dl : List Deed) (ss : List Stp) (i : Nat), ds = [histD HC LC ns most dl ss, .int (i : Int)] ∧ Hist ns most dl ss ∧ i ≤ dl.length ∧ C (.ret (.int (lastAt dl ss i)) g)
theorem ok_last_day (B : Bi mg) {HC LC f : Addr} {fd : FuncData} (F : FunV K "last_day" "History.last_day" s_History_last_day f fd) (nst : NoAttr K HC "steps") (nde : NoAttr K HC "own_deeds") (h1 : KnM P w K mg base T HC "moment_of" 3 (momN HC LC) []) : FnOk P w K mg base (L2.CX P w) 4 f fd ["self", "moment"] (spD K T (lasN HC LC)) := by
  refine okDv F sc_History_last_day (fun ds g C h => by obtain ⟨ns, most, dl, ss, i, rfl, _⟩ := h; rfl) (fun cdv A outer s H E An ds g C hr tk h => ?_)
  obtain ⟨ns, most, dl, ss, i, rfl, hh, hi, h⟩ := h
  have nd := sc_History_last_day.nd
  obtain ⟨r, m, y, es⟩ := hh.at hi
  have ed : dayAt ss i = y := by unfold dayAt; rw [es]
  show DSs _ T An ⟨[.dat (histD HC LC ns most dl ss), .dat (.int (i : Int)), .non, .non], [], An.ws, g⟩ _ _
  refine dss_cons (ds_set nd (dv_meth h1 (hr.mono (by decide)) tkF (de_name ?_)))
  walk_at "n"
  refine ⟨_, rfl, rfl, da_cons (de_name ?_)⟩
  walk_at "n"
  refine da_nil ⟨ns, most, dl, ss, i, rfl, hi, ?_⟩
  walk_at "n"
  refine dss_cons (ds_set nd (dv_imp (C1 := fun rv ρ' => ∃ (wd : Str) (rest : List D) (v : Int), rv = .v (.tup (.str wd :: rest)) ∧ eqP (.str wd) (.str "wait") = some (wd == ("wait" : Str)) ∧ ((wd == ("wait" : Str)) = true → rest = [.int (v + 1)]) ∧ ((wd == ("wait" : Str)) = false → v = 0) ∧ lastAt dl ss i = y + v ∧
    ρ' = ⟨[.dat (histD HC LC ns most dl ss), .dat (.int (i : Int)), .dat (.int (i : Int)), .non], [], An.ws, g⟩) (dv_if (dt_lt (de_name ?_))) (fun rv ρ' h1 => ?_)))
  · walk_at "n"
    refine de_dv (dv_len B.len (da_cons (de_fld nde (de_name ?_))))
    walk_at "n"
    refine ⟨_, _, rfl, rfl, da_nil ?_⟩
    refine lenD_seq rfl ?_
    rw [List.length_map]
    walk_at "n"
    refine ⟨fun z => ?_, fun z => ?_⟩
    · have hlt : i < dl.length := by have := of_decide_eq_true z; omega
      obtain ⟨d, edl⟩ : ∃ d, dl[i]? = some d := ⟨_, List.getElem?_eq_getElem hlt⟩
      refine dv_de (de_ix (de_fld nde (de_name ?_)))
      walk_at "n"
      refine ⟨_, _, rfl, rfl, ?_⟩
      walk_at "go"
      refine ⟨_, _, rfl, deeds_at edl, d.word, d.parts, (if (d.word == ("wait" : Str)) = true then d.days - 1 else 0), rfl, (eqP_word d).1, ?_, ?_, ?_, rfl⟩
      · intro e
        rw [if_pos e]
        cases d with
        | wait k =>
          show [D.int k] = [.int (k - 1 + 1)]
          rw [Int.sub_add_cancel]
        | _ => exact absurd e (by rw [Bool.not_eq_true]; kernel_rfl)
      · intro e
        rw [if_neg (by rw [e]; decide)]
      · unfold lastAt
        rw [ed, edl]
        cases d <;> rfl
    · have hge : ¬ i < dl.length := by have := of_decide_eq_false z; omega
      walk_at "go"
      refine ⟨by show 1 ≤ sizeLine; decide, "end", [], 0, rfl, by kernel_rfl, fun e => absurd e (by decide), fun _ => rfl, ?_, rfl⟩
      unfold lastAt
      rw [ed, List.getElem?_eq_none (by omega)]
  · obtain ⟨wd, rest, v, rfl, q1, q2, q3, q4, rfl⟩ := h1
    rw [q4] at h
    refine dss_cons (ds_ret (dv_de (de_add (de_ix (de_ix (de_fld nst (de_name ?_)))))))
    walk_at "n"
    refine ⟨_, _, rfl, rfl, ?_⟩
    walk_at "go"
    refine ⟨_, _, rfl, steps_at es, ?_⟩
    walk_at "go"
    refine ixD_seq (j := 2) rfl rfl rfl ?_
    refine de_if (dt_eq hr.units (de_ix (de_name ?_)))
    walk_at "go"
    refine ixD_seq (j := 0) rfl rfl rfl ?_
    walk_at "go"
    refine ⟨_, q1, fun e => ?_, fun e => ?_⟩
    · walk_at "go"
      rw [q2 e]
      refine ixD_seq (j := 1) rfl rfl rfl ?_
      walk_at "go"
      rw [Int.add_sub_cancel]
      exact ⟨.inl rfl, h⟩
    · walk_at "go"
      rw [q3 e] at h
      exact ⟨.inl rfl, h⟩
/-- History.check_address -/
def adrN (HC LC : Addr) : DF := fun ds g C => ∃ (ns : List Str) (most : Int) (dl : List Deed) (ss : List Stp) (n : Str), ds = [histD HC LC ns most dl ss, .str n] ∧ n ∈ ns ∧ C (.ret .non g)
theorem ok_check_address (B : Bi mg) {HC LC f : Addr} {fd : FuncData} (F : Fun K "check_address" "History.check_address" s_History_check_address f fd) (nl : NoAttr K HC "own_land") (nn : NoAttr K LC "names") : FnOk P w K mg base (L2.CX P w) 1 f fd ["self", "address"] (spD K T (adrN HC LC)) := by
  refine okD F sc_History_check_address (fun ds g C h => by obtain ⟨ns, most, dl, ss, n, rfl, _⟩ := h; rfl) (fun cdv A outer s H E An ds g C hr tk h => ?_)
  obtain ⟨ns, most, dl, ss, n, rfl, hn, h⟩ := h
  show DSs _ T An ⟨[.dat (histD HC LC ns most dl ss), .dat (.str n)], [], An.ws, g⟩ _ _
  have ea : ((txts ns).any fun y => eqFl y (.str n)) = true := by
    refine List.any_eq_true.mpr ⟨.str n, List.mem_map.mpr ⟨n, hn, rfl⟩, ?_⟩
    rw [eqFl_str]
    exact beq_self_eq_true n
  refine dss_cons (ds_if (dt_bool (dw_or ?_)))
  walk_at "go"
  refine ⟨true, rfl, true, rfl, fun z => (by cases z), fun _ => ?_⟩
  refine dw_or1 (dt_ninS (de_name ?_))
  walk_at "n"
  refine de_fld nn (de_fld nl (de_name ?_))
  walk_at "n"
  refine ⟨_, _, rfl, rfl, ?_⟩
  refine ⟨_, _, rfl, rfl, ?_⟩
  refine ⟨_, rfl, rfl, txts_flat ns, ?_⟩
  rw [if_pos rfl, ea]
  refine ⟨fun z => (by cases z), fun _ => ?_⟩
  exact dss_nil (dss_nil h)
/-- History.row -/
def rowN (HC LC : Addr) : DF := fun ds g C => ∃ (ns : List Str) (most : Int) (dl : List Deed) (ss : List Stp) (n : Str) (i : Nat), ds = [histD HC LC ns most dl ss, .str n, .int (i : Int)] ∧ Hist ns most dl ss ∧ n ∈ ns ∧ i ≤ dl.length ∧ C (.new (rowL (rowAt ss i n)) g)
theorem ok_row (B : Bi mg) {HC LC f : Addr} {fd : FuncData} (F : FunV K "row" "History.row" s_History_row f fd) (nst : NoAttr K HC "steps") (h1 : KnM P w K mg base T HC "moment_of" 3 (momN HC LC) []) (h2 : KnM P w K mg base T HC "check_address" 1 (adrN HC LC) []) : FnOk P w K mg base (L2.CX P w) 4 f fd ["self", "address", "moment"] (spD K T (rowN HC LC)) := by
  refine okDv F sc_History_row (fun ds g C h => by obtain ⟨ns, most, dl, ss, n, i, rfl, _⟩ := h; rfl) (fun cdv A outer s H E An ds g C hr tk h => ?_)
  obtain ⟨ns, most, dl, ss, n, i, rfl, hh, hn, hi, h⟩ := h
  obtain ⟨r, m, y, es⟩ := hh.at hi
  have er : rowAt ss i n = r n := by unfold rowAt; rw [es]
  rw [er] at h
  show DSs _ T An ⟨[.dat (histD HC LC ns most dl ss), .dat (.str n), .dat (.int (i : Int))], [], An.ws, g⟩ _ _
  refine dss_cons (ds_expr (dv_meth h2 (hr.mono (by decide)) tkF (de_name ?_)))
  walk_at "n"
  refine ⟨_, rfl, rfl, da_cons (de_name ?_)⟩
  walk_at "n"
  refine da_nil ⟨ns, most, dl, ss, n, rfl, hn, ?_⟩
  refine dss_cons (ds_ret (dv_lst B.list (da_cons (de_ixK hr.units (de_ix (de_ix (de_fld nst (de_name ?_))))))))
  walk_at "n"
  refine ⟨_, _, rfl, rfl, ?_⟩
  refine de_dv (dv_meth h1 (hr.mono (by decide)) tkF (de_name ?_))
  walk_at "n"
  refine ⟨_, rfl, rfl, da_cons (de_name ?_)⟩
  walk_at "n"
  refine da_nil ⟨ns, most, dl, ss, i, rfl, hi, ?_⟩
  walk_at "n"
  refine ⟨_, _, rfl, steps_at es, ?_⟩
  walk_at "go"
  refine ixD_seq (j := 0) rfl rfl rfl ?_
  walk_at "go"
  refine ⟨_, _, rfl, look_rows hn, ?_⟩
  walk_at "n"
  refine da_nil ⟨_, rfl, fun a => ?_⟩
  exact ⟨rfl, h⟩
end
end K70
end

section
namespace DL
open PySem L2
def thereP (dl : List Deed) (ss : List Stp) (n : Str) (m : Nat) : Bool := decide (m ≤ dl.length) && !decide (rowAt ss m n = [])
/-- one step over the moments of an address -/
def stS (there : Nat → Bool) (day last : Nat → Int) (life : Int) (z : Option Int × List Stay) (m : Nat) : Option Int × List Stay :=
  match there m, z.1 with
  | true, none => (some (day m), z.2)
  | false, some b => (none, z.2 ++ [(b, last (m - 1), life)])
  | _, _ => z
def stN (N : Nat) (there : Nat → Bool) (day last : Nat → Int) (life : Int) (f : List Stay) : List Stay := ((List.range (N + 2)).foldl (stS there day last life) (none, f)).2
def staysP (ns : List Str) (dl : List Deed) (ss : List Stp) (life : Int) : List Stay := ns.foldl (fun f n => stN dl.length (thereP dl ss n) (dayAt ss) (lastAt dl ss) life f) []
theorem stS_len (there : Nat → Bool) (day last : Nat → Int) (life : Int) (z : Option Int × List Stay) (m : Nat) : (stS there day last life z m).2.length ≤ z.2.length + 1 := by
  unfold stS
  split
  · exact Nat.le_succ _
  · rw [List.length_append]; exact Nat.le_refl _
  · exact Nat.le_succ _
theorem stF_len (there : Nat → Bool) (day last : Nat → Int) (life : Int) : ∀ (l : List Nat) (z : Option Int × List Stay), (l.foldl (stS there day last life) z).2.length ≤ z.2.length + l.length
  | [], z => Nat.le_refl _
  | m :: l, z => by
    have h1 := stF_len there day last life l (stS there day last life z m)
    have h2 := stS_len there day last life z m
    rw [List.foldl_cons, List.length_cons]
    omega
theorem stN_len (N : Nat) (there : Nat → Bool) (day last : Nat → Int) (life : Int) (f : List Stay) : (stN N there day last life f).length ≤ f.length + (N + 2) := by
  have := stF_len there day last life (List.range (N + 2)) (none, f)
  rw [List.length_range] at this
  exact this
theorem staysP_len (dl : List Deed) (ss : List Stp) (life : Int) : ∀ (l : List Str) (f : List Stay), (l.foldl (fun f n => stN dl.length (thereP dl ss n) (dayAt ss) (lastAt dl ss) life f) f).length ≤ f.length + l.length * (dl.length + 2)
  | [], f => by simp
  | n :: l, f => by
    have h1 := staysP_len dl ss life l (stN dl.length (thereP dl ss n) (dayAt ss) (lastAt dl ss) life f)
    have h2 := stN_len dl.length (thereP dl ss n) (dayAt ss) (lastAt dl ss) life f
    rw [List.foldl_cons, List.length_cons, Nat.add_mul]
    omega
def optD : Option Int → D
  | none => .non
  | some b => .int b
end DL
open PySem L2 DL
namespace K70
section
variable {P : Program} {w : World} {K : PySem.W.Frag} {mg : Str → Option Value} {base : Heap} {T : List (Addr × Str)}
/-- check_life -/
theorem ok_check_life (B : Bi mg) {CM : Addr} (eM : KnE P w K mg base "BadLife" CM "life") {f : Addr} {fd : FuncData} (F : Fun K "check_life" "check_life" s_check_life f fd) (h1 : Kn P w K mg base T "is_number" 2 (pred isNum)) : FnOk P w K mg base (L2.CX P w) 3 f fd ["life"] (spD K T (cmN isNum CM "life")) := by
  refine okD F sc_check_life (fun ds g C h => by obtain ⟨d, rfl, _⟩ := h; rfl) (fun cdv A outer s H E An ds g C hr tk h => ?_)
  obtain ⟨d, rfl, ty, h⟩ := h
  have nd := sc_check_life.nd
  show DSs _ T An ⟨[.dat d], [], An.ws, g⟩ _ _
  walk_at "go"
  refine ⟨d, rfl, ty, _, rfl, fun e => ?_, fun e => ?_⟩
  · have e1 : isNum d = false := by simpa using e
    walk_at "s1"
    refine ds_raise eM (hr.mono (by decide)) tk ?_
    walk_at "go"
    rcases h with ⟨z, _⟩ | ⟨_, h⟩
    · rw [e1] at z; cases z
    · exact ⟨rfl, h⟩
  · have e1 : isNum d = true := by simpa using e
    walk_at "go"
    rcases h with ⟨_, h⟩ | ⟨z, _⟩
    · exact h
    · rw [e1] at z; cases z
/-- stays_of -/
def staN (HC LC CL : Addr) : DF := fun ds g C => ∃ (ns : List Str) (most : Int) (dl : List Deed) (ss : List Stp) (d : D), ds = [histD HC LC ns most dl ss, d] ∧ wt d = true ∧
  ((isNum d = false ∧ C (.exc CL [("life", d)] g)) ∨ (∃ life : Int, d = .int life ∧ 0 ≤ life ∧ okNames ns ∧ Hist ns most dl ss ∧ C (.new ((staysP ns dl ss life).map stD) g)))
theorem ok_stays_of (B : Bi mg) {HC LC CL f : Addr} {fd : FuncData} (F : Fun K "stays_of" "stays_of" s_stays_of f fd) (nl : NoAttr K HC "own_land") (nn : NoAttr K LC "names") (h1 : Kn P w K mg base T "check_life" 3 (cmN isNum CL "life"))
    (hnow : KnM P w K mg base T HC "now" 1 (nowN HC LC) []) (hrow : KnM P w K mg base T HC "row" 4 (rowN HC LC) []) (hday : KnM P w K mg base T HC "day" 4 (dayN HC LC) []) (hlas : KnM P w K mg base T HC "last_day" 4 (lasN HC LC) []) : FnOk P w K mg base (L2.CX P w) 5 f fd ["history", "life"] (spD K T (staN HC LC CL)) := by
  refine okD F sc_stays_of (fun ds g C h => by obtain ⟨ns, most, dl, ss, d, rfl, _⟩ := h; rfl) (fun cdv A outer s H E An ds g C hr tk h => ?_)
  obtain ⟨ns, most, dl, ss, d, rfl, ty, h⟩ := h
  have nd := sc_stays_of.nd
  show DSs _ T An ⟨[.dat (histD HC LC ns most dl ss), .dat d, .non, .non, .non, .non, .non], [], An.ws, g⟩ _ _
  refine dss_cons (ds_expr (dv_call h1 (hr.mono (by decide)) tk (da_cons (de_name ?_))))
  walk_at "n"
  refine da_nil ⟨d, rfl, ty, ?_⟩
  rcases h with ⟨en, h⟩ | ⟨life, rfl, h0, okn, hh, h⟩
  · exact .inr ⟨en, rfl, h⟩
  refine .inl ⟨decide_eq_true h0, ?_⟩
  have hfew := okn.few
  have hd16 := hh.few
  walk_at "go"
  refine ⟨by show 0 ≤ sizeLine; decide, fun p1 => ?_⟩
  refine dss_cons (ds_for (passes_of rfl) rfl (di_seq (de_fld nn (de_fld nl (de_name ?_)))))
  walk_at "n"
  refine ⟨_, _, rfl, rfl, ?_⟩
  refine ⟨_, _, rfl, rfl, ?_⟩
  refine ⟨txts ns, rfl, fun i ρ => ∃ s3 s4 s5 s6 : Sl, ρ = ⟨[.dat (histD HC LC ns most dl ss), .dat (.int life), .own p1 (((ns.take i).foldl (fun f n => stN dl.length (thereP dl ss n) (dayAt ss) (lastAt dl ss) life f) []).map stD), s3, s4, s5, s6], [], An.ws, g⟩, ⟨.non, .non, .non, .non, rfl⟩, fun i dy ρ2 ei hI => ?_, fun ρ2 hI => ?_⟩
  · obtain ⟨s3, s4, s5, s6, rfl⟩ := hI
    unfold txts at ei
    rw [List.getElem?_map] at ei
    obtain ⟨n, en, rfl⟩ := Option.map_eq_some_iff.mp ei
    have hn : n ∈ ns := List.mem_of_getElem? en
    have hin : i < ns.length := (List.getElem?_eq_some_iff.mp en).1
    have etk : ns.take (i + 1) = ns.take i ++ [n] := by rw [List.take_add_one, en]; rfl
    have hln : ((ns.take i).foldl (fun f n => stN dl.length (thereP dl ss n) (dayAt ss) (lastAt dl ss) life f) []).length ≤ 100 * 18 := by
      have h1 := staysP_len dl ss life (ns.take i) []
      have h2 : (ns.take i).length ≤ 100 := by rw [List.length_take]; omega
      have h3 : (ns.take i).length * (dl.length + 2) ≤ 100 * 18 := Nat.mul_le_mul h2 (by omega)
      rw [List.length_nil] at h1
      omega
    have hstep : (ns.take (i + 1)).foldl (fun f n => stN dl.length (thereP dl ss n) (dayAt ss) (lastAt dl ss) life f) [] = stN dl.length (thereP dl ss n) (dayAt ss) (lastAt dl ss) life ((ns.take i).foldl (fun f n => stN dl.length (thereP dl ss n) (dayAt ss) (lastAt dl ss) life f) []) := by
      rw [etk, List.foldl_append]
      rfl
    generalize (ns.take i).foldl (fun f n => stN dl.length (thereP dl ss n) (dayAt ss) (lastAt dl ss) life f) [] = fd0 at hln hstep ⊢
    refine ⟨[3], ?_⟩
    walk_at "gg"
    refine dss_cons (ds_set nd (dv_de (de_non ?_)))
    refine dss_cons (ds_for (passes_of rfl) rfl (di_rng1 B.range (da_cons (de_add (de_dv (dv_meth0 hnow (hr.mono (by decide)) tkF (de_name ?_)))))))
    walk_at "n"
    refine ⟨_, rfl, rfl, ns, most, dl, ss, rfl, ?_⟩
    walk_at "go"
    have ez : ((dl.length : Int) + 2).toNat = dl.length + 2 := by omega
    refine ⟨by omega, by omega, fun j ρ => ∃ s5 s6 : Sl, (j = 0 → (((List.range (dl.length + 2)).take j).foldl (stS (thereP dl ss n) (dayAt ss) (lastAt dl ss) life) (none, fd0)).1 = none) ∧ (((List.range (dl.length + 2)).take j).foldl (stS (thereP dl ss n) (dayAt ss) (lastAt dl ss) life) (none, fd0)).2.length ≤ 1800 + j ∧
      ρ = ⟨[.dat (histD HC LC ns most dl ss), .dat (.int life), .own p1 ((((List.range (dl.length + 2)).take j).foldl (stS (thereP dl ss n) (dayAt ss) (lastAt dl ss) life) (none, fd0)).2.map stD), .dat (.str n), .dat (optD (((List.range (dl.length + 2)).take j).foldl (stS (thereP dl ss n) (dayAt ss) (lastAt dl ss) life) (none, fd0)).1), s5, s6], [], An.ws, g⟩, ⟨s5, s6, fun _ => rfl, hln, rfl⟩, fun j dj ρ3 ej hJ => ?_, fun ρ3 hJ => ?_⟩
    · obtain ⟨s5, s6, hz0, hzl, rfl⟩ := hJ
      rw [ez] at ej
      have hj : j < dl.length + 2 := by
        obtain ⟨z, _⟩ := List.getElem?_eq_some_iff.mp ej
        unfold rngD at z
        rw [List.length_map, List.length_range] at z
        exact z
      have hdj : dj = D.int (j : Int) := by
        unfold rngD at ej
        rw [List.getElem?_map, List.getElem?_range hj] at ej
        cases ej
        exact congrArg D.int (Int.zero_add _)
      subst hdj
      have etj : (List.range (dl.length + 2)).take (j + 1) = (List.range (dl.length + 2)).take j ++ [j] := by rw [List.take_add_one, List.getElem?_range hj]; rfl
      have hstj : ((List.range (dl.length + 2)).take (j + 1)).foldl (stS (thereP dl ss n) (dayAt ss) (lastAt dl ss) life) (none, fd0) = stS (thereP dl ss n) (dayAt ss) (lastAt dl ss) life (((List.range (dl.length + 2)).take j).foldl (stS (thereP dl ss n) (dayAt ss) (lastAt dl ss) life) (none, fd0)) j := by
        rw [etj, List.foldl_append]
        rfl
      have hsl := stS_len (thereP dl ss n) (dayAt ss) (lastAt dl ss) life (((List.range (dl.length + 2)).take j).foldl (stS (thereP dl ss n) (dayAt ss) (lastAt dl ss) life) (none, fd0)) j
      generalize ((List.range (dl.length + 2)).take j).foldl (stS (thereP dl ss n) (dayAt ss) (lastAt dl ss) life) (none, fd0) = z at hz0 hzl hsl hstj ⊢
      obtain ⟨zb, zf⟩ := z
      dsimp only at hz0 hzl hsl
      refine ⟨[5], ?_⟩
      walk_at "gg"
      refine dss_cons (ds_set nd (dv_imp (C1 := fun rv ρ' => rv = .v (.bl (thereP dl ss n j)) ∧ ρ' = ⟨[.dat (histD HC LC ns most dl ss), .dat (.int life), .own p1 (zf.map stD), .dat (.str n), .dat (optD zb), .dat (.int (j : Int)), s6], [], An.ws, g⟩) (dv_de (de_and (de_le (de_name ?_)))) (fun rv ρ' hc => ?_)))
      · walk_at "n"
        refine de_dv (dv_meth0 hnow (hr.mono (by decide)) tkF (de_name ?_))
        walk_at "n"
        refine ⟨_, rfl, rfl, ns, most, dl, ss, rfl, ?_⟩
        walk_at "n"
        refine ⟨fun e => ?_, fun e => ?_⟩
        · have hjl : j ≤ dl.length := by have := of_decide_eq_true e; omega
          refine de_one (de_ne hr.units (de_dv (dv_meth hrow (hr.mono (by decide)) tkF (de_name ?_))))
          walk_at "n"
          refine ⟨_, rfl, rfl, da_cons (de_name ?_)⟩
          walk_at "n"
          refine da_cons (de_name ?_)
          walk_at "n"
          refine da_nil ⟨ns, most, dl, ss, n, j, rfl, hh, hn, hjl, fun a => ?_⟩
          refine de_dv (dv_list (da_nil ⟨by show 0 ≤ sizeLine; decide, fun p2 => ?_⟩))
          refine ⟨_, eqP_row _, ?_, rfl⟩
          unfold thereP
          rw [decide_eq_true hjl]
          rfl
        · have hjl : ¬ j ≤ dl.length := by have := of_decide_eq_false e; omega
          refine ⟨?_, rfl⟩
          unfold thereP
          rw [decide_eq_false hjl]
          rfl
      obtain ⟨rfl, rfl⟩ := hc
      generalize hth : thereP dl ss n j = th
      cases th with
      | true =>
        refine dss_cons (ds_if (dt_bool (dw_and (dt_tru (de_name ?_)))))
        walk_at "n"
        refine ⟨true, rfl, fun _ => ?_, fun z => (by cases z)⟩
        refine dw_and1 (dt_is (de_name ?_))
        walk_at "go"
        cases zb with
        | none =>
          have hres : stS (thereP dl ss n) (dayAt ss) (lastAt dl ss) life (none, zf) j = (some (dayAt ss j), zf) := by
            unfold stS
            rw [hth]
          have hjl : j ≤ dl.length := by
            unfold thereP at hth
            rw [Bool.and_eq_true] at hth
            exact of_decide_eq_true hth.1
          refine ⟨rfl, fun _ => ?_, fun z => (by cases z)⟩
          refine dss_cons (ds_set nd (dv_meth hday (hr.mono (by decide)) tkF (de_name ?_)))
          walk_at "n"
          refine ⟨_, rfl, rfl, da_cons (de_name ?_)⟩
          walk_at "n"
          refine da_nil ⟨ns, most, dl, ss, j, rfl, hh, hjl, ?_⟩
          refine dss_nil (dss_nil ⟨.dat (.int (j : Int)), .dat (.bl true), fun z => (by cases z), by rw [hstj]; omega, ?_⟩)
          rw [hstj, hres]
          rfl
        | some b =>
          have hres : stS (thereP dl ss n) (dayAt ss) (lastAt dl ss) life (some b, zf) j = (some b, zf) := by
            unfold stS
            rw [hth]
          refine ⟨rfl, fun z => (by cases z), fun _ => ?_⟩
          refine dss_cons (ds_if (dt_bool (dw_and (dt_not (dt_tru (de_name ?_))))))
          walk_at "n"
          refine ⟨true, rfl, fun z => (by cases z), fun _ => ⟨fun z => (by cases z), fun _ => ?_⟩⟩
          refine dss_nil (dss_nil (dss_nil ⟨.dat (.int (j : Int)), .dat (.bl true), fun z => (by cases z), by rw [hstj]; omega, ?_⟩))
          rw [hstj, hres]
          rfl
      | false =>
        refine dss_cons (ds_if (dt_bool (dw_and (dt_tru (de_name ?_)))))
        walk_at "n"
        refine ⟨false, rfl, fun z => (by cases z), fun _ => ⟨fun z => (by cases z), fun _ => ?_⟩⟩
        refine dss_cons (ds_if (dt_bool (dw_and (dt_not (dt_tru (de_name ?_))))))
        walk_at "n"
        refine ⟨false, rfl, fun _ => ?_, fun z => (by cases z)⟩
        refine dw_and1 (dt_isnt (de_name ?_))
        walk_at "go"
        cases zb with
        | none =>
          have hres : stS (thereP dl ss n) (dayAt ss) (lastAt dl ss) life (none, zf) j = (none, zf) := by
            unfold stS
            rw [hth]
          refine ⟨rfl, fun z => (by cases z), fun _ => ?_⟩
          refine dss_nil (dss_nil (dss_nil ⟨.dat (.int (j : Int)), .dat (.bl false), fun z => (by cases z), by rw [hstj]; omega, ?_⟩))
          rw [hstj, hres]
          rfl
        | some b =>
          have hj1 : 1 ≤ j := by
            rcases Nat.eq_zero_or_pos j with z | z
            · have := hz0 z
              cases this
            · exact z
          have ejm : ((j : Int) - 1) = ((j - 1 : Nat) : Int) := by omega
          have hres : stS (thereP dl ss n) (dayAt ss) (lastAt dl ss) life (some b, zf) j = (none, zf ++ [(b, lastAt dl ss (j - 1), life)]) := by
            unfold stS
            rw [hth]
          refine ⟨rfl, fun _ => ?_, fun z => (by cases z)⟩
          refine dss_cons (ds_app ?_ ?_)
          · exact trivial
          refine de_tup (da_cons (de_name ?_))
          walk_at "n"
          refine da_cons (de_dv (dv_meth hlas (hr.mono (by decide)) tkF (de_name ?_)))
          walk_at "n"
          refine ⟨_, rfl, rfl, da_cons (de_sub (de_name ?_))⟩
          walk_at "go"
          rw [ejm]
          refine ⟨ns, most, dl, ss, j - 1, rfl, hh, by omega, ?_⟩
          walk_at "go"
          refine ⟨by show 3 ≤ sizeLine; decide, by rw [List.length_map, sizeLine_eq]; omega, ?_⟩
          refine dss_cons (ds_set nd (dv_de (de_non ?_)))
          refine dss_nil (dss_nil (dss_nil ⟨.dat (.int (j : Int)), .dat (.bl false), fun z => (by cases z), by rw [hstj]; omega, ?_⟩))
          rw [hstj, hres, List.map_append]
          rfl
    · obtain ⟨s5, s6, _, _, rfl⟩ := hJ
      have f2 : (List.range (dl.length + 2)).take (rngD 0 ((dl.length : Int) + 2).toNat).length = List.range (dl.length + 2) := by
        refine List.take_of_length_le ?_
        unfold rngD
        rw [List.length_map, List.length_range, List.length_range]
        omega
      rw [f2]
      have hz2 : stN dl.length (thereP dl ss n) (dayAt ss) (lastAt dl ss) life fd0 = ((List.range (dl.length + 2)).foldl (stS (thereP dl ss n) (dayAt ss) (lastAt dl ss) life) (none, fd0)).2 := rfl
      rw [hz2] at hstep
      generalize (List.range (dl.length + 2)).foldl (stS (thereP dl ss n) (dayAt ss) (lastAt dl ss) life) (none, fd0) = z at hstep ⊢
      refine dss_nil ⟨.dat (.str n), .dat (optD z.1), s5, s6, ?_⟩
      rw [hstep]
  · obtain ⟨s3, s4, s5, s6, rfl⟩ := hI
    have f1 : ns.take (txts ns).length = ns := by unfold txts; rw [List.length_map, List.take_length]
    rw [f1]
    refine dss_cons (ds_ret ?_)
    refine dv_back ?_
    exact ⟨rfl, h⟩
end
end K70
end

section
namespace DL
open PySem L2
/-- a list of deeds as it may be passed -/
structure Fits (dd : D) (dl : List Deed) : Prop where
  sq : ∃ xs : List D, seqD dd = some xs ∧ xs.length = dl.length ∧ ∀ (i : Nat) (x : D) (d : Deed), xs[i]? = some x → dl[i]? = some d → x = .lst d.items ∨ x = .tup d.items
  li : isList dd = true
  wt : wt dd = true
end DL
open PySem L2 DL
namespace K70
section
variable {P : Program} {w : World} {K : PySem.W.Frag} {mg : Str → Option Value} {base : Heap} {T : List (Addr × Str)}
/-- History -/
def hisN (HC LC : Addr) : DF := fun ds g C => ∃ (ns : List Str) (most : Int) (dl : List Deed) (ss : List Stp) (dd : D), ds = [landD LC ns most, dd] ∧ Fits dd dl ∧ okNames ns ∧ Hist ns most dl ss ∧ C (.ret (histD HC LC ns most dl ss) g)
theorem ok_History (B : Bi mg) {HC LC f : Addr} {fd : FuncData} (F : Fun K "__init__" "History.__init__" s_History___init__ f fd) (ow : OwnC K HC) (I : ClsI K LC) (hme : PySem.W.kitOne K (.ref LC) (.ref LC) = some true) (hL : mg "Land" = some (.ref LC)) (nn : NoAttr K LC "names") (nl : NoAttr K HC "own_land") (nde : NoAttr K HC "own_deeds") (nst : NoAttr K HC "steps") (h1 : Kn P w K mg base T "is_list" 1 (pred isList))
    (h2 : KnM P w K mg base T HC "can" 6 (canN HC LC) []) (h3 : KnH P w K mg base T HC "add" 6 (addN HC LC)) : FnOk P w K mg base (L2.CX P w) 7 f fd ["self", "land", "deeds"] (spI K T HC (hisN HC LC)) := by
  refine okI F sc_History___init__ ow (fun ds g C h => by obtain ⟨ns, most, dl, ss, dd, rfl, _⟩ := h; rfl) (fun cdv A outer s H E An ds g C x dx hr tk h => ?_)
  obtain ⟨ns, most, dl, ss, dd, rfl, fit, okn, hh, h⟩ := h
  have nd := sc_History___init__.nd
  have hfew := okn.few
  have hd16 := hh.few
  have hsl := hh.len
  show DSs _ T An ⟨[.dat (.ref x), .dat (landD LC ns most), .dat dd, .non, .non, .non], [(x, .ins HC dx [])], An.ws, g⟩ _ _
  refine dss_cons (ds_if (dt_not (dt_tru (de_isC B.isinstance I hL (de_name ?_)))))
  walk_at "n"
  refine ⟨true, hme, ?_⟩
  refine ⟨true, rfl, fun z => (by cases z), fun _ => ?_⟩
  refine dss_nil (dss_cons (ds_if (dt_not (dt_tru (de_dv (dv_call h1 (hr.mono (by decide)) tkF (da_cons (de_name ?_))))))))
  walk_at "n"
  refine da_nil ⟨dd, rfl, fit.wt, ?_⟩
  rw [fit.li]
  walk_at "n"
  refine ⟨true, rfl, fun z => (by cases z), fun _ => ?_⟩
  refine dss_nil (dss_cons (ds_fldO nl (dv_de (de_name ?_))))
  walk_at "n"
  refine de_name ?_
  walk_at "n"
  refine ⟨x, 0, dx, [], rfl, rfl, by decide, ?_⟩
  refine dss_cons (ds_fldO nde (dv_list (da_nil ⟨by show 0 ≤ sizeLine; decide, fun ad => ?_⟩)))
  refine de_name ?_
  walk_at "n"
  refine ⟨x, 1, dx, _, rfl, rfl, by show 1 < 1000; decide, ?_⟩
  refine dss_cons (ds_fldO nst (dv_list (da_cons (de_tup (da_cons (de_dv (dv_dc rfl nd (blkOk_by (own := [("address", 3)]) (by kernel_rfl)) (di_seq (de_fld nn (de_name ?_))))))))))
  walk_at "n"
  refine ⟨_, _, rfl, rfl, ?_⟩
  refine ⟨_, rfl, dcd_fold (fun x => match x with | .str z => some (.inr z, .lst []) | _ => none) rfl (by unfold txts; rw [List.length_map, sizeLine_eq]; omega) (fun i5 y acc D0 ey => ?_) fun a5 => ?_⟩
  · unfold txts at ey
    rw [List.getElem?_map] at ey
    obtain ⟨z, ez, rfl⟩ := Option.map_eq_some_iff.mp ey
    walk_at "blk"
    walk_at "gg"
    walk_at "blk"
    refine dts_nil ⟨fun _ => ?_, fun z => (by cases z)⟩
    walk_at "blk"
    walk_at "go"
    walk_at "blk"
    refine de_dv (dv_list (da_nil ⟨by show 0 ≤ sizeLine; decide, fun p1 => ?_⟩))
    exact ⟨_, rfl, rfl, rfl, rfl, rfl⟩
  · have ef : (txts ns).filterMap (fun x => match x with | .str z => some ((.inr z : Key), D.lst []) | _ => none) = rowsK ns fun _ => [] := by
      unfold txts rowsK
      rw [List.filterMap_map]
      show ns.filterMap (some ∘ fun n => _) = _
      rw [List.filterMap_eq_map]
      rfl
    have em : mergeD [] (rowsK ns fun _ => []) = rowsK ns fun _ => [] := by
      rw [merge_new _ [] _ (fun k hk z => by cases z)]
      · rfl
      · unfold rowsK
        rw [List.map_map]
        exact List.pairwise_map.mpr (okn.nd.imp fun h z => h (Sum.inr.inj z))
    rw [ef, em]
    walk_at "go"
    refine ⟨by show 3 ≤ sizeLine; decide, da_nil ⟨by show 1 ≤ sizeLine; decide, fun as => de_name ?_⟩⟩
    walk_at "n"
    refine ⟨x, 2, dx, _, rfl, rfl, by show 2 < 1000; decide, ?_⟩
    show DSs _ T An ⟨[.dat (.ref x), .dat (landD LC ns most), .dat dd, .non, .non, .non], [(as, .lst [stpD ns (fun _ => [], 0, 0)]), (ad, .lst []), (x, .ins HC dx [("own_land", landD LC ns most), ("own_deeds", .ref ad), ("steps", .ref as)])], An.ws, g⟩ _ _
    have e1 : ss.take 1 = [(fun _ => [], 0, 0)] := by
      rw [List.take_add_one, hh.zero]
      rfl
    obtain ⟨xs, esq, hxl, hfit⟩ := fit.sq
    refine dss_cons (ds_for (passes_of rfl) rfl (di_enum B.enumerate ?_))
    walk_at "go"
    refine ⟨xs, esq, fun i ρ => ∃ s3 s4 s5 : Sl, ρ = ⟨[.dat (.ref x), .dat (landD LC ns most), .dat dd, s3, s4, s5], [(as, .lst ((ss.take (i + 1)).map (stpD ns))), (ad, .lst ((dl.take i).map dedT)), (x, .ins HC dx [("own_land", landD LC ns most), ("own_deeds", .ref ad), ("steps", .ref as)])], An.ws, g⟩, ⟨.non, .non, .non, by rw [e1]; rfl⟩, fun i dy ρ2 ei hI => ?_, fun ρ2 hI => ?_⟩
    · obtain ⟨s3, s4, s5, rfl⟩ := hI
      rw [enumOf_get] at ei
      obtain ⟨y, ey, rfl⟩ := Option.map_eq_some_iff.mp ei
      have hi : i < dl.length := by rw [← hxl]; exact (List.getElem?_eq_some_iff.mp ey).1
      obtain ⟨d, ed⟩ : ∃ d, dl[i]? = some d := ⟨_, List.getElem?_eq_getElem hi⟩
      have hy := hfit i y d ey ed
      have hyq : seqD y = some d.items := by rcases hy with rfl | rfl <;> rfl
      obtain ⟨r, m, yy, es⟩ := hh.at (Nat.le_of_lt hi)
      obtain ⟨r', m', e2, e3⟩ := hh.step i d r m yy ed es
      have etk : ss.take (i + 1) = ss.take i ++ [(r, m, yy)] := by rw [List.take_add_one, es]; rfl
      have etk2 : ss.take (i + 1 + 1) = ss.take (i + 1) ++ [(r', m', yy + d.days)] := by rw [List.take_add_one, e3]; rfl
      have edk : dl.take (i + 1) = dl.take i ++ [d] := by rw [List.take_add_one, ed]; rfl
      have hlast : ((ss.take (i + 1)).map (stpD ns)).getLast? = some (stpD ns (r, m, yy)) := by
        rw [etk, List.map_append, List.map_cons, List.map_nil, List.getLast?_concat]
      have okd : d.ok ns := hh.ok d (List.mem_of_getElem? ed)
      have l1 : ((ss.take (i + 1)).map (stpD ns)).length < 1000 := by rw [List.length_map, List.length_take]; omega
      have l2 : ((dl.take i).map dedT).length < 1000 := by rw [List.length_map, List.length_take]; omega
      refine ⟨[4, 5], ?_⟩
      walk_at "gg"
      refine dss_cons (ds_if (dt_not (dt_tru (de_dv (dv_methL h2 (hr.mono (by decide)) tkF (de_name ?_))))))
      walk_at "n"
      refine ⟨x, .inr 2, dx, _, rfl, rfl, rfl, da_cons (de_name ?_)⟩
      walk_at "n"
      refine da_nil ⟨.obj HC [("own_land", landD LC ns most), ("own_deeds", .lst ((dl.take i).map dedT)), ("steps", .lst ((ss.take (i + 1)).map (stpD ns)))], .ins ⟨.inr 2, rfl⟩ (.cons (.same _) (.cons (.lst ⟨.inr 1, rfl⟩ (LRs.same _)) (.cons (.lst ⟨.inr 0, rfl⟩ (LRs.same _)) .nil))), ?_⟩
      refine ⟨ns, most, _, _, r, m, yy, d, y, r', m', rfl, hlast, hy, okn, okd, hh.lt17 es, e2, ?_⟩
      refine ⟨rfl, true, rfl, fun z => (by cases z), fun _ => ?_⟩
      refine dss_nil (dss_cons (ds_expr (dv_methH h3 (hr.mono (by decide)) tkF (de_name ?_))))
      walk_at "n"
      refine ⟨x, .inr 2, dx, _, rfl, rfl, rfl, da_cons (de_dv (dv_tuple B.tuple (da_cons (de_name ?_))))⟩
      walk_at "n"
      refine da_nil ⟨d.items, hyq, da_nil ?_⟩
      refine ⟨ns, most, x, dx, as, ad, _, _, r, m, yy, d, r', m', rfl, rfl, hlast, okn, okd, hh.lt17 es, e2, l1, l2, ?_⟩
      refine dss_nil ⟨s3, .dat (.int ((0 + i : Nat) : Int)), .dat y, ?_⟩
      rw [etk2, edk, List.map_append, List.map_append]
      rfl
    · obtain ⟨s3, s4, s5, rfl⟩ := hI
      have f1 : ss.take ((enumOf 0 xs).length + 1) = ss := List.take_of_length_le (by rw [enumOf_len]; omega)
      have f2 : dl.take (enumOf 0 xs).length = dl := List.take_of_length_le (by rw [enumOf_len]; omega)
      rw [f1, f2]
      refine dss_nil ⟨rfl, histD HC LC ns most dl ss, .ins ⟨.inr 2, rfl⟩ (.cons (.same _) (.cons (.lst ⟨.inr 1, rfl⟩ (LRs.same _)) (.cons (.lst ⟨.inr 0, rfl⟩ (LRs.same _)) .nil))), h⟩
end
end K70
end

section
namespace DL
open PySem L2
/-! ### sizes of rows -/
def okR (r : Row) : Prop := ∀ p ∈ r, p.1 ≤ p.2
theorem size_nil : sizeR [] = 0 := rfl
theorem size_app (a b : Row) : sizeR (a ++ b) = sizeR a + sizeR b := by
  unfold sizeR
  rw [List.map_append, List.sum_append]
theorem size_one (p : Int × Int) : sizeR [p] = p.2 - p.1 + 1 := by
  unfold sizeR
  simp
theorem size_nonneg {r : Row} (h : okR r) : 0 ≤ sizeR r := by
  induction r with
  | nil => exact Int.le_refl _
  | cons p r ih =>
    have h1 := h p List.mem_cons_self
    have h2 := ih fun q hq => h q (List.mem_cons_of_mem _ hq)
    have e : sizeR (p :: r) = sizeR [p] + sizeR r := size_app [p] r
    rw [e, size_one]
    omega
theorem size_zero {r : Row} (h : okR r) : r = [] ↔ sizeR r = 0 := by
  constructor
  · intro z; rw [z]; rfl
  · intro z
    cases r with
    | nil => rfl
    | cons p r =>
      have h1 := h p List.mem_cons_self
      have h2 := size_nonneg (r := r) fun q hq => h q (List.mem_cons_of_mem _ hq)
      have e : sizeR (p :: r) = sizeR [p] + sizeR r := size_app [p] r
      rw [e, size_one] at z
      omega
theorem okR_app {a b : Row} (ha : okR a) (hb : okR b) : okR (a ++ b) := fun p hp => by
  rcases List.mem_append.mp hp with hp | hp
  · exact ha p hp
  · exact hb p hp
theorem okR_one {p : Int × Int} (h : p.1 ≤ p.2) : okR [p] := fun q hq => by
  rw [List.mem_singleton.mp hq]; exact h
theorem okR_nil : okR [] := fun _ h => by cases h
theorem tidyS_size {acc : Row} {p : Int × Int} (h : okR acc) (hp : p.1 ≤ p.2) : sizeR (tidyS acc p) = sizeR acc + (p.2 - p.1 + 1) ∧ okR (tidyS acc p) := by
  unfold tidyS
  cases e : acc.getLast? with
  | none =>
    dsimp only
    exact ⟨by rw [size_app, size_one], okR_app h (okR_one hp)⟩
  | some q =>
    dsimp only
    have hne : acc ≠ [] := fun z => by rw [z] at e; cases e
    have ea : acc = acc.dropLast ++ [q] := by
      have := List.dropLast_concat_getLast hne
      rw [List.getLast?_eq_some_getLast hne] at e
      cases e
      exact this.symm
    split
    · rename_i hq
      have h1 : okR acc.dropLast := fun z hz => h z (List.dropLast_subset _ hz)
      have h2 : q.1 ≤ q.2 := h q (by rw [ea]; exact List.mem_append_right _ (List.mem_singleton.mpr rfl))
      have es : sizeR acc = sizeR acc.dropLast + (q.2 - q.1 + 1) := by
        conv => lhs; rw [ea]
        rw [size_app, size_one]
      refine ⟨?_, okR_app h1 (okR_one (by show q.1 ≤ p.2; omega))⟩
      rw [size_app, size_one, es]
      dsimp only
      omega
    · exact ⟨by rw [size_app, size_one], okR_app h (okR_one hp)⟩
theorem tidy_fold_size (r acc : Row) (h : okR acc) (hr : okR r) : sizeR (r.foldl tidyS acc) = sizeR acc + sizeR r ∧ okR (r.foldl tidyS acc) := by
  induction r generalizing acc with
  | nil => exact ⟨by rw [size_nil, Int.add_zero]; rfl, h⟩
  | cons p r ih =>
    obtain ⟨h1, h2⟩ := tidyS_size h (hr p List.mem_cons_self)
    obtain ⟨h3, h4⟩ := ih (tidyS acc p) h2 fun q hq => hr q (List.mem_cons_of_mem _ hq)
    have e : sizeR (p :: r) = sizeR [p] + sizeR r := size_app [p] r
    rw [List.foldl_cons]
    refine ⟨?_, h4⟩
    rw [h3, h1, e, size_one]
    omega
theorem tidy_size {r : Row} (hr : okR r) : sizeR (tidyR r) = sizeR r ∧ okR (tidyR r) := by
  have := tidy_fold_size r [] okR_nil hr
  rw [size_nil, Int.zero_add] at this
  exact this
/-- what stands in parted's loop -/
structure PartI (k : Int) (r : Row) (z : Row × Row × Int) : Prop where
  ok1 : okR z.1
  ok2 : okR z.2.1
  left : 0 ≤ z.2.2
  sum1 : sizeR z.1 + z.2.2 = k
  sum2 : sizeR z.1 + sizeR z.2.1 = sizeR r
  emp : 0 < z.2.2 → sizeR z.2.1 = 0
theorem part_step {k : Int} {r : Row} {z : Row × Row × Int} {p : Int × Int} (h : PartI k r z) (hp : p.1 ≤ p.2) : PartI k (r ++ [p]) (partS z p) := by
  obtain ⟨a, b, l⟩ := z
  obtain ⟨o1, o2, hl, s1, s2, he⟩ := h
  dsimp only at *
  unfold partS
  dsimp only
  have hm : min l (p.2 - p.1 + 1) ≤ l := Int.min_le_left _ _
  have hm2 : min l (p.2 - p.1 + 1) ≤ p.2 - p.1 + 1 := Int.min_le_right _ _
  have hm3 : min l (p.2 - p.1 + 1) = l ∨ min l (p.2 - p.1 + 1) = p.2 - p.1 + 1 := by omega
  generalize min l (p.2 - p.1 + 1) = v at *
  have hv : 0 ≤ v := by omega
  have sa : sizeR (if v > 0 then a ++ [(p.1, p.1 + v - 1)] else a) = sizeR a + v := by
    split
    · rw [size_app, size_one]; dsimp only; omega
    · omega
  have sb : sizeR (if p.1 + v ≤ p.2 then b ++ [(p.1 + v, p.2)] else b) = sizeR b + (p.2 - p.1 + 1 - v) := by
    split
    · rw [size_app, size_one]; dsimp only; omega
    · omega
  refine ⟨?_, ?_, ?_, ?_, ?_, fun z => ?_⟩
  · dsimp only
    split
    · exact okR_app o1 (okR_one (by show p.1 ≤ p.1 + v - 1; omega))
    · exact o1
  · dsimp only
    split
    · rename_i q
      exact okR_app o2 (okR_one q)
    · exact o2
  · show 0 ≤ l - v
    omega
  · show sizeR _ + (l - v) = k
    rw [sa]; omega
  · show sizeR _ + sizeR _ = _
    rw [sa, sb, size_app, size_one]; omega
  · show sizeR _ = 0
    have z : 0 < l - v := z
    rw [sb, he (by omega)]
    omega
theorem part_inv {k : Int} (hk : 0 ≤ k) : ∀ (r : Row), okR r → PartI k r (partR r k) := by
  intro r hr
  have key : ∀ (l r0 : Row) (z : Row × Row × Int), okR l → PartI k r0 z → PartI k (r0 ++ l) (l.foldl partS z) := by
    intro l
    induction l with
    | nil => intro r0 z _ h; rw [List.append_nil]; exact h
    | cons p l ih =>
      intro r0 z hl h
      have := ih (r0 ++ [p]) (partS z p) (fun q hq => hl q (List.mem_cons_of_mem _ hq)) (part_step h (hl p List.mem_cons_self))
      rw [List.append_assoc] at this
      exact this
  exact key r [] ([], [], k) hr ⟨okR_nil, okR_nil, hk, by show sizeR [] + k = k; rw [size_nil]; omega, rfl, fun _ => rfl⟩
theorem part_size {r : Row} {k : Int} (hr : okR r) (hk : 0 ≤ k) (hs : k ≤ sizeR r) : sizeR (partR r k).1 = k ∧ sizeR (partR r k).2.1 = sizeR r - k ∧ okR (partR r k).1 ∧ okR (partR r k).2.1 := by
  obtain ⟨o1, o2, hl, s1, s2, he⟩ := part_inv hk r hr
  by_cases z : 0 < (partR r k).2.2
  · have := he z
    omega
  · exact ⟨by omega, by omega, o1, o2⟩
theorem less_size {r : Row} {i k : Int} (hr : okR r) (hi : 0 ≤ i) (hk : 0 ≤ k) (hs : i + k ≤ sizeR r) : sizeR (lessR r i k) = sizeR r - k ∧ okR (lessR r i k) := by
  obtain ⟨a1, a2, a3, a4⟩ := part_size hr hi (by omega)
  obtain ⟨b1, b2, b3, b4⟩ := part_size (r := (partR r i).2.1) a4 hk (by omega)
  obtain ⟨c1, c2⟩ := tidy_size (okR_app a3 b4)
  unfold lessR
  refine ⟨?_, c2⟩
  rw [c1, size_app, a1, b2, a2]
  omega
end DL
end

section
namespace DL
open PySem L2
/-! ### the law's own rows -/
abbrev LRows := Str → List Int
def upL (R : LRows) (a : Str) (x : List Int) : LRows := fun n => if n = a then x else R n
def rangeL (m k : Int) : List Int := (List.range k.toNat).map fun (j : Nat) => m + 1 + (j : Int)
def lenL (x : List Int) : Int := (x.length : Int)
def totL (ns : List Str) (R : LRows) : Int := (ns.map fun n => lenL (R n)).sum
def doneL (ns : List Str) (most : Int) (R : LRows) (made : Int) : Deed → Option (LRows × Int)
  | .wait _ => some (R, made)
  | .make a k => if R a = [] then (if totL ns (upL R a (R a ++ rangeL made k)) ≤ most then some (upL R a (R a ++ rangeL made k), made + k) else none) else none
  | .grow a k => if R a = [] then none else (if totL ns (upL R a (R a ++ rangeL made k)) ≤ most then some (upL R a (R a ++ rangeL made k), made + k) else none)
  | .fin a => if R a = [] then none else some (upL R a [], made)
  | .drop a i k => if R a = [] then none else if lenL (R a) < i + k then none else some (upL R a ((R a).take i.toNat ++ (R a).drop (i + k).toNat), made)
  | .move a b => if R a = [] then none else if R b = [] then some (upL (upL R a []) b (R a), made) else none
  | .swap a b => if R a = [] then none else if R b = [] then none else some (upL (upL R a (R b)) b (R a), made)
  | .pour a b => if R a = [] then none else if R b = [] then none else some (upL (upL R a []) b (R b ++ R a), made)
  | .cut a k b => if R a = [] then none else if R b = [] then (if lenL (R a) ≤ k then none else some (upL (upL R a ((R a).take k.toNat)) b ((R a).drop k.toNat), made)) else none
  | .split a k b c => if R a = [] then none else if R b = [] ∧ R c = [] then (if lenL (R a) ≤ k then none else some (upL (upL (upL R b ((R a).take k.toNat)) c ((R a).drop k.toNat)) a [], made)) else none
def Deed.scale (s t : Int) : Deed → Deed
  | .wait k => .wait (k * t)
  | .make a k => .make a (k * s)
  | .grow a k => .grow a (k * s)
  | .fin a => .fin a
  | .drop a i k => .drop a (i * s) (k * s)
  | .move a b => .move a b
  | .swap a b => .swap a b
  | .pour a b => .pour a b
  | .cut a k b => .cut a (k * s) b
  | .split a k b c => .split a (k * s) b c
def Rel (s : Int) (ns : List Str) (r : Rows) (R : LRows) : Prop := ∀ n ∈ ns, okR (r n) ∧ sizeR (r n) = s * lenL (R n)
theorem lenL_zero {x : List Int} : x = [] ↔ lenL x = 0 := by
  unfold lenL
  cases x with
  | nil => simp
  | cons a x => simp; omega
theorem lenL_nonneg (x : List Int) : 0 ≤ lenL x := Int.natCast_nonneg _
theorem lenL_app (x y : List Int) : lenL (x ++ y) = lenL x + lenL y := by
  unfold lenL
  rw [List.length_append]
  omega
theorem lenL_range {m k : Int} (h : 0 ≤ k) : lenL (rangeL m k) = k := by
  unfold lenL rangeL
  rw [List.length_map, List.length_range]
  omega
theorem lenL_take {x : List Int} {k : Int} (h : 0 ≤ k) (h2 : k ≤ lenL x) : lenL (x.take k.toNat) = k := by
  unfold lenL at *
  rw [List.length_take]
  omega
theorem lenL_drop {x : List Int} {k : Int} (h : 0 ≤ k) (h2 : k ≤ lenL x) : lenL (x.drop k.toNat) = lenL x - k := by
  unfold lenL at *
  rw [List.length_drop]
  omega
section
variable {s : Int} {ns : List Str} {r : Rows} {R : LRows}
theorem Rel.empty (h : Rel s ns r R) (hs : 1 ≤ s) {a : Str} (ha : a ∈ ns) : r a = [] ↔ R a = [] := by
  obtain ⟨h1, h2⟩ := h a ha
  rw [size_zero h1, lenL_zero, h2]
  constructor
  · intro z
    rcases Int.mul_eq_zero.mp z with z | z
    · omega
    · exact z
  · intro z; rw [z, Int.mul_zero]
theorem Rel.up (h : Rel s ns r R) {a : Str} {x : Row} {y : List Int} (hx : okR x) (e : sizeR x = s * lenL y) : Rel s ns (upR r a x) (upL R a y) := fun n hn => by
  unfold upR upL
  by_cases hna : n = a
  · rw [if_pos hna, if_pos hna]; exact ⟨hx, e⟩
  · rw [if_neg hna, if_neg hna]; exact h n hn
theorem Rel.tot (h : Rel s ns r R) : totR ns r = s * totL ns R := by
  unfold totR totL
  have key : ∀ l : List Str, (∀ n ∈ l, n ∈ ns) → (l.map fun n => sizeR (r n)).sum = s * (l.map fun n => lenL (R n)).sum := by
    intro l
    induction l with
    | nil => intro _; simp
    | cons a l ih =>
      intro hl
      rw [List.map_cons, List.map_cons, List.sum_cons, List.sum_cons, ih fun n hn => hl n (List.mem_cons_of_mem _ hn), (h a (hl a List.mem_cons_self)).2, Int.mul_add]
  exact key ns fun _ z => z
theorem upL_eq (R : LRows) (a : Str) (x : List Int) : upL R a x a = x := if_pos rfl
theorem upL_ne {R : LRows} {a b : Str} {x : List Int} (h : b ≠ a) : upL R a x b = R b := if_neg h
theorem tot_up {a : Str} {y : List Int} (nd : ns.Nodup) (ha : a ∈ ns) : totL ns (upL R a y) = totL ns R + (lenL y - lenL (R a)) := by
  unfold totL
  have out : ∀ l : List Str, a ∉ l → (l.map fun n => lenL (upL R a y n)) = l.map fun n => lenL (R n) := fun l hl => List.map_congr_left fun n hn => by
    rw [upL_ne fun z : n = a => hl (z ▸ hn)]
  induction ns with
  | nil => cases ha
  | cons b l ih =>
    obtain ⟨n1, n2⟩ := List.nodup_cons.mp nd
    rw [List.map_cons, List.map_cons, List.sum_cons, List.sum_cons]
    by_cases hb : b = a
    · subst hb
      rw [upL_eq, out l n1]
      omega
    · rw [upL_ne hb]
      rcases List.mem_cons.mp ha with z | z
      · exact absurd z.symm hb
      · have := ih n2 z
        omega
theorem done_of {most m : Int} {d : Deed} {r' : Rows} {R' : LRows} (hs : 1 ≤ s) (e : behindR r m d = some r') (h : Rel s ns r' R') (ht : totL ns R' ≤ most) : doneR ns (most * s) r m d = some (r', m + d.gain) := by
  unfold doneR
  rw [e]
  dsimp only
  rw [if_neg]
  rw [h.tot, Int.mul_comm most s]
  intro z
  have := Int.mul_le_mul_of_nonneg_left ht (show 0 ≤ s by omega)
  omega
theorem pos_mul {a s : Int} (ha : 1 ≤ a) (hs : 1 ≤ s) : 1 ≤ a * s := by
  have := Int.mul_le_mul_of_nonneg_left hs (show 0 ≤ a by omega)
  omega
theorem nonneg_mul {a s : Int} (ha : 0 ≤ a) (hs : 1 ≤ s) : 0 ≤ a * s := Int.mul_nonneg ha (by omega)
theorem scale_ok {d : Deed} {s t : Int} (hs : 1 ≤ s) (ht : 1 ≤ t) (h : d.ok ns) : (d.scale s t).ok ns := by
  cases d with
  | make a k => exact ⟨h.1, pos_mul h.2 hs⟩
  | grow a k => exact ⟨h.1, pos_mul h.2 hs⟩
  | cut a k b => exact ⟨h.1, h.2.1, h.2.2.1, pos_mul h.2.2.2 hs⟩
  | split a k b c => exact ⟨h.1, h.2.1, h.2.2.1, h.2.2.2.1, h.2.2.2.2.1, h.2.2.2.2.2.1, pos_mul h.2.2.2.2.2.2 hs⟩
  | drop a i k => exact ⟨h.1, nonneg_mul h.2.1 hs, pos_mul h.2.2 hs⟩
  | wait k => exact pos_mul (show 1 ≤ k from h) ht
  | _ => exact h
end
end DL
end

section
namespace DL
open PySem L2
def mulD1 (s : Int) (d : D) : D := match d with
  | .int i => .int (i * s)
  | d => d
theorem scale_items {s t : Int} {d : Deed} (h : (d.word == ("wait" : Str)) = false) : d.items.flatMap (fun x => [mulD1 s x]) = (d.scale s t).items := by
  cases d with
  | wait k => exact absurd h (by rw [Bool.not_eq_false]; kernel_rfl)
  | _ => rfl
def sclF (s t : Int) : D → List D
  | .tup [.str w, .int k] => [.tup [.str w, .int (k * t)]]
  | .tup l => [.tup (l.map (mulD1 s))]
  | _ => []
theorem sclF_ok (s t : Int) (d : Deed) : sclF s t (.tup d.items) = [.tup (d.scale s t).items] := by cases d <;> rfl
theorem sclF_all (s t : Int) (dl : List Deed) : (dl.map dedT).flatMap (sclF s t) = (dl.map (Deed.scale s t)).map dedT := by
  induction dl with
  | nil => rfl
  | cons d dl ih =>
    rw [List.map_cons, List.flatMap_cons, ih, List.map_cons, List.map_cons]
    show sclF s t (.tup d.items) ++ _ = _
    rw [sclF_ok]
    rfl
theorem items_kind {d : Deed} {y : D} (h : y ∈ d.items) : (∃ z, y = .str z) ∨ ∃ i, y = .int i := by
  rcases List.mem_cons.mp h with rfl | h
  · exact .inl ⟨_, rfl⟩
  · exact part_kind h
theorem deeds_wt {ns : List Str} (okn : okNames ns) : ∀ {dl : List Deed}, (∀ d ∈ dl, d.ok ns) → wts (dl.map dedT) = true
  | [], _ => rfl
  | d :: dl, h => wts_cons (show wt (.tup d.items) = true from items_wt okn (h d List.mem_cons_self)) (deeds_wt okn fun x hx => h x (List.mem_cons_of_mem _ hx))
theorem fits_map {ns : List Str} (okn : okNames ns) {dl : List Deed} (h : ∀ d ∈ dl, d.ok ns) : Fits (.lst (dl.map dedT)) dl := by
  refine ⟨⟨dl.map dedT, rfl, List.length_map _, fun i x d ex ed => ?_⟩, rfl, deeds_wt okn h⟩
  rw [List.getElem?_map, ed] at ex
  cases ex
  exact .inr rfl
end DL
open PySem L2 DL
namespace K70
section
variable {P : Program} {w : World} {K : PySem.W.Frag} {mg : Str → Option Value} {base : Heap} {T : List (Addr × Str)}
/-- scaled_deed -/
def scdN : DF := fun ds g C => ∃ (ns : List Str) (d : Deed) (s t : Int), ds = [dedT d, .int s, .int t] ∧ okNames ns ∧ d.ok ns ∧ 1 ≤ s ∧ s < 2 ^ 64 ∧ 1 ≤ t ∧ t < 2 ^ 64 ∧ C (.ret (dedT (d.scale s t)) g)
theorem ok_scaled_deed (B : Bi mg) {f : Addr} {fd : FuncData} (F : Fun K "scaled_deed" "scaled_deed" s_scaled_deed f fd) (h1 : Kn P w K mg base T "is_whole" 1 (pred isWhole)) : FnOk P w K mg base (L2.CX P w) 2 f fd ["deed", "pieces", "days"] (spD K T scdN) := by
  refine okD F sc_scaled_deed (fun ds g C h => by obtain ⟨ns, d, s, t, rfl, _⟩ := h; rfl) (fun cdv A outer s0 H E An ds g C hr tk h => ?_)
  obtain ⟨ns, d, s, t, rfl, okn, okd, hs, hs2, ht, ht2, h⟩ := h
  have nd := sc_scaled_deed.nd
  have hlen : d.items.length ≤ 5 := by cases d <;> simp [Deed.items, Deed.parts]
  show DSs _ T An ⟨[.dat (.tup d.items), .dat (.int s), .dat (.int t), .non], [], An.ws, g⟩ _ _
  refine dss_cons (ds_if (dt_eq hr.units (de_ix (de_name ?_))))
  walk_at "go"
  refine ixD_seq (j := 0) rfl rfl rfl ?_
  walk_at "go"
  refine ⟨_, (eqP_word d).1, fun e => ?_, fun e => ?_⟩
  · cases d with
    | wait k =>
      walk_at "go"
      refine ixD_seq (j := 1) rfl rfl rfl ?_
      walk_at "go"
      exact ⟨.inr ⟨by omega, ht2⟩, da_nil ⟨by show 2 ≤ sizeLine; decide, .inl rfl, h⟩⟩
    | _ => exact absurd e (by rw [Bool.not_eq_true]; kernel_rfl)
  · refine dss_nil (dss_cons (ds_ret (dv_tuple B.tuple (da_cons (de_dv (dv_lc rfl nd (blkOk_by (own := [("part", 3)]) (by kernel_rfl)) (di_seq (de_name ?_))))))))
    walk_at "n"
    refine ⟨_, rfl, lcd_fm (fun x => [mulD1 s x]) rfl (by rw [sizeLine_eq]; omega) (fun i y acc D0 ey => ?_) fun a => ?_⟩
    · have hk := items_kind (List.mem_of_getElem? ey)
      have hw := wts_mem (items_wt okn okd) y (List.mem_of_getElem? ey)
      walk_at "blk"
      walk_at "gg"
      walk_at "blk"
      refine dts_nil ⟨fun _ => ?_, fun z => (by cases z)⟩
      walk_at "blk"
      refine de_if (dt_tru (de_dv (dv_call h1 (hr.mono (by decide)) tkF (da_cons (de_name ?_)))))
      walk_at "n"
      rcases hk with ⟨z, rfl⟩ | ⟨z, rfl⟩
      · refine da_nil ⟨.str z, rfl, hw, ?_⟩
        walk_at "n"
        refine ⟨false, rfl, fun z => (by cases z), fun _ => ?_⟩
        walk_at "go"
        exact ⟨rfl, rfl, rfl, rfl⟩
      · refine da_nil ⟨.int z, rfl, rfl, ?_⟩
        walk_at "n"
        refine ⟨true, rfl, fun _ => ?_, fun z => (by cases z)⟩
        walk_at "go"
        exact ⟨.inr ⟨by omega, hs2⟩, rfl, rfl, rfl, rfl⟩
    · rw [scale_items (t := t) e]
      refine da_nil ⟨_, rfl, ?_⟩
      exact ⟨.inl rfl, h⟩
/-- scaled -/
def scaN (HC LC : Addr) : DF := fun ds g C => ∃ (ns : List Str) (most : Int) (dl : List Deed) (ss ss' : List Stp) (s t : Int), ds = [histD HC LC ns most dl ss, .int s, .int t] ∧ 1 ≤ s ∧ s < 2 ^ 64 ∧ 1 ≤ t ∧ t < 2 ^ 64 ∧ 1 ≤ most ∧ okNames ns ∧ (∀ d ∈ dl, d.ok ns) ∧ dl.length ≤ 16 ∧ Hist ns (most * s) (dl.map (Deed.scale s t)) ss' ∧ C (.ret (histD HC LC ns (most * s) (dl.map (Deed.scale s t)) ss') g)
theorem ok_scaled (B : Bi mg) {HC LC f : Addr} {fd : FuncData} (F : Fun K "scaled" "scaled" s_scaled f fd) (nl : NoAttr K HC "own_land") (nde : NoAttr K HC "own_deeds") (nn : NoAttr K LC "names") (nb : NoAttr K LC "bound") (h1 : Kn P w K mg base T "is_positive" 2 (pred isPos)) (h2 : Kn P w K mg base T "scaled_deed" 2 scdN)
    (hL : KnC P w K mg base T "Land" LC 8 (lanN LC)) (hH : KnC P w K mg base T "History" HC 7 (hisN HC LC)) : FnOk P w K mg base (L2.CX P w) 10 f fd ["history", "pieces", "days"] (spD K T (scaN HC LC)) := by
  refine okD F sc_scaled (fun ds g C h => by obtain ⟨ns, most, dl, ss, ss', s, t, rfl, _⟩ := h; rfl) (fun cdv A outer s0 H E An ds g C hr tk h => ?_)
  obtain ⟨ns, most, dl, ss, ss', s, t, rfl, hs, hs2, ht, ht2, hm, okn, okds, hd16, hh, h⟩ := h
  have nd := sc_scaled.nd
  show DSs _ T An ⟨[.dat (histD HC LC ns most dl ss), .dat (.int s), .dat (.int t), .non, .non, .non], [], An.ws, g⟩ _ _
  refine dss_cons (ds_for (passes_of rfl) rfl (di_seq (de_tup (da_cons (de_name ?_)))))
  walk_at "go"
  refine ⟨by show 2 ≤ sizeLine; decide, [.int s, .int t], rfl, fun i ρ => ∃ s3 : Sl, ρ = ⟨[.dat (histD HC LC ns most dl ss), .dat (.int s), .dat (.int t), s3, .non, .non], [], An.ws, g⟩, ⟨.non, rfl⟩, fun i dy ρ2 ei hI => ?_, fun ρ2 hI => ?_⟩
  · obtain ⟨s3, rfl⟩ := hI
    obtain ⟨k, rfl, hk⟩ : ∃ k, dy = .int k ∧ 1 ≤ k := by
      rcases i with _ | _ | i
      · cases ei; exact ⟨s, rfl, hs⟩
      · cases ei; exact ⟨t, rfl, ht⟩
      · cases ei
    refine ⟨[3], ?_⟩
    walk_at "gg"
    refine dss_cons (ds_if (dt_not (dt_tru (de_dv (dv_call h1 (hr.mono (by decide)) tkF (da_cons (de_name ?_)))))))
    walk_at "n"
    refine da_nil ⟨.int k, rfl, rfl, ?_⟩
    have ep : isPos (.int k) = true := decide_eq_true hk
    rw [ep]
    walk_at "n"
    refine ⟨true, rfl, fun z => (by cases z), fun _ => ?_⟩
    exact dss_nil (dss_nil ⟨.dat (.int k), rfl⟩)
  · obtain ⟨s3, rfl⟩ := hI
    refine dss_cons (ds_set nd (dv_make hL (hr.mono (by decide)) tkF (da_cons (de_fld nn (de_fld nl (de_name ?_))))))
    walk_at "n"
    refine ⟨_, _, rfl, rfl, ?_⟩
    refine ⟨_, _, rfl, rfl, ?_⟩
    refine da_cons (de_mul (de_fld nb (de_fld nl (de_name ?_))))
    walk_at "n"
    refine ⟨_, _, rfl, rfl, ?_⟩
    refine ⟨_, _, rfl, rfl, ?_⟩
    walk_at "go"
    refine ⟨.inr ⟨by omega, hs2⟩, da_nil ?_⟩
    refine ⟨ns, .tup (txts ns), most * s, rfl, .inr rfl, okn, pos_mul hm hs, ?_⟩
    walk_at "n"
    refine dss_cons (ds_ret (dv_make hH (hr.mono (by decide)) tkF (da_cons (de_name ?_))))
    walk_at "n"
    refine da_cons (de_dv (dv_lc rfl nd (blkOk_by (own := [("deed", 5)]) (by kernel_rfl)) (di_seq (de_fld nde (de_name ?_)))))
    walk_at "n"
    refine ⟨_, _, rfl, rfl, ?_⟩
    refine ⟨_, rfl, lcd_fm (sclF s t) rfl (by rw [List.length_map, sizeLine_eq]; omega) (fun i y acc D0 ey => ?_) fun a => ?_⟩
    · rw [List.getElem?_map] at ey
      obtain ⟨d, ed, rfl⟩ := Option.map_eq_some_iff.mp ey
      walk_at "blk"
      walk_at "gg"
      walk_at "blk"
      refine dts_nil ⟨fun _ => ?_, fun z => (by cases z)⟩
      walk_at "blk"
      refine de_dv (dv_call h2 (hr.mono (by decide)) tkF (da_cons (de_name ?_)))
      walk_at "go"
      refine ⟨ns, d, s, t, rfl, okn, okds d (List.mem_of_getElem? ed), hs, hs2, ht, ht2, ?_⟩
      exact ⟨sclF_ok s t d, rfl, rfl, rfl⟩
    · rw [sclF_all]
      refine da_nil ⟨ns, most * s, dl.map (Deed.scale s t), ss', _, rfl, fits_map okn hh.ok, okn, hh, ?_⟩
      exact ⟨.inl rfl, h⟩
end
end K70
end

section
namespace DL
open PySem L2
def intsL (x : List Int) : List D := x.map D.int
def lrowsK (ns : List Str) (R : LRows) : List (Key × D) := ns.map fun n => (.inr n, .lst (intsL (R n)))
theorem ints_len (x : List Int) : (intsL x).length = x.length := List.length_map _
theorem look_lrows {ns : List Str} {R : LRows} {a : Str} (h : a ∈ ns) : lookD (lrowsK ns R) (.inr a) = some (.lst (intsL (R a))) := by
  unfold lookD lrowsK
  induction ns with
  | nil => cases h
  | cons n ns ih =>
    rw [List.map_cons, List.find?_cons]
    by_cases e : n = a
    · subst e
      rw [decide_eq_true rfl]
      rfl
    · rw [decide_eq_false (fun z => e (Sum.inr.inj z))]
      rcases List.mem_cons.mp h with h | h
      · exact absurd h.symm e
      · exact ih h
theorem put_lrows {ns : List Str} {R : LRows} {a : Str} (h : a ∈ ns) (x : List Int) : putD (lrowsK ns R) (.inr a) (.lst (intsL x)) = lrowsK ns (upL R a x) := by
  have hp : ((lrowsK ns R).any fun kv => decide (kv.1 = (.inr a : Key))) = true := List.any_eq_true.mpr ⟨(.inr a, .lst (intsL (R a))), List.mem_map.mpr ⟨a, h, rfl⟩, decide_eq_true rfl⟩
  unfold putD
  rw [if_pos hp]
  show (ns.map fun n => ((.inr n : Key), D.lst (intsL (R n)))).map (fun kv => if kv.1 = Sum.inr a then (kv.1, D.lst (intsL x)) else kv) = ns.map fun n => ((.inr n : Key), D.lst (intsL (upL R a x n)))
  rw [List.map_map]
  refine List.map_congr_left fun n _ => ?_
  show (if (Sum.inr n : Key) = Sum.inr a then ((.inr n : Key), D.lst (intsL x)) else ((.inr n : Key), D.lst (intsL (R n)))) = _
  unfold upL
  by_cases e : n = a
  · rw [if_pos (by rw [e]), if_pos e]
  · rw [if_neg (fun z => e (Sum.inr.inj z)), if_neg e]
theorem ints_py : ∀ r : List Int, ∃ ps, toPys (intsL r) = some ps ∧ PyData.canLayAll0 ps = true ∧ PyData.depthAll ps ≤ 60
  | [] => ⟨[], rfl, rfl, by decide⟩
  | a :: r => by
    obtain ⟨ps, h1, h2, h3⟩ := ints_py r
    refine ⟨.int a :: ps, ?_, ?_, ?_⟩
    · show toPys (.int a :: intsL r) = _
      rw [toPys, h1]
      rfl
    · rw [PyData.canLayAll0, h2]
      rfl
    · rw [PyData.depthAll]
      have : PyData.depth (.int a) = 0 := rfl
      omega
theorem eqP_ints (r : List Int) : eqP (.lst (intsL r)) (.lst []) = some (decide (r = [])) := by
  obtain ⟨ps, h1, h2, h3⟩ := ints_py r
  rw [eqP_empty h1 h2 h3]
  cases r <;> rfl
theorem pairs_lrows (ns : List Str) (R : LRows) : pairsD (ns.map fun n => D.tup [.str n, .lst (intsL (R n))]) = some (lrowsK ns R) := by
  induction ns with
  | nil => rfl
  | cons n ns ih =>
    rw [List.map_cons, pairsD, ih]
    rfl
theorem merge_lrows {ns : List Str} (nd : ns.Nodup) (R : LRows) : mergeD [] (lrowsK ns R) = lrowsK ns R := by
  rw [merge_new _ [] _ (fun k hk z => by cases z)]
  · rfl
  · unfold lrowsK
    rw [List.map_map]
    exact List.pairwise_map.mpr (nd.imp fun h z => h (Sum.inr.inj z))
theorem keys_lrows (ns : List Str) (R : LRows) : (lrowsK ns R).map (fun kv => kD kv.1) = txts ns := by
  unfold lrowsK txts
  rw [List.map_map]
  rfl
theorem ints_range (m k : Int) : rngD (m + 1) k.toNat = intsL (rangeL m k) := by
  unfold rngD rangeL intsL
  rw [List.map_map]
  rfl
theorem ints_app (x y : List Int) : intsL (x ++ y) = intsL x ++ intsL y := List.map_append
theorem range_len (m k : Int) : (rangeL m k).length = k.toNat := by unfold rangeL; rw [List.length_map, List.length_range]
def lenF (R : LRows) (x : D) : List D := match x with
  | .str n => [.int (lenL (R n))]
  | _ => []
theorem lens_tot (ns : List Str) (R : LRows) : (txts ns).flatMap (lenF R) = (ns.map fun n => lenL (R n)).map D.int := by
  unfold txts
  rw [List.flatMap_map, List.map_map]
  exact (List.map_eq_flatMap).symm
theorem cut_take {x : List Int} {k : Int} (h : 0 ≤ k) : cutD (intsL x) none (some k) = intsL (x.take k.toNat) := by
  obtain ⟨j, rfl⟩ := Int.eq_ofNat_of_zero_le h
  unfold cutD
  rw [HT.sIx_nat, HT.sIx_none, Nat.sub_zero, List.drop_zero, Int.toNat_natCast]
  unfold intsL
  rw [List.map_take]
  by_cases z : j ≤ (List.map D.int x).length
  · rw [Nat.min_eq_left z]
  · rw [Nat.min_eq_right (by omega), List.take_of_length_le (Nat.le_refl _), List.take_of_length_le (by omega)]
theorem cut_drop {x : List Int} {k : Int} (h : 0 ≤ k) : cutD (intsL x) (some k) none = intsL (x.drop k.toNat) := by
  obtain ⟨j, rfl⟩ := Int.eq_ofNat_of_zero_le h
  unfold cutD
  rw [HT.sIx_nat, HT.sIx_none, Int.toNat_natCast]
  unfold intsL
  rw [List.map_drop]
  by_cases z : j ≤ (List.map D.int x).length
  · rw [Nat.min_eq_left z, List.take_of_length_le (by rw [List.length_drop]; omega)]
  · rw [Nat.min_eq_right (by omega), Nat.sub_self, List.take_zero, List.drop_eq_nil_of_le (by omega)]
theorem eqP_word2 (d : Deed) : eqP (.str d.word) (.str "end") = some (d.word == "end") ∧ eqP (.str d.word) (.str "move") = some (d.word == "move") ∧ eqP (.str d.word) (.str "cut") = some (d.word == "cut") ∧ eqP (.str d.word) (.str "swap") = some (d.word == "swap") ∧ eqP (.str d.word) (.str "drop") = some (d.word == "drop") := by
  cases d <;> exact ⟨by kernel_rfl, by kernel_rfl, by kernel_rfl, by kernel_rfl, by kernel_rfl⟩
theorem put_nil {ns : List Str} {R : LRows} {a : Str} (h : a ∈ ns) : putD (lrowsK ns R) (.inr a) (.lst []) = lrowsK ns (upL R a []) := put_lrows h []
/-- the last item of a deed -/
def Deed.last : Deed → D
  | .make _ k => .int k | .grow _ k => .int k | .move _ b => .str b | .swap _ b => .str b | .cut _ _ b => .str b
  | .split _ _ _ c => .str c | .pour _ b => .str b | .drop _ _ k => .int k | .fin a => .str a | .wait k => .int k
theorem last_at (d : Deed) : atI d.items (-1) = some d.last := by cases d <;> rfl
theorem isSP_of {ns : List Str} {d : Deed} {a : Str} {rest : List D} (ha : d.parts = .str a :: rest) (okd : d.ok ns) (h : d.isSP = true) : ∃ b, rest = [.str b] ∧ b ∈ ns ∧ a ≠ b ∧ d.last = .str b ∧ (d = .swap a b ∨ d = .pour a b) := by
  cases d with
  | swap c b => cases ha; exact ⟨b, rfl, okd.2.1, okd.2.2, rfl, .inl rfl⟩
  | pour c b => cases ha; exact ⟨b, rfl, okd.2.1, okd.2.2, rfl, .inr rfl⟩
  | _ => cases h
theorem isMove_of {ns : List Str} {d : Deed} {a : Str} {rest : List D} (ha : d.parts = .str a :: rest) (okd : d.ok ns) (h : (d.word == ("move" : Str)) = true) : ∃ b, rest = [.str b] ∧ b ∈ ns ∧ a ≠ b ∧ d.last = .str b ∧ d = .move a b := by
  cases d with
  | move c b => cases ha; exact ⟨b, rfl, okd.2.1, okd.2.2, rfl, rfl⟩
  | _ => exact absurd h (by rw [Bool.not_eq_true]; kernel_rfl)
theorem isCut_of {ns : List Str} {d : Deed} {a : Str} {rest : List D} (ha : d.parts = .str a :: rest) (okd : d.ok ns) (h : (d.word == ("cut" : Str)) = true) : ∃ k b, rest = [.int k, .str b] ∧ b ∈ ns ∧ a ≠ b ∧ d.last = .str b ∧ d = .cut a k b := by
  cases d with
  | cut c k b => cases ha; exact ⟨k, b, rfl, okd.2.1, okd.2.2.1, rfl, rfl⟩
  | _ => exact absurd h (by rw [Bool.not_eq_true]; kernel_rfl)
theorem isSplit_of {ns : List Str} {d : Deed} {a : Str} {rest : List D} (ha : d.parts = .str a :: rest) (okd : d.ok ns) (h2 : d.isMG = false) (h3 : (d.word == ("end" : Str)) = false) (h4 : (d.word == ("drop" : Str)) = false) (h5 : d.isSP = false) (h6 : (d.word == ("move" : Str)) = false) (h7 : (d.word == ("cut" : Str)) = false) :
    ∃ k b c, rest = [.int k, .str b, .str c] ∧ b ∈ ns ∧ c ∈ ns ∧ d.last = .str c ∧ d = .split a k b c := by
  cases d with
  | make b k => cases h2
  | grow b k => cases h2
  | wait k => cases ha
  | drop b i k => exact absurd h4 (by rw [Bool.not_eq_false]; kernel_rfl)
  | fin b => exact absurd h3 (by rw [Bool.not_eq_false]; kernel_rfl)
  | move b c => exact absurd h6 (by rw [Bool.not_eq_false]; kernel_rfl)
  | swap b c => cases h5
  | pour b c => cases h5
  | cut b k c => exact absurd h7 (by rw [Bool.not_eq_false]; kernel_rfl)
  | split x k b c => cases ha; exact ⟨k, b, c, rfl, okd.2.1, okd.2.2.1, rfl, rfl⟩
theorem doneL_none {ns : List Str} {most : Int} {R : LRows} {made : Int} {d : Deed} {a : Str} {rest : List D} (ha : d.parts = .str a :: rest) (h : ¬ (R a = [] ↔ d.word = "make")) : doneL ns most R made d = none := by
  cases d with
  | wait k => cases ha
  | make b k =>
    cases ha
    exact if_neg fun z => h ⟨fun _ => rfl, fun _ => z⟩
  | _ =>
    cases ha
    exact if_pos (Classical.byContradiction fun z => h ⟨fun q => absurd q z, fun q => absurd q (word_not rfl)⟩)
/-- the numbers of a deed are small -/
def Deed.small : Deed → Prop
  | .make _ k => k ≤ 1000
  | .grow _ k => k ≤ 1000
  | .cut _ k _ => k ≤ 1000
  | .split _ k _ _ => k ≤ 1000
  | .drop _ i k => i ≤ 1000 ∧ k ≤ 1000
  | .wait k => k ≤ 1000
  | _ => True
end DL
end

section
open PySem L2 DL
namespace K70
section
variable {P : Program} {w : World} {K : PySem.W.Frag} {mg : Str → Option Value} {base : Heap} {T : List (Addr × Str)}
def lhdO (ns : List Str) (g : Nat) : Option (LRows × Int) → Out
  | none => .ret .non g
  | some (R, m) => .ret (.tup [.dK (lrowsK ns R), .int m]) g
/-- _law_h_done -/
def lhdN : DF := fun ds g C => ∃ (ns : List Str) (most : Int) (R : LRows) (made : Int) (d : Deed), ds = [.dK (lrowsK ns R), .int most, .int made, .tup d.items] ∧ okNames ns ∧ d.ok ns ∧ d.small ∧ 0 ≤ made ∧ made ≤ 100000 ∧ (∀ n, (R n).length ≤ 10000) ∧ C (lhdO ns g (doneL ns most R made d))
theorem ok_law_h_done (B : Bi mg) {f : Addr} {fd : FuncData} (F : Fun K "_law_h_done" "_law_h_done" s__law_h_done f fd) : FnOk P w K mg base (L2.CX P w) 1 f fd ["rows", "most", "made", "deed"] (spD K T lhdN) := by
  refine okD F sc__law_h_done (fun ds g C h => by obtain ⟨ns, most, R, made, d, rfl, _⟩ := h; rfl) (fun cdv A outer s H E An ds g C hr tk h => ?_)
  obtain ⟨ns, most, R, made, d, rfl, okn, okd, hsm, hm0, hm1, hlen, h⟩ := h
  have nd := sc__law_h_done.nd
  have hfew := okn.few
  have ilen : d.items.length ≤ 5 := by cases d <;> simp [Deed.items, Deed.parts]
  show DSs _ T An ⟨[.dat (.dK (lrowsK ns R)), .dat (.int most), .dat (.int made), .dat (.tup d.items), .non, .non, .non, .non, .non], [], An.ws, g⟩ _ _
  refine dss_cons (ds_parC rfl nd (dv_de (de_ix (de_name ?_))))
  walk_at "go"
  refine ixD_seq (j := 0) rfl rfl rfl ?_
  refine dv_dictP rfl B.dict (da_cons (de_dv (dv_lc rfl nd (blkOk_by (own := [("name", 4)]) (by kernel_rfl)) (di_keys (de_name ?_)))))
  walk_at "n"
  refine ⟨_, rfl, ?_⟩
  rw [keys_lrows]
  refine lcd_fm (fun x => match x with | .str n => [.tup [.str n, .lst (intsL (R n))]] | _ => []) rfl (by unfold txts; rw [List.length_map, sizeLine_eq]; omega) (fun i y acc D0 ey => ?_) fun a => ?_
  · unfold txts at ey
    rw [List.getElem?_map] at ey
    obtain ⟨n, en, rfl⟩ := Option.map_eq_some_iff.mp ey
    have hn : n ∈ ns := List.mem_of_getElem? en
    walk_at "blk"
    walk_at "gg"
    walk_at "blk"
    refine dts_nil ⟨fun _ => ?_, fun z => (by cases z)⟩
    walk_at "blk"
    refine de_tup (da_cons (de_name ?_))
    walk_at "n"
    refine da_cons (de_dv (dv_lst B.list (da_cons (de_ixK hr.units (de_name ?_)))))
    walk_at "go"
    refine ⟨_, _, rfl, look_lrows hn, ?_⟩
    refine da_nil ⟨_, rfl, fun a3 => da_nil ⟨by show 2 ≤ sizeLine; decide, ?_⟩⟩
    exact ⟨rfl, rfl, rfl, rfl⟩
  · have e1 : (txts ns).flatMap (fun x => match x with | .str n => [D.tup [.str n, .lst (intsL (R n))]] | _ => []) = ns.map fun n => D.tup [.str n, .lst (intsL (R n))] := by
      unfold txts
      rw [List.flatMap_map]
      exact (List.map_eq_flatMap).symm
    rw [e1]
    refine da_nil ⟨_, _, rfl, pairs_lrows ns R, fun ab => ?_⟩
    rw [merge_lrows okn.nd]
    refine ⟨_, rfl, rfl, ?_⟩
    show DSs _ T An ⟨[.dat (.dK (lrowsK ns R)), .dat (.int most), .dat (.int made), .dat (.tup d.items), .non, .dat (.str d.word), .box ab (.dK (lrowsK ns R)), .non, .non], [], An.ws, g⟩ _ _
    refine dss_cons (ds_if (dt_eq hr.units (de_name ?_)))
    walk_at "go"
    refine ⟨_, (eqP_word d).1, fun e => ?_, fun e => ?_⟩
    · cases d with
      | wait k =>
        walk_at "go"
        exact ⟨by show 2 ≤ sizeLine; decide, .inl rfl, h⟩
      | _ => exact absurd e (by rw [Bool.not_eq_true]; kernel_rfl)
    refine dss_nil ?_
    obtain ⟨one, rest, ha, hm⟩ : ∃ a rest, d.parts = .str a :: rest ∧ a ∈ ns := by
      cases d with
      | wait k => exact absurd e (by rw [Bool.not_eq_false]; kernel_rfl)
      | _ => first | exact ⟨_, _, rfl, okd.1⟩ | exact ⟨_, _, rfl, okd⟩
    refine dss_cons (ds_par rfl nd (dv_de (de_ix (de_name ?_))))
    walk_at "go"
    have eit : d.items = .str d.word :: .str one :: rest := by unfold Deed.items; rw [ha]
    refine ixD_seq (j := 1) rfl (by rw [eit]; rfl) rfl ?_
    refine ⟨_, rfl, ?_⟩
    walk_at "go"
    refine ⟨_, _, rfl, last_at d, ?_⟩
    show DSs _ T An ⟨[.dat (.dK (lrowsK ns R)), .dat (.int most), .dat (.int made), .dat (.tup d.items), .non, .dat (.str d.word), .box ab (.dK (lrowsK ns R)), .dat (.str one), .dat d.last], [], An.ws, g⟩ _ _
    refine dss_cons (ds_if (dt_ne hr.units (de_eq hr.units (de_ixBox hr.units ?_ (de_name ?_)))))
    · exact trivial
    walk_at "n"
    refine ⟨_, _, rfl, look_lrows hm, ?_⟩
    refine de_dv (dv_list (da_nil ⟨by show 0 ≤ sizeLine; decide, fun p1 => ?_⟩))
    refine ⟨_, eqP_ints (R one), ?_⟩
    refine de_eq hr.units (de_name ?_)
    walk_at "go"
    refine ⟨_, (eqP_word d).2.1, ?_⟩
    refine ⟨decide (R one = []) == (d.word == "make"), by cases decide (R one = []) <;> cases (d.word == ("make" : Str)) <;> rfl, fun e1 => ?_, fun e1 => ?_⟩
    · walk_at "go"
      have hnone : doneL ns most R made d = none := doneL_none ha fun z => by
        by_cases e2 : R one = []
        · have e3 := z.mp e2
          rw [e2, e3] at e1
          simp at e1
        · have e3 : (d.word == ("make" : Str)) = false := by
            rw [beq_eq_false_iff_ne]
            exact fun q => e2 (z.mpr q)
          rw [decide_eq_false e2, e3] at e1
          cases e1
      rw [hnone] at h
      exact ⟨.inl rfl, h⟩
    refine dss_nil ?_
    have hiff : R one = [] ↔ d.word = "make" := by
      have e2 : decide (R one = []) = (d.word == ("make" : Str)) := by simpa using e1
      constructor
      · intro z
        rw [decide_eq_true z] at e2
        exact eq_of_beq e2.symm
      · intro z
        rw [z] at e2
        exact of_decide_eq_true (by rw [e2]; simp)
    have il : ∀ x : List Int, (intsL x).length = x.length := ints_len
    have hl1 := hlen one
    have lk : ∀ R' : LRows, (lrowsK ns R').length ≤ 100 := fun R' => by unfold lrowsK; rw [List.length_map]; exact hfew
    refine dss_cons (ds_if (dt_inS (de_name ?_)))
    walk_at "go"
    refine ⟨by show 2 ≤ sizeLine; decide, ?_⟩
    refine ⟨_, rfl, rfl, rfl, ?_⟩
    rw [if_neg (by decide), any_MG]
    refine ⟨fun e2 => ?_, fun e2 => ?_⟩
    · obtain ⟨k, rfl, hdk⟩ := isMG_of ha e2
      have hk : 0 ≤ k ∧ k ≤ 1000 := by
        rcases hdk with rfl | rfl
        · have := okd.2; have hs : k ≤ 1000 := hsm; omega
        · have := okd.2; have hs : k ≤ 1000 := hsm; omega
      have hres : doneL ns most R made d = if totL ns (upL R one (R one ++ rangeL made k)) ≤ most then some (upL R one (R one ++ rangeL made k), made + k) else none := by
        rcases hdk with rfl | rfl
        · exact if_pos (hiff.mpr rfl)
        · exact if_neg fun z => absurd (hiff.mp z) (word_not rfl)
      rw [hres] at h
      rw [eit]
      refine dss_cons (ds_unp (de_tup (da_cons (de_add (de_ixBox hr.units ?_ (de_name ?_))))))
      · exact trivial
      walk_at "n"
      refine ⟨_, _, rfl, look_lrows hm, ?_⟩
      refine de_dv (dv_lstRg2 rfl B.list B.range ?_)
      walk_at "go"
      refine ixD_seq (j := 2) rfl rfl rfl ?_
      walk_at "go"
      refine ⟨made + 1, k.toNat, rfl, by rw [show made + k + 1 = made + 1 + (k.toNat : Int) by omega], by omega, by omega, fun a1 => ⟨?_, ?_⟩⟩
      · rw [ints_range, il, il, range_len, sizeLine_eq]; omega
      rw [ints_range, ← ints_app]
      refine da_cons (de_add (de_name ?_))
      walk_at "go"
      refine ixD_seq (j := 2) rfl rfl rfl ?_
      refine da_nil ⟨by show 2 ≤ sizeLine; decide, [2], ?_⟩
      refine dg_tup rfl (And.intro (by rfl) ?_)
      refine dgs_cons ?_
      refine dg_ownK hr.units ?_ ?_
      · exact trivial
      refine de_name ?_
      walk_at "n"
      refine ⟨_, rfl, by rw [sizeLine_eq]; have := lk R; omega, ?_⟩
      rw [put_lrows hm]
      refine dgs_cons (dg_nm nd ?_)
      refine dgs_nil ?_
      generalize hR : upL R one (R one ++ rangeL made k) = R' at h ⊢
      refine dss_cons (ds_ret (dv_if (dt_le (de_dv (dv_sum rfl B.sum (da_cons (de_dv (dv_lc rfl nd (blkOk_by (own := [("name", 4)]) (by kernel_rfl)) (di_keys (de_name ?_))))))))))
      walk_at "n"
      refine ⟨_, rfl, ?_⟩
      rw [show (Con.dK (lrowsK ns R')).toD = D.dK (lrowsK ns R') from rfl, keys_lrows]
      refine lcd_fm (lenF R') rfl (by unfold txts; rw [List.length_map, sizeLine_eq]; omega) (fun i y acc D0 ey => ?_) fun a => ?_
      · unfold txts at ey
        rw [List.getElem?_map] at ey
        obtain ⟨n, en, rfl⟩ := Option.map_eq_some_iff.mp ey
        have hn : n ∈ ns := List.mem_of_getElem? en
        walk_at "blk"
        walk_at "gg"
        walk_at "blk"
        refine dts_nil ⟨fun _ => ?_, fun z => (by cases z)⟩
        walk_at "blk"
        refine de_dv (dv_len B.len (da_cons (de_ixK hr.units (de_name ?_))))
        walk_at "go"
        refine ⟨_, _, rfl, look_lrows hn, ?_⟩
        refine da_nil ?_
        refine lenD_seq rfl ?_
        rw [il]
        exact ⟨rfl, rfl, rfl, rfl⟩
      · rw [lens_tot]
        refine da_nil ⟨_, rfl, ?_⟩
        walk_at "go"
        refine ⟨fun e3 => ?_, fun e3 => ?_⟩
        · have e4 : totL ns R' ≤ most := of_decide_eq_true e3
          rw [if_pos e4] at h
          walk_at "go"
          exact ⟨by show 2 ≤ sizeLine; decide, .inl rfl, h⟩
        · have e4 : ¬ totL ns R' ≤ most := of_decide_eq_false e3
          rw [if_neg e4] at h
          walk_at "go"
          exact ⟨.inl rfl, h⟩
    · refine dss_nil ?_
      have hne : R one ≠ [] := fun z => by
        have hw := hiff.mp z
        cases d with
        | make b k => cases e2
        | _ => exact absurd hw (word_not rfl)
      refine dss_cons (ds_imp (O1 := {
        nx := fun ρ' => ∃ R' : LRows, doneL ns most R made d = some (R', made) ∧ ρ' = ⟨[.dat (.dK (lrowsK ns R)), .dat (.int most), .dat (.int made), .dat (.tup d.items), .non, .dat (.str d.word), .box ab (.dK (lrowsK ns R')), .dat (.str one), .dat d.last], [], An.ws, g⟩
        rt := fun r ρ' => r = .v .non ∧ ρ'.ws = An.ws ∧ ρ'.g = g ∧ doneL ns most R made d = none }) ?_ (fun ρ' hn => ?_) (fun r ρ' hn => ?_) (fun ρ' hn => hn.elim) (fun ρ' hn => hn.elim))
      rotate_left
      · obtain ⟨R', hd, rfl⟩ := hn
        rw [hd] at h
        refine dss_cons (ds_ret (dv_de (de_tup (da_cons (de_name ?_)))))
        walk_at "go"
        exact ⟨by show 2 ≤ sizeLine; decide, .inl rfl, h⟩
      · obtain ⟨rfl, hw, hg, hd⟩ := hn
        rw [hd, ← hg] at h
        exact ⟨.inl hw, h⟩
      clear h
      refine ds_if (dt_eq hr.units (de_name ?_))
      walk_at "go"
      refine ⟨_, (eqP_word2 d).1, fun e3 => ?_, fun e3 => ?_⟩
      · obtain ⟨rfl, rfl⟩ := isEnd_of ha e3
        refine dss_cons (ds_unp (de_dv (dv_list (da_nil ⟨by show 0 ≤ sizeLine; decide, fun p2 => ⟨[], ?_⟩⟩))))
        refine dg_ownK hr.units ?_ (de_name ?_)
        · exact trivial
        walk_at "n"
        refine ⟨_, rfl, by rw [sizeLine_eq]; have := lk R; omega, ?_⟩
        rw [put_nil hm]
        exact dss_nil ⟨_, if_neg hne, rfl⟩
      refine dss_cons (ds_if (dt_eq hr.units (de_name ?_)))
      walk_at "go"
      refine ⟨_, (eqP_word2 d).2.2.2.2, fun e4 => ?_, fun e4 => ?_⟩
      · obtain ⟨i, k, rfl, rfl⟩ := isDrop_of ha e4
        obtain ⟨hs1, hs2⟩ : i ≤ 1000 ∧ k ≤ 1000 := hsm
        obtain ⟨_, hi0, hk0⟩ := okd
        have hres : doneL ns most R made (.drop one i k) = if lenL (R one) < i + k then none else some (upL R one ((R one).take i.toNat ++ (R one).drop (i + k).toNat), made) := if_neg hne
        refine dss_cons (ds_if (dt_lt (de_dv (dv_len B.len (da_cons (de_ixBox hr.units ?_ (de_name ?_)))))))
        · exact trivial
        walk_at "n"
        refine ⟨_, _, rfl, look_lrows hm, ?_⟩
        refine da_nil ?_
        refine lenD_seq rfl ?_
        rw [il]
        walk_at "go"
        refine ixD_seq (j := 2) rfl rfl rfl ?_
        walk_at "go"
        refine ixD_seq (j := 3) rfl rfl rfl ?_
        walk_at "n"
        refine ⟨fun e5 => ?_, fun e5 => ?_⟩
        · walk_at "go"
          exact ⟨rfl, rfl, rfl, hres.trans (if_pos (of_decide_eq_true e5))⟩
        · refine dss_nil (dss_cons (ds_unp (de_add (de_dv (dv_slice (de_ixBox hr.units ?_ (de_name ?_)))))))
          · exact trivial
          walk_at "n"
          refine ⟨_, _, rfl, look_lrows hm, ?_⟩
          walk_at "go"
          refine ixD_seq (j := 2) rfl rfl rfl ?_
          walk_at "go"
          refine ⟨_, rfl, fun a1 => ?_⟩
          rw [cut_take hi0]
          refine de_dv (dv_slice (de_ixBox hr.units ?_ (de_name ?_)))
          · exact trivial
          walk_at "n"
          refine ⟨_, _, rfl, look_lrows hm, ?_⟩
          walk_at "go"
          refine ixD_seq (j := 2) rfl rfl rfl ?_
          walk_at "go"
          refine ixD_seq (j := 3) rfl rfl rfl ?_
          walk_at "go"
          refine ⟨_, rfl, fun a2 => ?_⟩
          rw [cut_drop (by omega)]
          walk_at "n"
          rw [← ints_app]
          refine ⟨by rw [il, il, List.length_take, List.length_drop, sizeLine_eq]; omega, [], ?_⟩
          refine dg_ownK hr.units ?_ (de_name ?_)
          · exact trivial
          walk_at "n"
          refine ⟨_, rfl, by rw [sizeLine_eq]; have := lk R; omega, ?_⟩
          rw [put_lrows hm]
          exact dss_nil (dss_nil ⟨_, hres.trans (if_neg (of_decide_eq_false e5)), rfl⟩)
      · refine dss_cons (ds_if (dt_inS (de_name ?_)))
        walk_at "go"
        refine ⟨by show 2 ≤ sizeLine; decide, ?_⟩
        refine ⟨_, rfl, rfl, rfl, ?_⟩
        rw [if_neg (by decide), any_SP]
        refine ⟨fun e5 => ?_, fun e5 => ?_⟩
        · obtain ⟨b, rfl, hb, hab, hla, hdk⟩ := isSP_of ha okd e5
          have hlb := hlen b
          rw [hla]
          refine dss_cons (ds_if (dt_eq hr.units (de_ixBox hr.units ?_ (de_name ?_))))
          · exact trivial
          walk_at "n"
          refine ⟨_, _, rfl, look_lrows hb, ?_⟩
          refine de_dv (dv_list (da_nil ⟨by show 0 ≤ sizeLine; decide, fun p2 => ?_⟩))
          refine ⟨_, eqP_ints (R b), fun z => ?_, fun z => ?_⟩
          · have zb : R b = [] := of_decide_eq_true z
            walk_at "go"
            refine ⟨rfl, rfl, rfl, ?_⟩
            rcases hdk with rfl | rfl
            · exact (if_neg hne).trans (if_pos zb)
            · exact (if_neg hne).trans (if_pos zb)
          have zb : ¬ R b = [] := of_decide_eq_false z
          refine dss_nil (dss_cons (ds_unp (de_if (dt_eq hr.units (de_name ?_)))))
          walk_at "go"
          rcases hdk with rfl | rfl
          · refine ⟨true, by kernel_rfl, fun _ => ?_, fun z => (by cases z)⟩
            refine de_tup (da_cons (de_ixBox hr.units ?_ (de_name ?_)))
            · exact trivial
            walk_at "n"
            refine ⟨_, _, rfl, look_lrows hb, ?_⟩
            refine da_cons (de_ixBox hr.units ?_ (de_name ?_))
            · exact trivial
            walk_at "n"
            refine ⟨_, _, rfl, look_lrows hm, ?_⟩
            refine da_nil ⟨by show 2 ≤ sizeLine; decide, [], ?_⟩
            refine dg_tup rfl (And.intro (by rfl) ?_)
            refine dgs_cons ?_
            refine dg_ownK hr.units ?_ (de_name ?_)
            · exact trivial
            walk_at "n"
            refine ⟨_, rfl, by rw [sizeLine_eq]; have := lk R; omega, ?_⟩
            rw [put_lrows hm]
            refine dgs_cons ?_
            refine dg_ownK hr.units ?_ (de_name ?_)
            · exact trivial
            walk_at "n"
            refine ⟨_, rfl, by rw [sizeLine_eq]; have := lk (upL R one (R b)); omega, ?_⟩
            rw [put_lrows hb]
            exact dgs_nil (dss_nil (dss_nil (dss_nil ⟨_, (if_neg hne).trans (if_neg zb), rfl⟩)))
          · refine ⟨false, by kernel_rfl, fun z => (by cases z), fun _ => ?_⟩
            refine de_tup (da_cons (de_dv (dv_list (da_nil ⟨by show 0 ≤ sizeLine; decide, fun p3 => ?_⟩))))
            refine da_cons (de_add (de_ixBox hr.units ?_ (de_name ?_)))
            · exact trivial
            walk_at "n"
            refine ⟨_, _, rfl, look_lrows hb, ?_⟩
            refine de_ixBox hr.units ?_ (de_name ?_)
            · exact trivial
            walk_at "n"
            refine ⟨_, _, rfl, look_lrows hm, ?_⟩
            walk_at "n"
            rw [← ints_app]
            refine ⟨by rw [il, il, sizeLine_eq]; omega, da_nil ⟨by show 2 ≤ sizeLine; decide, [], ?_⟩⟩
            refine dg_tup rfl (And.intro (by rfl) ?_)
            refine dgs_cons ?_
            refine dg_ownK hr.units ?_ (de_name ?_)
            · exact trivial
            walk_at "n"
            refine ⟨_, rfl, by rw [sizeLine_eq]; have := lk R; omega, ?_⟩
            rw [put_nil hm]
            refine dgs_cons ?_
            refine dg_ownK hr.units ?_ (de_name ?_)
            · exact trivial
            walk_at "n"
            refine ⟨_, rfl, by rw [sizeLine_eq]; have := lk (upL R one []); omega, ?_⟩
            rw [put_lrows hb]
            exact dgs_nil (dss_nil (dss_nil (dss_nil ⟨_, (if_neg hne).trans (if_neg zb), rfl⟩)))
        · refine dss_cons (ds_if (dt_eq hr.units (de_name ?_)))
          walk_at "go"
          refine ⟨_, (eqP_word2 d).2.1, fun e6 => ?_, fun e6 => ?_⟩
          · obtain ⟨b, rfl, hb, hab, hla, rfl⟩ := isMove_of ha okd e6
            have hlb := hlen b
            rw [hla]
            refine dss_cons (ds_if (dt_ne hr.units (de_ixBox hr.units ?_ (de_name ?_))))
            · exact trivial
            walk_at "n"
            refine ⟨_, _, rfl, look_lrows hb, ?_⟩
            refine de_dv (dv_list (da_nil ⟨by show 0 ≤ sizeLine; decide, fun p2 => ?_⟩))
            refine ⟨_, eqP_ints (R b), fun z => ?_, fun z => ?_⟩
            · have zb : ¬ R b = [] := by simpa using z
              walk_at "go"
              exact ⟨rfl, rfl, rfl, (if_neg hne).trans (if_neg zb)⟩
            have zb : R b = [] := by simpa using z
            refine dss_nil (dss_cons (ds_unp (de_tup (da_cons (de_dv (dv_list (da_nil ⟨by show 0 ≤ sizeLine; decide, fun p3 => ?_⟩)))))))
            refine da_cons (de_ixBox hr.units ?_ (de_name ?_))
            · exact trivial
            walk_at "n"
            refine ⟨_, _, rfl, look_lrows hm, ?_⟩
            refine da_nil ⟨by show 2 ≤ sizeLine; decide, [], ?_⟩
            refine dg_tup rfl (And.intro (by rfl) ?_)
            refine dgs_cons ?_
            refine dg_ownK hr.units ?_ (de_name ?_)
            · exact trivial
            walk_at "n"
            refine ⟨_, rfl, by rw [sizeLine_eq]; have := lk R; omega, ?_⟩
            rw [put_nil hm]
            refine dgs_cons ?_
            refine dg_ownK hr.units ?_ (de_name ?_)
            · exact trivial
            walk_at "n"
            refine ⟨_, rfl, by rw [sizeLine_eq]; have := lk (upL R one []); omega, ?_⟩
            rw [put_lrows hb]
            exact dgs_nil (dss_nil (dss_nil (dss_nil (dss_nil ⟨_, (if_neg hne).trans (if_pos zb), rfl⟩))))
          · refine dss_cons (ds_if (dt_eq hr.units (de_name ?_)))
            walk_at "go"
            refine ⟨_, (eqP_word2 d).2.2.1, fun e7 => ?_, fun e7 => ?_⟩
            · obtain ⟨k, b, rfl, hb, hab, hla, rfl⟩ := isCut_of ha okd e7
              have hlb := hlen b
              have hk1 : k ≤ 1000 := hsm
              have hk0 : 1 ≤ k := okd.2.2.2
              rw [hla]
              refine dss_cons (ds_if (dt_bool (dw_or (dt_ne hr.units (de_ixBox hr.units ?_ (de_name ?_))))))
              · exact trivial
              walk_at "n"
              refine ⟨_, _, rfl, look_lrows hb, ?_⟩
              refine de_dv (dv_list (da_nil ⟨by show 0 ≤ sizeLine; decide, fun p2 => ?_⟩))
              refine ⟨_, eqP_ints (R b), fun z => ?_, fun z => ?_⟩
              · have zb : ¬ R b = [] := by simpa using z
                refine ⟨fun _ => ?_, fun q => (by cases q)⟩
                walk_at "go"
                exact ⟨rfl, rfl, rfl, (if_neg hne).trans (if_neg zb)⟩
              have zb : R b = [] := by simpa using z
              have hres : doneL ns most R made (.cut one k b) = if lenL (R one) ≤ k then none else some (upL (upL R one ((R one).take k.toNat)) b ((R one).drop k.toNat), made) := (if_neg hne).trans (if_pos zb)
              refine dw_or1 (dt_le (de_dv (dv_len B.len (da_cons (de_ixBox hr.units ?_ (de_name ?_))))))
              · exact trivial
              walk_at "n"
              refine ⟨_, _, rfl, look_lrows hm, ?_⟩
              refine da_nil ?_
              refine lenD_seq rfl ?_
              rw [il]
              walk_at "go"
              refine ixD_seq (j := 2) rfl rfl rfl ?_
              walk_at "n"
              refine ⟨fun e8 => ?_, fun e8 => ?_⟩
              · walk_at "go"
                exact ⟨rfl, rfl, rfl, hres.trans (if_pos (of_decide_eq_true e8))⟩
              refine dss_nil (dss_cons (ds_unp (de_tup (da_cons (de_dv (dv_slice (de_ixBox hr.units ?_ (de_name ?_))))))))
              · exact trivial
              walk_at "n"
              refine ⟨_, _, rfl, look_lrows hm, ?_⟩
              walk_at "go"
              refine ixD_seq (j := 2) rfl rfl rfl ?_
              walk_at "go"
              refine ⟨_, rfl, fun a1 => ?_⟩
              rw [cut_take (by omega)]
              refine da_cons (de_dv (dv_slice (de_ixBox hr.units ?_ (de_name ?_))))
              · exact trivial
              walk_at "n"
              refine ⟨_, _, rfl, look_lrows hm, ?_⟩
              walk_at "go"
              refine ixD_seq (j := 2) rfl rfl rfl ?_
              walk_at "go"
              refine ⟨_, rfl, fun a2 => ?_⟩
              rw [cut_drop (by omega)]
              refine da_nil ⟨by show 2 ≤ sizeLine; decide, [], ?_⟩
              refine dg_tup rfl (And.intro (by rfl) ?_)
              refine dgs_cons ?_
              refine dg_ownK hr.units ?_ (de_name ?_)
              · exact trivial
              walk_at "n"
              refine ⟨_, rfl, by rw [sizeLine_eq]; have := lk R; omega, ?_⟩
              rw [put_lrows hm]
              refine dgs_cons ?_
              refine dg_ownK hr.units ?_ (de_name ?_)
              · exact trivial
              walk_at "n"
              refine ⟨_, rfl, by rw [sizeLine_eq]; have := lk (upL R one ((R one).take k.toNat)); omega, ?_⟩
              rw [put_lrows hb]
              exact dgs_nil (dss_nil (dss_nil (dss_nil (dss_nil (dss_nil ⟨_, hres.trans (if_neg (of_decide_eq_false e8)), rfl⟩)))))
            · obtain ⟨k, b, c, rfl, hb, hc, hla, rfl⟩ := isSplit_of ha okd e2 e3 e4 e5 e6 e7
              have hlb := hlen b
              have hlc := hlen c
              have hk1 : k ≤ 1000 := hsm
              have hk0 : 1 ≤ k := okd.2.2.2.2.2.2
              rw [hla]
              refine dss_cons (ds_if (dt_bool (dw_or (dt_ne hr.units (de_ixBox hr.units ?_ (de_ix (de_name ?_)))))))
              · exact trivial
              walk_at "go"
              refine ixD_seq (j := 3) rfl rfl rfl ?_
              refine ⟨_, _, rfl, look_lrows hb, ?_⟩
              refine de_dv (dv_list (da_nil ⟨by show 0 ≤ sizeLine; decide, fun p2 => ?_⟩))
              refine ⟨_, eqP_ints (R b), fun z => ?_, fun z => ?_⟩
              · have zb : ¬ R b = [] := by simpa using z
                refine ⟨fun _ => ?_, fun q => (by cases q)⟩
                walk_at "go"
                exact ⟨rfl, rfl, rfl, (if_neg hne).trans (if_neg fun q => zb q.1)⟩
              have zb : R b = [] := by simpa using z
              refine dw_or (dt_ne hr.units (de_ixBox hr.units ?_ (de_name ?_)))
              · exact trivial
              walk_at "n"
              refine ⟨_, _, rfl, look_lrows hc, ?_⟩
              refine de_dv (dv_list (da_nil ⟨by show 0 ≤ sizeLine; decide, fun p2 => ?_⟩))
              refine ⟨_, eqP_ints (R c), fun z => ?_, fun z => ?_⟩
              · have zc : ¬ R c = [] := by simpa using z
                refine ⟨fun _ => ?_, fun q => (by cases q)⟩
                walk_at "go"
                exact ⟨rfl, rfl, rfl, (if_neg hne).trans (if_neg fun q => zc q.2)⟩
              have zc : R c = [] := by simpa using z
              have hres : doneL ns most R made (.split one k b c) = if lenL (R one) ≤ k then none else some (upL (upL (upL R b ((R one).take k.toNat)) c ((R one).drop k.toNat)) one [], made) := (if_neg hne).trans (if_pos ⟨zb, zc⟩)
              refine dw_or1 (dt_le (de_dv (dv_len B.len (da_cons (de_ixBox hr.units ?_ (de_name ?_))))))
              · exact trivial
              walk_at "n"
              refine ⟨_, _, rfl, look_lrows hm, ?_⟩
              refine da_nil ?_
              refine lenD_seq rfl ?_
              rw [il]
              walk_at "go"
              refine ixD_seq (j := 2) rfl rfl rfl ?_
              walk_at "n"
              refine ⟨fun e8 => ?_, fun e8 => ?_⟩
              · walk_at "go"
                exact ⟨rfl, rfl, rfl, hres.trans (if_pos (of_decide_eq_true e8))⟩
              refine dss_nil (dss_cons (ds_unp (de_tup (da_cons (de_dv (dv_slice (de_ixBox hr.units ?_ (de_name ?_))))))))
              · exact trivial
              walk_at "n"
              refine ⟨_, _, rfl, look_lrows hm, ?_⟩
              walk_at "go"
              refine ixD_seq (j := 2) rfl rfl rfl ?_
              walk_at "go"
              refine ⟨_, rfl, fun a1 => ?_⟩
              rw [cut_take (by omega)]
              refine da_cons (de_dv (dv_slice (de_ixBox hr.units ?_ (de_name ?_))))
              · exact trivial
              walk_at "n"
              refine ⟨_, _, rfl, look_lrows hm, ?_⟩
              walk_at "go"
              refine ixD_seq (j := 2) rfl rfl rfl ?_
              walk_at "go"
              refine ⟨_, rfl, fun a2 => ?_⟩
              rw [cut_drop (by omega)]
              refine da_cons (de_dv (dv_list (da_nil ⟨by show 0 ≤ sizeLine; decide, fun p3 => ?_⟩)))
              refine da_nil ⟨by show 3 ≤ sizeLine; decide, [], ?_⟩
              refine dg_tup rfl (And.intro (by rfl) ?_)
              refine dgs_cons ?_
              refine dg_ownK hr.units ?_ (de_ix (de_name ?_))
              · exact trivial
              walk_at "go"
              refine ixD_seq (j := 3) rfl rfl rfl ?_
              refine ⟨_, rfl, by rw [sizeLine_eq]; have := lk R; omega, ?_⟩
              rw [put_lrows hb]
              refine dgs_cons ?_
              refine dg_ownK hr.units ?_ (de_name ?_)
              · exact trivial
              walk_at "n"
              refine ⟨_, rfl, by rw [sizeLine_eq]; have := lk (upL R b ((R one).take k.toNat)); omega, ?_⟩
              rw [put_lrows hc]
              refine dgs_cons ?_
              refine dg_ownK hr.units ?_ (de_name ?_)
              · exact trivial
              walk_at "n"
              refine ⟨_, rfl, by rw [sizeLine_eq]; have := lk (upL (upL R b ((R one).take k.toNat)) c ((R one).drop k.toNat)); omega, ?_⟩
              rw [put_nil hm]
              exact dgs_nil (dss_nil (dss_nil (dss_nil (dss_nil (dss_nil ⟨_, hres.trans (if_neg (of_decide_eq_false e8)), rfl⟩)))))
end
end K70
end

section
namespace DL
open PySem L2
theorem name_strOk {s : Str} (h : nameB s = true) : PyData.strOk s = true := by
  unfold nameB at h
  rw [Bool.and_eq_true] at h
  have h2 := h.2
  unfold PyData.strOk
  rw [← Array.all_toList, List.all_eq_true]
  rw [List.all_eq_true] at h2
  intro c hc
  have h3 := h2 c hc
  rw [Bool.or_eq_true] at h3
  have l1 : ∀ c ∈ lettersS.cps.toList, c < 0x110000 := by decide
  have l2 : ∀ c ∈ figuresS.cps.toList, c < 0x110000 := by decide
  rcases h3 with h3 | h3
  · exact decide_eq_true (l1 c (of_decide_eq_true h3))
  · exact decide_eq_true (l2 c (of_decide_eq_true h3))
theorem str_shaped {z : Str} (h : PyData.strOk z = true) : SeqAt.shaped (.str z) = true := by
  unfold SeqAt.shaped
  rw [PyData.canLay0, PyData.depth, h]
  rfl
theorem eqP_str {x y : Str} (hx : PyData.strOk x = true) (hy : PyData.strOk y = true) : eqP (.str x) (.str y) = some (x == y) := by
  have e1 : toPy (.str x) = some (.str x) := by rw [toPy]
  have e2 : toPy (.str y) = some (.str y) := by rw [toPy]
  unfold eqP
  rw [e1, e2]
  show (if (SeqAt.shaped (.str x) && SeqAt.shaped (.str y)) = true then _ else _) = _
  rw [str_shaped hx, str_shaped hy]
  rfl
theorem txts_py : ∀ r : List Str, (∀ z ∈ r, PyData.strOk z = true) → ∃ ps, toPys (txts r) = some ps ∧ PyData.canLayAll0 ps = true ∧ PyData.depthAll ps ≤ 60
  | [], _ => ⟨[], rfl, rfl, by decide⟩
  | a :: r, h => by
    obtain ⟨ps, h1, h2, h3⟩ := txts_py r fun z hz => h z (List.mem_cons_of_mem _ hz)
    refine ⟨.str a :: ps, ?_, ?_, ?_⟩
    · show toPys (.str a :: txts r) = _
      rw [toPys, h1]
      rfl
    · rw [PyData.canLayAll0, h2, PyData.canLay0, h a List.mem_cons_self]
      rfl
    · rw [PyData.depthAll]
      have : PyData.depth (.str a) = 0 := rfl
      omega
theorem eqP_txts {r : List Str} (h : ∀ z ∈ r, PyData.strOk z = true) : eqP (.lst (txts r)) (.lst []) = some (decide (r = [])) := by
  obtain ⟨ps, h1, h2, h3⟩ := txts_py r h
  rw [eqP_empty h1 h2 h3]
  cases r <;> rfl
/-- the words that are drawn -/
def drawnW : List D := [.str "make", .str "grow", .str "move", .str "swap", .str "cut", .str "split", .str "pour", .str "drop", .str "end", .str "wait", .str "make", .str "move", .str "cut"]
theorem drawnW_of {x : D} (h : x ∈ drawnW) : ∃ d : Deed, x = .str d.word := by
  unfold drawnW at h
  simp only [List.mem_cons, List.not_mem_nil, or_false] at h
  rcases h with rfl | rfl | rfl | rfl | rfl | rfl | rfl | rfl | rfl | rfl | rfl | rfl | rfl
  · exact ⟨.make "" 0, rfl⟩
  · exact ⟨.grow "" 0, rfl⟩
  · exact ⟨.move "" "", rfl⟩
  · exact ⟨.swap "" "", rfl⟩
  · exact ⟨.cut "" 0 "", rfl⟩
  · exact ⟨.split "" 0 "" "", rfl⟩
  · exact ⟨.pour "" "", rfl⟩
  · exact ⟨.drop "" 0 0, rfl⟩
  · exact ⟨.fin "", rfl⟩
  · exact ⟨.wait 0, rfl⟩
  · exact ⟨.make "" 0, rfl⟩
  · exact ⟨.move "" "", rfl⟩
  · exact ⟨.cut "" 0 "", rfl⟩
def Deed.isMSP : Deed → Bool
  | .move _ _ => true | .swap _ _ => true | .pour _ _ => true
  | _ => false
theorem any_MSP (d : Deed) : ([D.str "move", D.str "swap", D.str "pour"].any fun y => eqFl y (.str d.word)) = d.isMSP := by cases d <;> kernel_rfl
theorem eqP_split (d : Deed) : eqP (.str d.word) (.str "split") = some (d.word == "split") := by cases d <;> kernel_rfl
end DL
end

section
namespace DL
open PySem L2
def notAB (a b n : Str) : Bool := !([D.str a, D.str b].any fun y => eqFl y (.str n))
def othF (a b : Str) (x : D) : List D := match x with
  | .str n => if notAB a b n = true then [.str n] else []
  | _ => []
theorem oth_all (a b : Str) (ns : List Str) : (txts ns).flatMap (othF a b) = txts (ns.filter (notAB a b)) := by
  unfold txts
  rw [List.flatMap_map]
  induction ns with
  | nil => rfl
  | cons n ns ih =>
    rw [List.flatMap_cons, List.filter_cons, ih]
    show (if notAB a b n = true then [D.str n] else []) ++ _ = _
    by_cases e : notAB a b n = true
    · rw [if_pos e, if_pos e]; rfl
    · rw [if_neg e, if_neg e]; rfl
theorem notAB_ne {a b n : Str} (h : notAB a b n = true) : n ≠ a ∧ n ≠ b := by
  constructor
  · intro z
    subst z
    unfold notAB at h
    simp [eqFl_str] at h
  · intro z
    subst z
    unfold notAB at h
    simp [eqFl_str] at h
end DL
open PySem L2 DL
namespace K70
section
variable {P : Program} {w : World} {K : PySem.W.Frag} {mg : Str → Option Value} {base : Heap} {T : List (Addr × Str)}
/-- _law_h_deed -/
def hdeN : DF := fun ds g C => ∃ ns : List Str, ds = [.strm, .lst (txts ns)] ∧ okNames ns ∧ 10 ≤ g ∧ ∀ (d : Deed) (g' : Nat), d.ok ns → d.small → g - 10 ≤ g' → g' ≤ g → C (.ret (dedT d) g')
theorem ok_law_h_deed (B : Bi mg) {f : Addr} {fd : FuncData} (F : Fun K "_law_h_deed" "_law_h_deed" s__law_h_deed f fd) (hD : Kn P w K mg base T "_law_draw" 1 draN) (hP : Kn P w K mg base T "_law_pick" 2 picN) : FnOk P w K mg base (L2.CX P w) 3 f fd ["stream", "names"] (spD K T hdeN) := by
  refine okD F sc__law_h_deed (fun ds g C h => by obtain ⟨ns, rfl, _⟩ := h; rfl) (fun cdv A outer s H E An ds g C hr tk h => ?_)
  obtain ⟨ns, rfl, okn, hg, h⟩ := h
  have nd := sc__law_h_deed.nd
  have hfew := okn.few
  have htwo := okn.two
  have tl : (txts ns).length = ns.length := List.length_map _
  have hok : ∀ n ∈ ns, PyData.strOk n = true := fun n hn => name_strOk (okn.nm n hn)
  show DSs _ T An ⟨[.dat .strm, .dat (.lst (txts ns)), .non, .non, .non, .non, .non, .non, .non, .non], [], An.ws, g⟩ _ _
  refine dss_cons (ds_unp (de_tup (da_cons (de_dv (dv_call hP (hr.mono (by decide)) tkF (da_cons (de_name ?_)))))))
  walk_at "gs"
  refine ⟨txts ns, rfl, by omega, by omega, by omega, fun da hda => ?_⟩
  obtain ⟨a, ha, rfl⟩ := List.mem_map.mp hda
  refine da_cons (de_dv (dv_call hP (hr.mono (by decide)) tkF (da_cons (de_name ?_))))
  walk_at "gs"
  refine ⟨txts ns, rfl, by omega, by omega, by show 1 ≤ g - 1; omega, fun db hdb => ?_⟩
  obtain ⟨b, hb, rfl⟩ := List.mem_map.mp hdb
  refine da_nil ⟨by show 2 ≤ sizeLine; decide, [2, 3], ?_⟩
  walk_at "gg"
  refine dss_cons (ds_set nd (dv_call hP (hr.mono (by decide)) tkF (da_cons (de_name ?_))))
  walk_at "gs"
  refine ⟨txts ns, rfl, by omega, by omega, by show 1 ≤ g - 1 - 1; omega, fun dc hdc => ?_⟩
  obtain ⟨c, hc, rfl⟩ := List.mem_map.mp hdc
  show DSs _ T An ⟨[.dat .strm, .dat (.lst (txts ns)), .dat (.str a), .dat (.str b), .dat (.str c), .non, .non, .non, .non, .non], [], An.ws, g - 1 - 1 - 1⟩ _ _
  have hg3 : g - 1 - 1 - 1 = g - 3 := by omega
  rw [hg3]
  refine dss_cons (ds_while (passes_of rfl) (fun m ρ => ∃ b, b ∈ ns ∧ (b = a → m = 1) ∧ ρ = ⟨[.dat .strm, .dat (.lst (txts ns)), .dat (.str a), .dat (.str b), .dat (.str c), .non, .non, .non, .non, .non], [], An.ws, g - 3⟩) ⟨1, b, hb, fun _ => rfl, rfl⟩ fun n ρ1 hI => ?_)
  clear hb hdb
  obtain ⟨b', hb, hba, rfl⟩ := hI
  refine dt_eq hr.units (de_name ?_)
  walk_at "gs"
  refine ⟨_, eqP_str (hok b' hb) (hok a ha), fun e => ?_, fun e => ?_⟩
  · have eb : b' = a := eq_of_beq e
    have em := hba eb
    subst eb
    obtain ⟨j, ej⟩ := List.getElem?_of_mem hb
    have hj : j < ns.length := (List.getElem?_eq_some_iff.mp ej).1
    refine dss_cons (ds_set nd (dv_de (de_ix (de_name ?_))))
    walk_at "n"
    refine de_mod (de_add (de_index (de_name ?_)))
    walk_at "n"
    refine ⟨txts ns, rfl, da_cons (de_name ?_)⟩
    walk_at "n"
    refine da_nil ⟨.str b', .str b', j, rfl, rfl, txts_flat ns, by unfold txts; rw [List.getElem?_map, ej]; rfl, by rw [eqFl_str]; exact beq_self_eq_true b', fun m z' hm ez => ?_, ?_⟩
    · unfold txts at ez
      rw [List.getElem?_map] at ez
      obtain ⟨n2, en2, rfl⟩ := Option.map_eq_some_iff.mp ez
      rw [eqFl_str, beq_eq_false_iff_ne]
      intro z
      subst z
      have := (List.getElem?_inj (by omega) okn.nd).mp (en2.trans ej.symm)
      omega
    walk_at "gs"
    refine lenD_seq rfl ?_
    rw [tl]
    walk_at "n"
    have hi2 : ∃ i : Nat, ((j : Int) + 1).fmod (ns.length : Int) = (i : Int) ∧ i < ns.length ∧ i ≠ j := by
      rw [Int.fmod_eq_emod_of_nonneg _ (by omega)]
      by_cases hl : j + 1 < ns.length
      · exact ⟨j + 1, by rw [Int.emod_eq_of_lt (by omega) (by omega)]; omega, hl, by omega⟩
      · refine ⟨0, ?_, by omega, by omega⟩
        rw [show (j : Int) + 1 = (ns.length : Int) by omega, Int.emod_self]
        rfl
    obtain ⟨i, ei, hi, hij⟩ := hi2
    rw [ei]
    obtain ⟨b2, eb2⟩ : ∃ b2, ns[i]? = some b2 := ⟨_, List.getElem?_eq_getElem hi⟩
    refine ⟨by omega, ?_⟩
    refine ixD_seq (j := i) rfl (by unfold txts; rw [List.getElem?_map, eb2]; rfl) rfl ?_
    refine dss_nil ⟨0, by omega, b2, List.mem_of_getElem? eb2, fun z => ?_, rfl⟩
    subst z
    exact absurd ((List.getElem?_inj hi okn.nd).mp (eb2.trans ej.symm)) hij
  · have hne : b' ≠ a := fun z => by rw [z, beq_self_eq_true] at e; cases e
    have oth : ∀ n ∈ ns.filter (notAB a b'), n ∈ ns ∧ n ≠ a ∧ n ≠ b' := fun n hn => by
      obtain ⟨h1, h2⟩ := List.mem_filter.mp hn
      exact ⟨h1, notAB_ne h2⟩
    have hol : (ns.filter (notAB a b')).length ≤ 100 := by have := List.length_filter_le (notAB a b') ns; omega
    refine dss_cons (ds_setLc rfl nd (blkOk_by (own := [("name", 5)]) (by kernel_rfl)) rfl rfl (di_seq (de_name ?_)))
    walk_at "n"
    refine ⟨_, rfl, ?_⟩
    refine lcd_fm (othF a b') rfl (by rw [tl, sizeLine_eq]; omega) (fun i5 y acc D0 ey => ?_) fun a1 => ?_
    · unfold txts at ey
      rw [List.getElem?_map] at ey
      obtain ⟨n2, en2, rfl⟩ := Option.map_eq_some_iff.mp ey
      walk_at "blk"
      walk_at "gg"
      walk_at "blk"
      refine dts_one (dt_ninS (de_name ?_))
      walk_at "gs"
      refine ⟨by show 2 ≤ sizeLine; decide, ?_⟩
      refine ⟨_, rfl, rfl, rfl, ?_⟩
      rw [if_pos rfl]
      walk_at "n"
      refine ⟨fun e3 => ?_, fun e3 => ?_⟩
      · walk_at "blk"
        walk_at "gs"
        exact ⟨if_pos e3, rfl, rfl, rfl⟩
      · exact ⟨if_neg (by show ¬ notAB a b' n2 = true; unfold notAB; rw [e3]; decide), rfl, rfl, rfl⟩
    · rw [oth_all]
      generalize ns.filter (notAB a b') = os at oth hol
      have ol : (txts os).length = os.length := List.length_map _
      walk_at "gs"
      refine ⟨by show 13 ≤ sizeLine; decide, fun a2 => ?_⟩
      refine dss_cons (ds_par rfl nd (dv_call hP (hr.mono (by decide)) tkF (da_cons (de_name ?_))))
      walk_at "gs"
      refine ⟨drawnW, rfl, by decide, by decide, by show 1 ≤ g - 3; omega, fun dw hdw => ?_⟩
      obtain ⟨d0, rfl⟩ := drawnW_of hdw
      refine ⟨_, rfl, ?_⟩
      walk_at "gs"
      refine ⟨3, rfl, by decide, by decide, by show 1 ≤ g - 3 - 1; omega, fun r1 hr1 => ?_⟩
      walk_at "n"
      have hr1' : (r1 : Int) < 3 := by omega
      refine dss_cons (ds_imp (O1 := {
        nx := fun ρ' => ∃ (d1 : Deed) (s6 : Sl), ((d1.word == ("split" : Str)) = true → os ≠ [] ∧ s6 = .dat (.lst (txts os))) ∧ ρ' = ⟨[.dat .strm, .dat (.lst (txts ns)), .dat (.str a), .dat (.str b'), .dat (.str c), .non, s6, .dat (.lst drawnW), .dat (.str d1.word), .dat (.int (1 + (r1 : Int)))], [], An.ws, g - 5⟩
        rt := fun _ _ => False }) (ds_if (dt_bool (dw_and (dt_eq hr.units (de_name ?_))))) (fun ρ' hn => ?_) (fun _ _ z => z.elim) (fun _ z => z.elim) (fun _ z => z.elim))
      · walk_at "gs"
        have hg5 : g - 3 - 1 - 1 = g - 5 := by omega
        refine ⟨_, eqP_split d0, fun e4 => ?_, fun e4 => ⟨fun z => (by cases z), fun _ => ?_⟩⟩
        · refine dw_and1 (dt_eq hr.units (de_name ?_))
          walk_at "n"
          refine de_dv (dv_list (da_nil ⟨by show 0 ≤ sizeLine; decide, fun p3 => ?_⟩))
          refine ⟨_, eqP_txts fun z hz => hok z (oth z hz).1, fun e5 => ?_, fun e5 => ?_⟩
          · refine dss_cons (ds_set nd (dv_de (de_str ?_)))
            refine dss_nil ⟨.cut "" 0 "", .dat (.lst (txts os)), fun z => absurd z (by decide), ?_⟩
            show Ev.mk _ _ _ (g - 3 - 1 - 1) = _
            rw [hg5]
            rfl
          · refine dss_nil ⟨d0, .dat (.lst (txts os)), fun _ => ⟨of_decide_eq_false e5, rfl⟩, ?_⟩
            show Ev.mk _ _ _ (g - 3 - 1 - 1) = _
            rw [hg5]
            rfl
        · refine dss_nil ⟨d0, .own a1 (txts os), fun z => absurd (z.symm.trans e4) (by decide), ?_⟩
          show Ev.mk _ _ _ (g - 3 - 1 - 1) = _
          rw [hg5]
          rfl
      obtain ⟨d1, s6, hsp, rfl⟩ := hn
      refine dss_cons (ds_if (dt_inS (de_name ?_)))
      walk_at "gs"
      refine ⟨by show 2 ≤ sizeLine; decide, ?_⟩
      refine ⟨_, rfl, rfl, rfl, ?_⟩
      rw [if_neg (by decide), any_MG]
      refine ⟨fun e5 => ?_, fun e5 => ?_⟩
      · walk_at "gs"
        refine ⟨3, rfl, by decide, by decide, by show 1 ≤ g - 5; omega, fun r2 hr2 => ?_⟩
        walk_at "gs"
        refine ⟨by show 3 ≤ sizeLine; decide, .inl rfl, ?_⟩
        cases d1 with
        | make x y => exact h (.make a (1 + (r2 : Int))) _ ⟨ha, by omega⟩ (show _ ≤ _ by omega) (by show g - 10 ≤ g - 5 - 1; omega) (by show g - 5 - 1 ≤ g; omega)
        | grow x y => exact h (.grow a (1 + (r2 : Int))) _ ⟨ha, by omega⟩ (show _ ≤ _ by omega) (by show g - 10 ≤ g - 5 - 1; omega) (by show g - 5 - 1 ≤ g; omega)
        | _ => cases e5
      refine dss_nil (dss_cons (ds_if (dt_inS (de_name ?_))))
      walk_at "gs"
      refine ⟨by show 3 ≤ sizeLine; decide, ?_⟩
      refine ⟨_, rfl, rfl, rfl, ?_⟩
      rw [if_neg (by decide), any_MSP]
      refine ⟨fun e6 => ?_, fun e6 => ?_⟩
      · walk_at "gs"
        refine ⟨by show 3 ≤ sizeLine; decide, .inl rfl, ?_⟩
        cases d1 with
        | move x y => exact h (.move a b') _ ⟨ha, hb, fun z => hne z.symm⟩ trivial (by show g - 10 ≤ g - 5; omega) (by show g - 5 ≤ g; omega)
        | swap x y => exact h (.swap a b') _ ⟨ha, hb, fun z => hne z.symm⟩ trivial (by show g - 10 ≤ g - 5; omega) (by show g - 5 ≤ g; omega)
        | pour x y => exact h (.pour a b') _ ⟨ha, hb, fun z => hne z.symm⟩ trivial (by show g - 10 ≤ g - 5; omega) (by show g - 5 ≤ g; omega)
        | _ => cases e6
      refine dss_nil (dss_cons (ds_if (dt_eq hr.units (de_name ?_))))
      walk_at "gs"
      refine ⟨_, (eqP_word2 d1).2.2.1, fun e7 => ?_, fun e7 => ?_⟩
      · walk_at "gs"
        refine ⟨by show 4 ≤ sizeLine; decide, .inl rfl, ?_⟩
        have ew : d1.word = "cut" := eq_of_beq e7
        rw [ew]
        exact h (.cut a (1 + (r1 : Int)) b') _ ⟨ha, hb, fun z => hne z.symm, by omega⟩ (show _ ≤ _ by omega) (by show g - 10 ≤ g - 5; omega) (by show g - 5 ≤ g; omega)
      refine dss_nil (dss_cons (ds_if (dt_eq hr.units (de_name ?_))))
      walk_at "gs"
      refine ⟨_, eqP_split d1, fun e8 => ?_, fun e8 => ?_⟩
      · have ew : d1.word = "split" := eq_of_beq e8
        obtain ⟨hos, rfl⟩ := hsp e8
        have hsplit : ∀ c, c ∈ os → C (.ret (.tup [.str "split", .str a, .int (1 + (r1 : Int)), .str b', .str c]) (g - 5)) := fun c hc => by
          obtain ⟨c1, c2, c3⟩ := oth c hc
          exact h (.split a (1 + (r1 : Int)) b' c) _ ⟨ha, hb, c1, fun z => hne z.symm, fun z => c2 z.symm, fun z => c3 z.symm, by omega⟩ (show _ ≤ _ by omega) (by omega) (by omega)
        rw [ew]
        refine dss_cons (ds_ret (dv_de (de_tup (da_cons (de_name ?_)))))
        walk_at "gs"
        refine dt_inS (de_name ?_)
        walk_at "gs"
        refine ⟨_, rfl, rfl, txts_flat os, ?_⟩
        rw [if_neg (by decide)]
        refine ⟨fun e9 => ?_, fun e9 => ?_⟩
        · obtain ⟨y, hy, ey⟩ := List.any_eq_true.mp e9
          obtain ⟨n3, hn3, rfl⟩ := List.mem_map.mp hy
          rw [eqFl_str] at ey
          have : n3 = c := eq_of_beq ey
          subst this
          walk_at "gs"
          exact ⟨by show 5 ≤ sizeLine; decide, .inl rfl, hsplit n3 hn3⟩
        · cases os with
          | nil => exact absurd rfl hos
          | cons n3 os2 =>
            refine de_ix (de_name ?_)
            walk_at "gs"
            refine ixD_seq (j := 0) rfl rfl rfl ?_
            walk_at "gs"
            exact ⟨by show 5 ≤ sizeLine; decide, .inl rfl, hsplit n3 List.mem_cons_self⟩
      refine dss_nil (dss_cons (ds_if (dt_eq hr.units (de_name ?_))))
      walk_at "gs"
      refine ⟨_, (eqP_word2 d1).2.2.2.2, fun e9 => ?_, fun e9 => ?_⟩
      · have ew : d1.word = "drop" := eq_of_beq e9
        rw [ew]
        walk_at "gs"
        refine ⟨3, rfl, by decide, by decide, by show 1 ≤ g - 5; omega, fun r2 hr2 => ?_⟩
        walk_at "gs"
        refine ⟨2, rfl, by decide, by decide, by show 1 ≤ g - 5 - 1; omega, fun r3 hr3 => ?_⟩
        walk_at "gs"
        refine ⟨by show 4 ≤ sizeLine; decide, .inl rfl, ?_⟩
        exact h (.drop a (r2 : Int) (1 + (r3 : Int))) _ ⟨ha, by omega, by omega⟩ ⟨by omega, by omega⟩ (by show g - 10 ≤ g - 5 - 1 - 1; omega) (by show g - 5 - 1 - 1 ≤ g; omega)
      refine dss_nil (dss_cons (ds_ret (dv_if (dt_eq hr.units (de_name ?_)))))
      walk_at "gs"
      refine ⟨_, (eqP_word2 d1).1, fun e10 => ?_, fun e10 => ?_⟩
      · have ew : d1.word = "end" := eq_of_beq e10
        rw [ew]
        walk_at "gs"
        refine ⟨by show 2 ≤ sizeLine; decide, .inl rfl, ?_⟩
        exact h (.fin a) _ ha trivial (by show g - 10 ≤ g - 5; omega) (by show g - 5 ≤ g; omega)
      · have ew : d1.word = "wait" := by
          cases d1 with
          | wait x => rfl
          | make x y => cases e5
          | grow x y => cases e5
          | move x y => cases e6
          | swap x y => cases e6
          | pour x y => cases e6
          | cut x y z => exact absurd e7 (by rw [Bool.not_eq_false]; kernel_rfl)
          | split x y z u => exact absurd e8 (by rw [Bool.not_eq_false]; kernel_rfl)
          | drop x y z => exact absurd e9 (by rw [Bool.not_eq_false]; kernel_rfl)
          | fin x => exact absurd e10 (by rw [Bool.not_eq_false]; kernel_rfl)
        rw [ew]
        walk_at "gs"
        refine ⟨3, rfl, by decide, by decide, by show 1 ≤ g - 5; omega, fun r2 hr2 => ?_⟩
        walk_at "gs"
        refine ⟨by show 2 ≤ sizeLine; decide, .inl rfl, ?_⟩
        exact h (.wait (1 + (r2 : Int))) _ (show 1 ≤ _ by omega) (show _ ≤ _ by omega) (by show g - 10 ≤ g - 5 - 1; omega) (by show g - 5 - 1 ≤ g; omega)
end
end K70
end

section
namespace DL
open PySem L2
section
variable {s t : Int} {ns : List Str} {r : Rows} {R R' : LRows} {most m m' : Int} {d : Deed}
theorem out_up {a : Str} {x : List Int} (ha : a ∈ ns) (h : ∀ n, n ∉ ns → R n = []) : ∀ n, n ∉ ns → upL R a x n = [] := fun n hn => by
  rw [upL_ne fun z : n = a => hn (z ▸ ha)]
  exact h n hn
/-- the total and the names stay in bounds -/
theorem doneL_keep (nd : ns.Nodup) (okd : d.ok ns) (ht : totL ns R ≤ most) (ho : ∀ n, n ∉ ns → R n = []) (e : doneL ns most R m d = some (R', m')) : totL ns R' ≤ most ∧ (∀ n, n ∉ ns → R' n = []) ∧ m' = m + d.gain := by
  have ln := fun a => lenL_nonneg (R a)
  cases d with
  | wait k => cases e; exact ⟨ht, ho, (Int.add_zero _).symm⟩
  | make a k =>
    dsimp only [doneL] at e
    split at e
    · split at e
      · rename_i h1; cases e; exact ⟨h1, out_up okd.1 ho, rfl⟩
      · cases e
    · cases e
  | grow a k =>
    dsimp only [doneL] at e
    split at e
    · cases e
    · split at e
      · rename_i h1; cases e; exact ⟨h1, out_up okd.1 ho, rfl⟩
      · cases e
  | fin a =>
    dsimp only [doneL] at e
    split at e
    · cases e
    · cases e
      refine ⟨?_, out_up okd ho, (Int.add_zero _).symm⟩
      rw [tot_up nd okd]
      have := ln a
      show _ + ((0 : Int) - _) ≤ _
      omega
  | drop a i k =>
    dsimp only [doneL] at e
    split at e
    · cases e
    · split at e
      · cases e
      · rename_i h1
        cases e
        obtain ⟨ha, hi, hk⟩ := okd
        refine ⟨?_, out_up ha ho, (Int.add_zero _).symm⟩
        rw [tot_up nd ha, lenL_app, lenL_take hi (by omega), lenL_drop (by omega) (by omega)]
        omega
  | move a b =>
    dsimp only [doneL] at e
    split at e
    · cases e
    · split at e
      · rename_i h1
        cases e
        obtain ⟨ha, hb, hab⟩ := okd
        refine ⟨?_, out_up hb (out_up ha ho), (Int.add_zero _).symm⟩
        rw [tot_up nd hb, tot_up nd ha, upL_ne fun z : b = a => hab z.symm]
        have := ln b
        show _ + ((0 : Int) - _) + _ ≤ _
        omega
      · cases e
  | swap a b =>
    dsimp only [doneL] at e
    split at e
    · cases e
    · split at e
      · cases e
      · cases e
        obtain ⟨ha, hb, hab⟩ := okd
        refine ⟨?_, out_up hb (out_up ha ho), (Int.add_zero _).symm⟩
        rw [tot_up nd hb, tot_up nd ha, upL_ne fun z : b = a => hab z.symm]
        omega
  | pour a b =>
    dsimp only [doneL] at e
    split at e
    · cases e
    · split at e
      · cases e
      · cases e
        obtain ⟨ha, hb, hab⟩ := okd
        refine ⟨?_, out_up hb (out_up ha ho), (Int.add_zero _).symm⟩
        rw [tot_up nd hb, tot_up nd ha, upL_ne fun z : b = a => hab z.symm, lenL_app]
        show _ + ((0 : Int) - _) + _ ≤ _
        omega
  | cut a k b =>
    dsimp only [doneL] at e
    split at e
    · cases e
    · split at e
      · split at e
        · cases e
        · rename_i h1 h2
          cases e
          obtain ⟨ha, hb, hab, hk⟩ := okd
          refine ⟨?_, out_up hb (out_up ha ho), (Int.add_zero _).symm⟩
          rw [tot_up nd hb, tot_up nd ha, upL_ne fun z : b = a => hab z.symm, lenL_take (by omega) (by omega), lenL_drop (by omega) (by omega)]
          have := ln b
          omega
      · cases e
  | split a k b c =>
    dsimp only [doneL] at e
    split at e
    · cases e
    · split at e
      · split at e
        · cases e
        · rename_i h1 h2
          cases e
          obtain ⟨ha, hb, hc, hab, hac, hbc, hk⟩ := okd
          refine ⟨?_, out_up ha (out_up hc (out_up hb ho)), (Int.add_zero _).symm⟩
          rw [tot_up nd ha, tot_up nd hc, tot_up nd hb, upL_ne fun z : c = b => hbc z.symm, upL_ne fun z : a = c => hac z, upL_ne fun z : a = b => hab z, lenL_take (by omega) (by omega), lenL_drop (by omega) (by omega)]
          have := ln b
          have := ln c
          show _ + ((0 : Int) - _) ≤ _
          omega
      · cases e
theorem Rel.upn (h : Rel s ns r R) {a : Str} : Rel s ns (upR r a []) (upL R a []) := h.up okR_nil (by show (0 : Int) = s * 0; rw [Int.mul_zero])
theorem gain_scale (d : Deed) : (d.scale s t).gain = d.gain * s := by cases d <;> first | rfl | exact (Int.zero_mul s).symm
/-- the program does what the law does, with greater numbers -/
theorem doneL_rel (nd : ns.Nodup) (okd : d.ok ns) (hs : 1 ≤ s) (h : Rel s ns r R) (e : doneL ns most R m d = some (R', m')) (mm : Int) : ∃ r', behindR r mm (d.scale s t) = some r' ∧ Rel s ns r' R' := by
  have s0 : 0 ≤ s := by omega
  cases d with
  | wait k => cases e; exact ⟨r, rfl, h⟩
  | make a k =>
    dsimp only [doneL] at e
    split at e
    · rename_i h0
      split at e
      · cases e
        obtain ⟨ha, hk⟩ := okd
        have hk1 := pos_mul hk hs
        obtain ⟨q1, q2⟩ := h a ha
        obtain ⟨t1, t2⟩ := tidy_size (okR_app q1 (okR_one (p := (mm + 1, mm + k * s)) (by show mm + 1 ≤ mm + k * s; omega)))
        refine ⟨_, if_pos ((h.empty hs ha).mpr h0), h.up t2 ?_⟩
        rw [t1, size_app, size_one, q2, lenL_app, lenL_range (by omega), Int.mul_add, Int.mul_comm s k]
        dsimp only
        omega
      · cases e
    · cases e
  | grow a k =>
    dsimp only [doneL] at e
    split at e
    · cases e
    · rename_i h0
      split at e
      · cases e
        obtain ⟨ha, hk⟩ := okd
        have hk1 := pos_mul hk hs
        obtain ⟨q1, q2⟩ := h a ha
        obtain ⟨t1, t2⟩ := tidy_size (okR_app q1 (okR_one (p := (mm + 1, mm + k * s)) (by show mm + 1 ≤ mm + k * s; omega)))
        refine ⟨_, if_neg fun z => h0 ((h.empty hs ha).mp z), h.up t2 ?_⟩
        rw [t1, size_app, size_one, q2, lenL_app, lenL_range (by omega), Int.mul_add, Int.mul_comm s k]
        dsimp only
        omega
      · cases e
  | fin a =>
    dsimp only [doneL] at e
    split at e
    · cases e
    · rename_i h0
      cases e
      exact ⟨_, if_neg fun z => h0 ((h.empty hs okd).mp z), h.upn⟩
  | drop a i k =>
    dsimp only [doneL] at e
    split at e
    · cases e
    · rename_i h0
      split at e
      · cases e
      · rename_i h1
        cases e
        obtain ⟨ha, hi, hk⟩ := okd
        obtain ⟨q1, q2⟩ := h a ha
        have hik : i * s + k * s ≤ sizeR (r a) := by
          rw [q2, ← Int.add_mul, Int.mul_comm]
          exact Int.mul_le_mul_of_nonneg_left (by omega) s0
        obtain ⟨t1, t2⟩ := less_size q1 (nonneg_mul hi hs) (by have := pos_mul hk hs; omega) hik
        refine ⟨_, (if_neg fun z => h0 ((h.empty hs ha).mp z)).trans (if_pos hik), h.up t2 ?_⟩
        rw [t1, q2, lenL_app, lenL_take hi (by omega), lenL_drop (by omega) (by omega), show i + (lenL (R a) - (i + k)) = lenL (R a) - k by omega, Int.mul_sub, Int.mul_comm s k]
  | move a b =>
    dsimp only [doneL] at e
    split at e
    · cases e
    · rename_i h0
      split at e
      · rename_i h1
        cases e
        obtain ⟨ha, hb, hab⟩ := okd
        obtain ⟨q1, q2⟩ := h a ha
        exact ⟨_, (if_neg fun z => h0 ((h.empty hs ha).mp z)).trans (if_pos ((h.empty hs hb).mpr h1)), (h.upn).up q1 q2⟩
      · cases e
  | swap a b =>
    dsimp only [doneL] at e
    split at e
    · cases e
    · rename_i h0
      split at e
      · cases e
      · rename_i h1
        cases e
        obtain ⟨ha, hb, hab⟩ := okd
        obtain ⟨q1, q2⟩ := h a ha
        obtain ⟨p1, p2⟩ := h b hb
        exact ⟨_, (if_neg fun z => h0 ((h.empty hs ha).mp z)).trans (if_neg fun z => h1 ((h.empty hs hb).mp z)), (h.up p1 p2).up q1 q2⟩
  | pour a b =>
    dsimp only [doneL] at e
    split at e
    · cases e
    · rename_i h0
      split at e
      · cases e
      · rename_i h1
        cases e
        obtain ⟨ha, hb, hab⟩ := okd
        obtain ⟨q1, q2⟩ := h a ha
        obtain ⟨p1, p2⟩ := h b hb
        obtain ⟨t1, t2⟩ := tidy_size (okR_app p1 q1)
        refine ⟨_, (if_neg fun z => h0 ((h.empty hs ha).mp z)).trans (if_neg fun z => h1 ((h.empty hs hb).mp z)), (h.upn).up t2 ?_⟩
        rw [t1, size_app, p2, q2, lenL_app, Int.mul_add]
  | cut a k b =>
    dsimp only [doneL] at e
    split at e
    · cases e
    · rename_i h0
      split at e
      · rename_i h1
        split at e
        · cases e
        · rename_i h2
          cases e
          obtain ⟨ha, hb, hab, hk⟩ := okd
          obtain ⟨q1, q2⟩ := h a ha
          have hks : k * s < sizeR (r a) := by
            rw [q2, Int.mul_comm k s]
            exact Int.mul_lt_mul_of_pos_left (by omega) (by omega)
          obtain ⟨t1, t2, t3, t4⟩ := part_size q1 (by have := pos_mul hk hs; omega) (Int.le_of_lt hks)
          refine ⟨_, (if_neg fun z => h0 ((h.empty hs ha).mp z)).trans ((if_pos ((h.empty hs hb).mpr h1)).trans (if_neg (by omega))), (h.up t3 ?_).up t4 ?_⟩
          · rw [t1, lenL_take (by omega) (by omega), Int.mul_comm]
          · rw [t2, q2, lenL_drop (by omega) (by omega), Int.mul_sub, Int.mul_comm s k]
      · cases e
  | split a k b c =>
    dsimp only [doneL] at e
    split at e
    · cases e
    · rename_i h0
      split at e
      · rename_i h1
        split at e
        · cases e
        · rename_i h2
          cases e
          obtain ⟨ha, hb, hc, hab, hac, hbc, hk⟩ := okd
          obtain ⟨q1, q2⟩ := h a ha
          have hks : k * s < sizeR (r a) := by
            rw [q2, Int.mul_comm k s]
            exact Int.mul_lt_mul_of_pos_left (by omega) (by omega)
          obtain ⟨t1, t2, t3, t4⟩ := part_size q1 (by have := pos_mul hk hs; omega) (Int.le_of_lt hks)
          have eo : upL (upL (upL R b ((R a).take k.toNat)) c ((R a).drop k.toNat)) a [] = upL (upL (upL R a []) b ((R a).take k.toNat)) c ((R a).drop k.toNat) := by
            funext n
            unfold upL
            by_cases z1 : n = a
            · rw [if_pos z1, if_neg (by rw [z1]; exact hac), if_neg (by rw [z1]; exact hab), if_pos z1]
            · rw [if_neg z1, if_neg z1]
          rw [eo]
          refine ⟨_, (if_neg fun z => h0 ((h.empty hs ha).mp z)).trans ((if_pos ⟨(h.empty hs hb).mpr h1.1, (h.empty hs hc).mpr h1.2⟩).trans (if_neg (by omega))), ((h.upn).up t3 ?_).up t4 ?_⟩
          · rw [t1, lenL_take (by omega) (by omega), Int.mul_comm]
          · rw [t2, q2, lenL_drop (by omega) (by omega), Int.mul_sub, Int.mul_comm s k]
      · cases e
end
end DL
end

section
namespace DL
open PySem L2
/-- the law's own history -/
structure LHist (ns : List Str) (most : Int) (dl : List Deed) (Rs : List LRows) (made : Int) : Prop where
  ok : ∀ d ∈ dl, d.ok ns
  small : ∀ d ∈ dl, d.small
  len : Rs.length = dl.length + 1
  zero : Rs[0]? = some (fun _ => [])
  tot : ∀ R ∈ Rs, totL ns R ≤ most
  out : ∀ R ∈ Rs, ∀ n, n ∉ ns → R n = []
  step : ∀ (i : Nat) (d : Deed) (R : LRows), dl[i]? = some d → Rs[i]? = some R → ∃ m m' R', doneL ns most R m d = some (R', m') ∧ Rs[i + 1]? = some R'
  made0 : 0 ≤ made
  made1 : made ≤ 1000 * (dl.length : Int)
section
variable {ns : List Str} {most made : Int} {dl : List Deed} {Rs : List LRows}
theorem gain_small {d : Deed} (h : d.ok ns) (hs : d.small) : 0 ≤ d.gain ∧ d.gain ≤ 1000 := by
  cases d with
  | make a k => have := h.2; have h2 : k ≤ 1000 := hs; exact ⟨by show 0 ≤ k; omega, h2⟩
  | grow a k => have := h.2; have h2 : k ≤ 1000 := hs; exact ⟨by show 0 ≤ k; omega, h2⟩
  | _ => exact ⟨Int.le_refl _, by show (0 : Int) ≤ 1000; decide⟩
theorem tot_zero (ns : List Str) : totL ns (fun _ => []) = 0 := by
  unfold totL
  induction ns with
  | nil => rfl
  | cons n ns ih => rw [List.map_cons, List.sum_cons, ih]; rfl
theorem LHist.nil (h : 0 ≤ most) : LHist ns most [] [fun _ => []] 0 :=
  ⟨fun d hd => (by cases hd), fun d hd => (by cases hd), rfl, rfl, fun R hR => by rw [List.mem_singleton.mp hR, tot_zero]; exact h, fun R hR n _ => by rw [List.mem_singleton.mp hR], fun i d R ed => (by cases ed), Int.le_refl _, Int.le_refl _⟩
theorem LHist.snoc (h : LHist ns most dl Rs made) (nd : ns.Nodup) {d : Deed} {R R' : LRows} {m' : Int} (eR : Rs[dl.length]? = some R) (okd : d.ok ns) (sm : d.small) (e : doneL ns most R made d = some (R', m')) : LHist ns most (dl ++ [d]) (Rs ++ [R']) m' := by
  have hl := h.len
  have hR := List.mem_of_getElem? eR
  obtain ⟨k1, k2, k3⟩ := doneL_keep nd okd (h.tot R hR) (h.out R hR) e
  obtain ⟨g0, g1⟩ := gain_small okd sm
  have m0 := h.made0
  have m1 := h.made1
  refine ⟨fun x hx => ?_, fun x hx => ?_, by simp [hl], ?_, fun x hx => ?_, fun x hx => ?_, fun i x q ex eq => ?_, by omega, ?_⟩
  · rcases List.mem_append.mp hx with hx | hx
    · exact h.ok x hx
    · cases List.mem_singleton.mp hx; exact okd
  · rcases List.mem_append.mp hx with hx | hx
    · exact h.small x hx
    · cases List.mem_singleton.mp hx; exact sm
  · rw [List.getElem?_append_left (by omega)]
    exact h.zero
  · rcases List.mem_append.mp hx with hx | hx
    · exact h.tot x hx
    · rw [List.mem_singleton.mp hx]; exact k1
  · rcases List.mem_append.mp hx with hx | hx
    · exact h.out x hx
    · rw [List.mem_singleton.mp hx]; exact k2
  · by_cases hi : i < dl.length
    · rw [List.getElem?_append_left hi] at ex
      rw [List.getElem?_append_left (by omega)] at eq
      obtain ⟨a, b, q', e1, e2⟩ := h.step i x q ex eq
      exact ⟨a, b, q', e1, by rw [List.getElem?_append_left (by omega)]; exact e2⟩
    · have hx : i < (dl ++ [d]).length := (List.getElem?_eq_some_iff.mp ex).1
      rw [List.length_append] at hx
      simp only [List.length_singleton] at hx
      have hi2 : i = dl.length := by omega
      subst hi2
      rw [List.getElem?_append_right (Nat.le_refl _)] at ex
      simp only [Nat.sub_self, List.getElem?_cons_zero] at ex
      cases ex
      rw [List.getElem?_append_left (by omega), eR] at eq
      cases eq
      refine ⟨made, m', R', e, ?_⟩
      rw [List.getElem?_append_right (by omega), hl, Nat.sub_self]
      rfl
  · rw [List.length_append]
    show m' ≤ 1000 * (((dl.length + 1 : Nat)) : Int)
    omega
theorem len_tot {R : LRows} {n : Str} (hn : n ∈ ns) : lenL (R n) ≤ totL ns R := by
  unfold totL
  induction ns with
  | nil => cases hn
  | cons b l ih =>
    rw [List.map_cons, List.sum_cons]
    have h0 : ∀ l : List Str, 0 ≤ (l.map fun n => lenL (R n)).sum := fun l => by
      induction l with
      | nil => exact Int.le_refl _
      | cons c l ih2 =>
        rw [List.map_cons, List.sum_cons]
        have := lenL_nonneg (R c)
        omega
    have h1 := h0 l
    have h2 := lenL_nonneg (R b)
    rcases List.mem_cons.mp hn with rfl | hn
    · omega
    · have := ih hn
      omega
theorem LHist.short (h : LHist ns most dl Rs made) (h0 : 0 ≤ most) {R : LRows} (hR : R ∈ Rs) (n : Str) : ((R n).length : Int) ≤ most := by
  by_cases hn : n ∈ ns
  · exact Int.le_trans (len_tot hn) (h.tot R hR)
  · rw [h.out R hR n hn]
    exact h0
/-- the history that the program builds of them, with greater numbers -/
theorem LHist.hist (h : LHist ns most dl Rs made) (nd : ns.Nodup) {s t : Int} (hs : 1 ≤ s) (ht : 1 ≤ t) (few : dl.length ≤ 16) : ∃ ss, Hist ns (most * s) (dl.map (Deed.scale s t)) ss ∧ ∀ (i : Nat) (r : Rows) (m y : Int) (R : LRows), ss[i]? = some (r, m, y) → Rs[i]? = some R → Rel s ns r R := by
  have key : ∀ k, k ≤ dl.length → ∃ ss, Hist ns (most * s) ((dl.take k).map (Deed.scale s t)) ss ∧ ∀ (i : Nat) (r : Rows) (m y : Int) (R : LRows), ss[i]? = some (r, m, y) → Rs[i]? = some R → Rel s ns r R := by
    intro k
    induction k with
    | zero =>
      intro _
      refine ⟨_, Hist.nil, fun i r m y R e eR => ?_⟩
      rcases i with _ | i
      · cases e
        rw [h.zero] at eR
        cases eR
        exact fun n _ => ⟨okR_nil, by show (0 : Int) = s * 0; rw [Int.mul_zero]⟩
      · cases e
    | succ k ih =>
      intro hk
      obtain ⟨ss, hh, hrel⟩ := ih (by omega)
      obtain ⟨d, ed⟩ : ∃ d, dl[k]? = some d := ⟨_, List.getElem?_eq_getElem (by omega)⟩
      have hl := h.len
      obtain ⟨R, eR⟩ : ∃ R, Rs[k]? = some R := ⟨_, List.getElem?_eq_getElem (by omega)⟩
      obtain ⟨m0, m0', R', e1, e2⟩ := h.step k d R ed eR
      have okd := h.ok d (List.mem_of_getElem? ed)
      have lt : ((dl.take k).map (Deed.scale s t)).length = k := by rw [List.length_map, List.length_take]; omega
      have lss := hh.len
      rw [lt] at lss
      obtain ⟨⟨r, m, y⟩, es⟩ : ∃ q, ss[k]? = some q := ⟨_, List.getElem?_eq_getElem (by omega)⟩
      have rel := hrel k r m y R es eR
      obtain ⟨r', b1, b2⟩ := doneL_rel (t := t) nd okd hs rel e1 m
      have tot := (doneL_keep nd okd (h.tot R (List.mem_of_getElem? eR)) (h.out R (List.mem_of_getElem? eR)) e1).1
      have hd := done_of hs b1 b2 tot
      have hsn := hh.snoc (by rw [lt]; omega) (by rw [lt]; exact es) (scale_ok hs ht okd) hd
      have etk : (dl.take (k + 1)).map (Deed.scale s t) = (dl.take k).map (Deed.scale s t) ++ [d.scale s t] := by rw [List.take_add_one, ed, List.map_append]; rfl
      refine ⟨_, by rw [etk]; exact hsn, fun i q n z Q e eQ => ?_⟩
      by_cases hi : i < ss.length
      · rw [List.getElem?_append_left hi] at e
        exact hrel i q n z Q e eQ
      · have hx : i < (ss ++ [(r', m + (d.scale s t).gain, y + (d.scale s t).days)]).length := (List.getElem?_eq_some_iff.mp e).1
        rw [List.length_append] at hx
        simp only [List.length_singleton] at hx
        have hi2 : i = k + 1 := by omega
        subst hi2
        rw [List.getElem?_append_right (by omega), lss, Nat.sub_self] at e
        cases e
        rw [e2] at eQ
        cases eQ
        exact b2
  obtain ⟨ss, h1, h2⟩ := key dl.length (Nat.le_refl _)
  rw [List.take_length] at h1
  exact ⟨ss, h1, h2⟩
theorem scale_one (d : Deed) : d.scale 1 1 = d := by cases d <;> simp [Deed.scale]
theorem scale_ones (dl : List Deed) : dl.map (Deed.scale 1 1) = dl := by
  rw [show Deed.scale 1 1 = id from funext scale_one, List.map_id]
/-! ### days -/
def dayD (dl : List Deed) (i : Nat) : Int := ((dl.take i).map Deed.days).sum
def lastD (dl : List Deed) (i : Nat) : Int := dayD dl i + (match dl[i]? with
  | some (.wait k) => k - 1
  | _ => 0)
theorem Hist.day {ss : List Stp} (h : Hist ns most dl ss) : ∀ i, i ≤ dl.length → dayAt ss i = dayD dl i
  | 0, _ => by
    unfold dayAt dayD
    rw [h.zero]
    rfl
  | i + 1, hi => by
    have ih := h.day i (by omega)
    obtain ⟨d, ed⟩ : ∃ d, dl[i]? = some d := ⟨_, List.getElem?_eq_getElem (by omega)⟩
    obtain ⟨r, m, y, es⟩ := h.at (i := i) (by omega)
    obtain ⟨r', m', e1, e2⟩ := h.step i d r m y ed es
    have e3 : dayD dl (i + 1) = dayD dl i + d.days := by
      unfold dayD
      rw [List.take_add_one, ed, List.map_append, List.sum_append]
      simp
    rw [e3, ← ih]
    unfold dayAt
    rw [e2, es]
theorem Hist.last {ss : List Stp} (h : Hist ns most dl ss) {i : Nat} (hi : i ≤ dl.length) : lastAt dl ss i = lastD dl i := by
  have e := h.day i hi
  unfold lastAt lastD
  cases dl[i]? with
  | none => exact congrArg (fun z => z + (0 : Int)) e
  | some d => cases d <;> exact congrArg (fun z => z + _) e
theorem days_scale (s s' t : Int) (d : Deed) : (d.scale s t).days = (d.scale s' t).days := by cases d <;> rfl
theorem dayD_scale (s s' t : Int) (dl : List Deed) (i : Nat) : dayD (dl.map (Deed.scale s t)) i = dayD (dl.map (Deed.scale s' t)) i := by
  unfold dayD
  rw [← List.map_take, ← List.map_take, List.map_map, List.map_map]
  congr 1
  exact List.map_congr_left fun d _ => days_scale s s' t d
theorem lastD_scale (s s' t : Int) (dl : List Deed) (i : Nat) : lastD (dl.map (Deed.scale s t)) i = lastD (dl.map (Deed.scale s' t)) i := by
  unfold lastD
  rw [dayD_scale s s' t, List.getElem?_map, List.getElem?_map]
  cases dl[i]? with
  | none => rfl
  | some d => cases d <;> rfl
end
/-! ### the stays as the law tells them -/
def occL (Rs : List LRows) (n : Str) (m : Nat) : Bool := match Rs[m]? with
  | some R => !decide (R n = [])
  | none => false
def lstS (occ : Nat → Bool) (day last : Nat → Int) (life : Int) (z : Option Int × List Stay) (m : Nat) : Option Int × List Stay :=
  if occ m = true then
    (if occ (m + 1) = true then (some (z.1.getD (day m)), z.2) else (none, z.2 ++ [(z.1.getD (day m), last m, life)]))
  else z
def lwtN (N : Nat) (occ : Nat → Bool) (day last : Nat → Int) (life : Int) (f : List Stay) : List Stay := ((List.range (N + 1)).foldl (lstS occ day last life) (none, f)).2
theorem stN_eq {N : Nat} {occ : Nat → Bool} {day last : Nat → Int} {life : Int} {f : List Stay} (hN : occ (N + 1) = false) : stN N occ day last life f = lwtN N occ day last life f := by
  have key : ∀ k, (List.range k).foldl (lstS occ day last life) (none, f) = if occ k = true then (List.range k).foldl (stS occ day last life) (none, f) else stS occ day last life ((List.range k).foldl (stS occ day last life) (none, f)) k := by
    intro k
    induction k with
    | zero =>
      show (none, f) = _
      split
      · rfl
      · rename_i h
        unfold stS
        rw [Bool.not_eq_true] at h
        rw [h]
        rfl
    | succ k ih =>
      rw [List.range_succ, List.foldl_append, List.foldl_append]
      show lstS occ day last life ((List.range k).foldl (lstS occ day last life) (none, f)) k = if occ (k + 1) = true then stS occ day last life ((List.range k).foldl (stS occ day last life) (none, f)) k else stS occ day last life (stS occ day last life ((List.range k).foldl (stS occ day last life) (none, f)) k) (k + 1)
      rw [ih]
      generalize (List.range k).foldl (stS occ day last life) (none, f) = z
      obtain ⟨b, l⟩ := z
      cases hk : occ k with
      | true =>
        rw [if_pos rfl]
        cases hk1 : occ (k + 1) with
        | true =>
          rw [if_pos rfl]
          unfold lstS stS
          rw [hk, hk1]
          cases b <;> rfl
        | false =>
          rw [if_neg (by decide)]
          unfold lstS stS
          rw [hk, hk1]
          cases b <;> rfl
      | false =>
        rw [if_neg (by decide)]
        cases hk1 : occ (k + 1) with
        | true =>
          rw [if_pos rfl]
          unfold lstS
          rw [hk]
          rfl
        | false =>
          rw [if_neg (by decide)]
          unfold lstS stS
          rw [hk, hk1]
          cases b <;> rfl
  have h1 := key (N + 1)
  rw [hN, if_neg (by decide)] at h1
  unfold stN lwtN
  rw [h1, show N + 2 = (N + 1) + 1 from rfl, List.range_succ (n := N + 1), List.foldl_append]
  rfl
def staysL (ns : List Str) (N : Nat) (occ : Str → Nat → Bool) (day last : Nat → Int) (life : Int) : List Stay := ns.foldl (fun f n => lwtN N (occ n) day last life f) []
theorem stN_congr {N : Nat} {occ occ' : Nat → Bool} {day day' last last' : Nat → Int} {life : Int} {f : List Stay} (h1 : ∀ m, m ≤ N + 1 → occ m = occ' m) (h2 : ∀ m, m ≤ N → day m = day' m) (h3 : ∀ m, m ≤ N → last m = last' m) (h4 : occ (N + 1) = false) : stN N occ day last life f = stN N occ' day' last' life f := by
  have key : ∀ k, k ≤ N + 2 → (List.range k).foldl (stS occ day last life) (none, f) = (List.range k).foldl (stS occ' day' last' life) (none, f) := by
    intro k
    induction k with
    | zero => intro _; rfl
    | succ k ih =>
      intro hk
      rw [List.range_succ, List.foldl_append, List.foldl_append, ih (by omega)]
      show stS occ day last life ((List.range k).foldl (stS occ' day' last' life) (none, f)) k = stS occ' day' last' life ((List.range k).foldl (stS occ' day' last' life) (none, f)) k
      generalize (List.range k).foldl (stS occ' day' last' life) (none, f) = z
      unfold stS
      rw [← h1 k (by omega)]
      by_cases hkN : k ≤ N
      · rw [h2 k hkN, h3 (k - 1) (by omega)]
      · have : k = N + 1 := by omega
        subst this
        rw [h4, h3 (N + 1 - 1) (by omega)]
        obtain ⟨b, l⟩ := z
        cases b <;> rfl
  exact congrArg Prod.snd (key (N + 2) (Nat.le_refl _))
/-- the program's stays are the law's -/
theorem stays_eq {ns : List Str} {most : Int} {s : Int} {dl : List Deed} {ss : List Stp} {Rs : List LRows} (h : Hist ns most dl ss) (hs : 1 ≤ s) (hl : Rs.length = dl.length + 1) (rel : ∀ (i : Nat) (r : Rows) (m y : Int) (R : LRows), ss[i]? = some (r, m, y) → Rs[i]? = some R → Rel s ns r R) (life : Int) :
    staysP ns dl ss life = staysL ns dl.length (occL Rs) (dayD dl) (lastD dl) life := by
  unfold staysP staysL
  have key : ∀ (l : List Str) (f : List Stay), (∀ n ∈ l, n ∈ ns) → l.foldl (fun f n => stN dl.length (thereP dl ss n) (dayAt ss) (lastAt dl ss) life f) f = l.foldl (fun f n => lwtN dl.length (occL Rs n) (dayD dl) (lastD dl) life f) f := by
    intro l
    induction l with
    | nil => intro f _; rfl
    | cons n l ih =>
      intro f hn
      rw [List.foldl_cons, List.foldl_cons, ih _ fun x hx => hn x (List.mem_cons_of_mem _ hx)]
      congr 1
      have e0 : occL Rs n (dl.length + 1) = false := by
        unfold occL
        rw [List.getElem?_eq_none (by omega)]
      have e1 : ∀ m, m ≤ dl.length + 1 → occL Rs n m = thereP dl ss n m := by
        intro m hm
        by_cases hmN : m ≤ dl.length
        · obtain ⟨r, q, y, es⟩ := h.at hmN
          obtain ⟨R, eR⟩ : ∃ R, Rs[m]? = some R := ⟨_, List.getElem?_eq_getElem (by omega)⟩
          have hr := (rel m r q y R es eR).empty hs (hn n List.mem_cons_self)
          unfold occL thereP rowAt
          rw [eR, es, decide_eq_true hmN]
          dsimp only
          by_cases z : r n = []
          · rw [decide_eq_true z, decide_eq_true (hr.mp z)]; rfl
          · rw [decide_eq_false z, decide_eq_false fun q => z (hr.mpr q)]; rfl
        · have : m = dl.length + 1 := by omega
          subst this
          rw [e0]
          unfold thereP
          rw [decide_eq_false hmN]
          rfl
      rw [← stN_eq e0]
      exact (stN_congr e1 (fun m hm => (h.day m hm).symm) (fun m hm => (h.last hm).symm) e0).symm
  exact key ns [] fun _ z => z
end DL
end

section
namespace DL
open PySem L2
def momD (ns : List Str) (R : LRows) : D := .dK (lrowsK ns R)
end DL
open PySem L2 DL
namespace K70
section
variable {P : Program} {w : World} {K : PySem.W.Frag} {mg : Str → Option Value} {base : Heap} {T : List (Addr × Str)}
/-- _law_h_drawn -/
def ldrN : DF := fun ds g C => ∃ (ns : List Str) (most : Int) (many : Nat), ds = [.strm, .lst (txts ns), .int most, .int (many : Int)] ∧ okNames ns ∧ 0 ≤ most ∧ most ≤ 1000 ∧ many ≤ 16 ∧ 2000 ≤ g ∧
  ∀ (dl : List Deed) (Rs : List LRows) (made : Int) (g' : Nat), LHist ns most dl Rs made → dl.length ≤ many → g - 2000 ≤ g' → g' ≤ g → C (.ret (.tup [.lst (dl.map dedT), .lst (Rs.map (momD ns))]) g')
theorem ok_law_h_drawn (B : Bi mg) {f : Addr} {fd : FuncData} (F : Fun K "_law_h_drawn" "_law_h_drawn" s__law_h_drawn f fd) (hE : Kn P w K mg base T "_law_h_deed" 3 hdeN) (hO : Kn P w K mg base T "_law_h_done" 1 lhdN) : FnOk P w K mg base (L2.CX P w) 4 f fd ["stream", "names", "most", "many"] (spD K T ldrN) := by
  refine okD F sc__law_h_drawn (fun ds g C h => by obtain ⟨ns, most, many, rfl, _⟩ := h; rfl) (fun cdv A outer s H E An ds g C hr tk h => ?_)
  obtain ⟨ns, most, many, rfl, okn, hm0, hm1, hmany, hg, h⟩ := h
  have nd := sc__law_h_drawn.nd
  have hfew := okn.few
  have tl : (txts ns).length = ns.length := List.length_map _
  show DSs _ T An ⟨[.dat .strm, .dat (.lst (txts ns)), .dat (.int most), .dat (.int (many : Int)), .non, .non, .non, .non, .non, .non, .non], [], An.ws, g⟩ _ _
  refine dss_cons (ds_parV3 rfl nd ?_)
  refine dv_list (da_cons (de_dv (dv_dictP rfl B.dict (da_cons (de_dv (dv_lc rfl nd (blkOk_by (own := [("name", 4)]) (by kernel_rfl)) (di_seq (de_name ?_))))))))
  walk_at "n"
  refine ⟨_, rfl, lcd_fm (fun x => match x with | .str n => [.tup [.str n, .lst []]] | _ => []) rfl (by rw [tl, sizeLine_eq]; omega) (fun i y acc D0 ey => ?_) fun a => ?_⟩
  · unfold txts at ey
    rw [List.getElem?_map] at ey
    obtain ⟨n, en, rfl⟩ := Option.map_eq_some_iff.mp ey
    walk_at "blk"
    walk_at "gg"
    walk_at "blk"
    refine dts_nil ⟨fun _ => ?_, fun z => (by cases z)⟩
    walk_at "blk"
    refine de_tup (da_cons (de_name ?_))
    walk_at "n"
    refine da_cons (de_dv (dv_list (da_nil ⟨by show 0 ≤ sizeLine; decide, fun p1 => ?_⟩)))
    exact da_nil ⟨by show 2 ≤ sizeLine; decide, rfl, rfl, rfl, rfl⟩
  have e1 : (txts ns).flatMap (fun x => match x with | .str n => [D.tup [.str n, .lst []]] | _ => []) = ns.map fun n => D.tup [.str n, .lst (intsL ((fun _ => [] : LRows) n))] := by
    unfold txts
    rw [List.flatMap_map]
    exact (List.map_eq_flatMap).symm
  rw [e1]
  refine da_nil ⟨_, _, rfl, pairs_lrows ns (fun _ => []), fun ab => ?_⟩
  rw [merge_lrows okn.nd]
  refine da_nil ⟨by show 1 ≤ sizeLine; decide, fun p1 => ?_⟩
  refine dv_de (de_int ?_)
  refine ⟨_, rfl, rfl, ?_⟩
  refine dv_list (da_nil ⟨by show 0 ≤ sizeLine; decide, fun p2 => ?_⟩)
  refine ⟨_, rfl, rfl, ?_⟩
  show DSs _ T An ⟨[.dat .strm, .dat (.lst (txts ns)), .dat (.int most), .dat (.int (many : Int)), .non, .own p1 [momD ns (fun _ => [])], .dat (.int 0), .own p2 [], .non, .non, .non], [], An.ws, g⟩ _ _
  refine dss_cons (ds_for (passes_of rfl) rfl (di_rng1 B.range ?_))
  walk_at "gs"
  refine ⟨.inl ⟨by omega, by omega⟩, da_nil ?_⟩
  refine ⟨by omega, by omega, fun i ρ => ∃ (dl : List Deed) (Rs : List LRows) (made : Int) (s8 s9 s10 : Sl) (g1 : Nat), LHist ns most dl Rs made ∧ dl.length ≤ many ∧ g - 10 * i ≤ g1 ∧ g1 ≤ g ∧
    ρ = ⟨[.dat .strm, .dat (.lst (txts ns)), .dat (.int most), .dat (.int (many : Int)), .non, .own p1 (Rs.map (momD ns)), .dat (.int made), .own p2 (dl.map dedT), s8, s9, s10], [], An.ws, g1⟩, ⟨[], [fun _ => []], 0, .non, .non, .non, g, LHist.nil hm0, Nat.zero_le _, by omega, Nat.le_refl _, rfl⟩, fun i dd ρ2 ei hI => ?_, fun ρ2 hI => ?_⟩
  · obtain ⟨dl, Rs, made, s8, s9, s10, g1, hL, hdm, hg1, hg2, rfl⟩ := hI
    have hi : i < many * 6 := by
      obtain ⟨z, _⟩ := List.getElem?_eq_some_iff.mp ei
      unfold rngD at z
      rw [List.length_map, List.length_range] at z
      omega
    have hLl := hL.len
    have hM0 := hL.made0
    have hM1 := hL.made1
    refine ⟨[8], ?_⟩
    walk_at "gg"
    refine dss_cons (ds_set nd (dv_call hE (hr.mono (by decide)) tkF (da_cons (de_name ?_))))
    walk_at "gs"
    refine ⟨ns, rfl, okn, by show 10 ≤ g1; omega, fun d g2 okd smd hga hgb => ?_⟩
    have hgb' : g2 ≤ g1 := hgb
    have hga' : g1 - 10 ≤ g2 := hga
    obtain ⟨R, eR⟩ : ∃ R, Rs[dl.length]? = some R := ⟨_, List.getElem?_eq_getElem (by omega)⟩
    have eRl : (Rs.map (momD ns)).getLast? = some (momD ns R) := by
      rw [List.getLast?_eq_getElem?, List.length_map, hLl, Nat.add_sub_cancel, List.getElem?_map, eR]
      rfl
    refine dss_cons (ds_set nd (dv_call hO (hr.mono (by decide)) tkF (da_cons (de_ixOwn ?_ ?_))))
    · exact trivial
    walk_at "gs"
    refine ⟨-1, momD ns R, rfl, atI_last eRl, ?_⟩
    walk_at "gs"
    have hshort : ∀ n, (R n).length ≤ 10000 := fun n => by
      have := hL.short hm0 (List.mem_of_getElem? eR) n
      omega
    refine ⟨ns, most, R, made, d, rfl, okn, okd, smd, hM0, by omega, hshort, ?_⟩
    have hi10 : g - 10 * (i + 1) ≤ g2 := by omega
    cases ed : doneL ns most R made d with
    | none =>
      show DSs _ T An ⟨[.dat .strm, .dat (.lst (txts ns)), .dat (.int most), .dat (.int (many : Int)), .non, .own p1 (Rs.map (momD ns)), .dat (.int made), .own p2 (dl.map dedT), .dat dd, .dat (dedT d), .dat .non], [], An.ws, g2⟩ _ _
      refine dss_cons (ds_if (dt_look fun An2 ew => ?_))
      refine dt_bool (dw_and (dt_isnt (de_name ?_)))
      walk_at "gs"
      refine ⟨rfl, fun z => (by cases z), fun _ => ⟨fun z => (by cases z), fun _ => ?_⟩⟩
      exact dss_nil (dss_nil ⟨dl, Rs, made, .dat dd, .dat (dedT d), .dat .non, g2, hL, hdm, hi10, by omega, rfl⟩)
    | some v =>
      obtain ⟨R', m'⟩ := v
      show DSs _ T An ⟨[.dat .strm, .dat (.lst (txts ns)), .dat (.int most), .dat (.int (many : Int)), .non, .own p1 (Rs.map (momD ns)), .dat (.int made), .own p2 (dl.map dedT), .dat dd, .dat (dedT d), .dat (.tup [momD ns R', .int m'])], [], An.ws, g2⟩ _ _
      refine dss_cons (ds_if (dt_look fun An2 ew => dt_imp (C1 := fun k ρ' => k = decide ((dl.length : Int) < (many : Int)) ∧ ρ'.g = g2) ?_ ?_))
      · refine dt_bool (dw_and (dt_isnt (de_name ?_)))
        walk_at "gs"
        refine ⟨rfl, fun _ => ?_, fun z => (by cases z)⟩
        refine dw_and1 (dt_lt (de_dv (dv_len B.len (da_cons (de_name ?_)))))
        walk_at "gs"
        refine lenD_seq rfl ?_
        rw [List.length_map]
        walk_at "gs"
        exact ⟨rfl, rfl⟩
      · rintro k ρ' ⟨rfl, eg⟩
        rw [eg]
        refine ⟨fun e => ?_, fun e => ?_⟩
        · have hlt : dl.length < many := by have := of_decide_eq_true e; omega
          refine dss_cons (ds_app ?_ (de_name ?_))
          · exact trivial
          walk_at "n"
          refine ⟨by rw [List.length_map, sizeLine_eq]; omega, ?_⟩
          refine dss_cons (ds_app ?_ (de_ix (de_name ?_)))
          · exact trivial
          walk_at "gs"
          refine ixD_seq (j := 0) rfl rfl rfl ?_
          refine ⟨by rw [List.length_map, sizeLine_eq]; omega, ?_⟩
          refine dss_cons (ds_set nd (dv_de (de_ix (de_name ?_))))
          walk_at "gs"
          refine ixD_seq (j := 1) rfl rfl rfl ?_
          refine dss_nil (dss_nil ⟨dl ++ [d], Rs ++ [R'], m', .dat dd, .dat (dedT d), .dat (.tup [momD ns R', .int m']), g2, hL.snoc okn.nd eR okd smd ed, by rw [List.length_append]; exact hlt, hi10, by omega, ?_⟩)
          rw [List.map_append, List.map_append]
          rfl
        · exact dss_nil (dss_nil ⟨dl, Rs, made, .dat dd, .dat (dedT d), .dat (.tup [momD ns R', .int m']), g2, hL, hdm, hi10, by omega, rfl⟩)
  · obtain ⟨dl, Rs, made, s8, s9, s10, g1, hL, hdm, hg1, hg2, rfl⟩ := hI
    have hlr : (rngD 0 ((many : Int) * 6).toNat).length ≤ 96 := by
      unfold rngD
      rw [List.length_map, List.length_range]
      omega
    refine dss_cons (ds_ret (dv_de (de_tup (da_cons (de_name ?_)))))
    walk_at "gs"
    exact ⟨by show 2 ≤ sizeLine; decide, .inl rfl, h dl Rs made _ hL hdm (by show g - 2000 ≤ g1; omega) hg2⟩
end
end K70
end

section
namespace DL
open PySem L2
def pairD (dl : List Deed) (i : Nat) : D := .tup [.int (dayD dl i), .int (lastD dl i)]
theorem dayD_some {dl : List Deed} {i : Nat} {d : Deed} (e : dl[i]? = some d) : dayD dl (i + 1) = dayD dl i + d.days := by
  unfold dayD
  rw [List.take_add_one, e, List.map_append, List.sum_append]
  simp
theorem dayD_none {dl : List Deed} {i : Nat} (e : dl[i]? = none) : dayD dl (i + 1) = dayD dl i := by
  unfold dayD
  rw [List.take_add_one, e]
  show ((dl.take i ++ []).map Deed.days).sum = _
  rw [List.append_nil]
theorem lastD_some {dl : List Deed} {i : Nat} {d : Deed} (e : dl[i]? = some d) : lastD dl i = if (d.word == ("wait" : Str)) = true then dayD dl i + d.days - 1 else dayD dl i := by
  unfold lastD
  rw [e]
  cases d with
  | wait k =>
    rw [if_pos (by kernel_rfl)]
    show dayD dl i + (k - 1) = dayD dl i + k - 1
    omega
  | _ =>
    rw [if_neg (by rw [Bool.not_eq_true]; kernel_rfl)]
    exact Int.add_zero _
theorem lastD_none {dl : List Deed} {i : Nat} (e : dl[i]? = none) : lastD dl i = dayD dl i := by
  unfold lastD
  rw [e]
  exact Int.add_zero _
theorem days_wait {d : Deed} (h : (d.word == ("wait" : Str)) = true) : d.items = [.str "wait", .int d.days] := by
  cases d with
  | wait k => rfl
  | _ => exact absurd h (by rw [Bool.not_eq_true]; kernel_rfl)
theorem days_not {d : Deed} (h : (d.word == ("wait" : Str)) = false) : d.days = 0 := by
  cases d with
  | wait k => exact absurd h (by rw [Bool.not_eq_false]; kernel_rfl)
  | _ => rfl
def waitB (dl : List Deed) (i : Nat) : Bool := match dl[i]? with
  | some d => d.word == ("wait" : Str)
  | none => false
end DL
open PySem L2 DL
namespace K70
section
variable {P : Program} {w : World} {K : PySem.W.Frag} {mg : Str → Option Value} {base : Heap} {T : List (Addr × Str)}
/-- _law_h_days -/
def ldyN : DF := fun ds g C => ∃ dl : List Deed, ds = [.lst (dl.map dedT)] ∧ dl.length ≤ 1000 ∧ C (.new ((List.range (dl.length + 1)).map (pairD dl)) g)
theorem ok_law_h_days (B : Bi mg) {f : Addr} {fd : FuncData} (F : Fun K "_law_h_days" "_law_h_days" s__law_h_days f fd) : FnOk P w K mg base (L2.CX P w) 1 f fd ["deeds"] (spD K T ldyN) := by
  refine okD F sc__law_h_days (fun ds g C h => by obtain ⟨dl, rfl, _⟩ := h; rfl) (fun cdv A outer s H E An ds g C hr tk h => ?_)
  obtain ⟨dl, rfl, hl, h⟩ := h
  have nd := sc__law_h_days.nd
  show DSs _ T An ⟨[.dat (.lst (dl.map dedT)), .non, .non, .non, .non], [], An.ws, g⟩ _ _
  refine dss_cons (ds_parV rfl nd (dv_list (da_nil ⟨by show 0 ≤ sizeLine; decide, fun p1 => ?_⟩)))
  refine dv_de (de_int ?_)
  refine ⟨_, rfl, rfl, ?_⟩
  show DSs _ T An ⟨[.dat (.lst (dl.map dedT)), .own p1 [], .dat (.int 0), .non, .non], [], An.ws, g⟩ _ _
  refine dss_cons (ds_for (passes_of rfl) rfl (di_rng1 B.range (da_cons (de_add (de_dv (dv_len B.len (da_cons (de_name ?_))))))))
  walk_at "n"
  refine da_nil ?_
  refine lenD_seq rfl ?_
  rw [List.length_map]
  walk_at "go"
  refine ⟨by omega, by omega, fun i ρ => ∃ s3 s4 : Sl, ρ = ⟨[.dat (.lst (dl.map dedT)), .own p1 ((List.range i).map (pairD dl)), .dat (.int (dayD dl i)), s3, s4], [], An.ws, g⟩, ⟨.non, .non, rfl⟩, fun i dd ρ2 ei hI => ?_, fun ρ2 hI => ?_⟩
  · obtain ⟨s3, s4, rfl⟩ := hI
    have hi : i < dl.length + 1 := by
      obtain ⟨z, _⟩ := List.getElem?_eq_some_iff.mp ei
      unfold rngD at z
      rw [List.length_map, List.length_range] at z
      omega
    have hdd : dd = D.int (i : Int) := by
      unfold rngD at ei
      rw [List.getElem?_map, List.getElem?_range (by omega)] at ei
      cases ei
      exact congrArg D.int (Int.zero_add _)
    subst hdd
    have lr : ((List.range i).map (pairD dl)).length < sizeLine := by rw [List.length_map, List.length_range, sizeLine_eq]; omega
    refine ⟨[3], ?_⟩
    walk_at "gg"
    refine dss_cons (ds_set nd (dv_imp (C1 := fun rv ρ' => rv = .v (.bl (waitB dl i)) ∧ ρ' = ⟨[.dat (.lst (dl.map dedT)), .own p1 ((List.range i).map (pairD dl)), .dat (.int (dayD dl i)), .dat (.int (i : Int)), s4], [], An.ws, g⟩) (dv_de (de_and (de_lt (de_name ?_)))) (fun rv ρ' hc => ?_)))
    · walk_at "n"
      refine de_dv (dv_len B.len (da_cons (de_name ?_)))
      walk_at "n"
      refine da_nil ?_
      refine lenD_seq rfl ?_
      rw [List.length_map]
      walk_at "n"
      refine ⟨fun e => ?_, fun e => ?_⟩
      · have hlt : i < dl.length := by have := of_decide_eq_true e; omega
        obtain ⟨d, ed⟩ : ∃ d, dl[i]? = some d := ⟨_, List.getElem?_eq_getElem hlt⟩
        refine de_one (de_eq hr.units (de_ix (de_ix (de_name ?_))))
        walk_at "go"
        refine ⟨_, _, rfl, deeds_at ed, ?_⟩
        walk_at "go"
        refine ixD_seq (j := 0) rfl rfl rfl ?_
        walk_at "go"
        refine ⟨_, (eqP_word d).1, ?_, rfl⟩
        unfold waitB
        rw [ed]
      · have hge : ¬ i < dl.length := by have := of_decide_eq_false e; omega
        refine ⟨?_, rfl⟩
        unfold waitB
        rw [List.getElem?_eq_none (by omega)]
    obtain ⟨rfl, rfl⟩ := hc
    cases hw : waitB dl i with
    | true =>
      obtain ⟨d, ed, hwd⟩ : ∃ d, dl[i]? = some d ∧ (d.word == ("wait" : Str)) = true := by
        unfold waitB at hw
        cases ed : dl[i]? with
        | none => rw [ed] at hw; cases hw
        | some d => rw [ed] at hw; exact ⟨d, rfl, hw⟩
      have e1 := dayD_some ed
      have e2 := lastD_some ed
      rw [if_pos hwd] at e2
      refine dss_cons (ds_app ?_ (de_tup (da_cons (de_name ?_))))
      · exact trivial
      walk_at "n"
      refine da_cons (de_if (dt_tru (de_name ?_)))
      walk_at "n"
      refine ⟨true, rfl, fun _ => ?_, fun z => (by cases z)⟩
      refine de_sub (de_add (de_name ?_))
      walk_at "n"
      refine de_ix (de_ix (de_name ?_))
      walk_at "go"
      refine ⟨_, _, rfl, deeds_at ed, ?_⟩
      rw [days_wait hwd]
      walk_at "go"
      refine ixD_seq (j := 1) rfl rfl rfl ?_
      walk_at "go"
      refine ⟨by show 2 ≤ sizeLine; decide, lr, ?_⟩
      refine dss_cons (ds_set nd (dv_if (dt_tru (de_name ?_))))
      walk_at "n"
      refine ⟨true, rfl, fun _ => ?_, fun z => (by cases z)⟩
      refine dv_de (de_add (de_name ?_))
      walk_at "n"
      refine de_ix (de_ix (de_name ?_))
      walk_at "go"
      refine ⟨_, _, rfl, deeds_at ed, ?_⟩
      rw [days_wait hwd]
      walk_at "go"
      refine ixD_seq (j := 1) rfl rfl rfl ?_
      refine dss_nil ⟨.dat (.int (i : Int)), .dat (.bl true), ?_⟩
      rw [List.range_succ, List.map_append, e1]
      show _ = Ev.mk [_, Sl.own p1 (_ ++ [pairD dl i]), _, _, _] _ _ _
      unfold pairD
      rw [e2]
      rfl
    | false =>
      have e12 : dayD dl (i + 1) = dayD dl i ∧ lastD dl i = dayD dl i := by
        unfold waitB at hw
        cases ed : dl[i]? with
        | none => exact ⟨dayD_none ed, lastD_none ed⟩
        | some d =>
          rw [ed] at hw
          have hw2 : (d.word == ("wait" : Str)) = false := hw
          exact ⟨by rw [dayD_some ed, days_not hw2, Int.add_zero], by rw [lastD_some ed, if_neg (by rw [hw2]; decide)]⟩
      obtain ⟨e1, e2⟩ := e12
      refine dss_cons (ds_app ?_ (de_tup (da_cons (de_name ?_))))
      · exact trivial
      walk_at "n"
      refine da_cons (de_if (dt_tru (de_name ?_)))
      walk_at "n"
      refine ⟨false, rfl, fun z => (by cases z), fun _ => ?_⟩
      walk_at "go"
      refine ⟨by show 2 ≤ sizeLine; decide, lr, ?_⟩
      refine dss_cons (ds_set nd (dv_if (dt_tru (de_name ?_))))
      walk_at "n"
      refine ⟨false, rfl, fun z => (by cases z), fun _ => ?_⟩
      walk_at "go"
      refine ⟨.dat (.int (i : Int)), .dat (.bl false), ?_⟩
      rw [List.range_succ, List.map_append, e1]
      show _ = Ev.mk [_, Sl.own p1 (_ ++ [pairD dl i]), _, _, _] _ _ _
      unfold pairD
      rw [e2]
      rfl
  · obtain ⟨s3, s4, rfl⟩ := hI
    have hlr : (rngD 0 ((dl.length : Int) + 1).toNat).length = dl.length + 1 := by
      unfold rngD
      rw [List.length_map, List.length_range]
      omega
    rw [hlr]
    refine dss_cons (ds_ret ?_)
    refine dv_back ?_
    exact ⟨rfl, h⟩
end
end K70
end

section
namespace DL
open PySem L2
theorem lstS_len (occ : Nat → Bool) (day last : Nat → Int) (life : Int) (z : Option Int × List Stay) (m : Nat) : (lstS occ day last life z m).2.length ≤ z.2.length + 1 := by
  unfold lstS
  split
  · split
    · exact Nat.le_succ _
    · rw [List.length_append]; exact Nat.le_refl _
  · exact Nat.le_succ _
theorem lstF_len (occ : Nat → Bool) (day last : Nat → Int) (life : Int) : ∀ (l : List Nat) (z : Option Int × List Stay), (l.foldl (lstS occ day last life) z).2.length ≤ z.2.length + l.length
  | [], z => Nat.le_refl _
  | m :: l, z => by
    have h1 := lstF_len occ day last life l (lstS occ day last life z m)
    have h2 := lstS_len occ day last life z m
    rw [List.foldl_cons, List.length_cons]
    omega
theorem lwtN_len (N : Nat) (occ : Nat → Bool) (day last : Nat → Int) (life : Int) (f : List Stay) : (lwtN N occ day last life f).length ≤ f.length + (N + 1) := by
  have := lstF_len occ day last life (List.range (N + 1)) (none, f)
  rw [List.length_range] at this
  exact this
theorem staysL_len (N : Nat) (occ : Str → Nat → Bool) (day last : Nat → Int) (life : Int) : ∀ (l : List Str) (f : List Stay), (l.foldl (fun f n => lwtN N (occ n) day last life f) f).length ≤ f.length + l.length * (N + 1)
  | [], f => by simp
  | n :: l, f => by
    have h1 := staysL_len N occ day last life l (lwtN N (occ n) day last life f)
    have h2 := lwtN_len N (occ n) day last life f
    rw [List.foldl_cons, List.length_cons, Nat.add_mul]
    omega
theorem moms_at {ns : List Str} {Rs : List LRows} {i : Nat} {R : LRows} (e : Rs[i]? = some R) : atI (Rs.map (momD ns)) (i : Int) = some (.dK (lrowsK ns R)) := by
  have hi : i < Rs.length := (List.getElem?_eq_some_iff.mp e).1
  unfold atI
  rw [ixN_nat (by rw [List.length_map]; exact hi)]
  show (Rs.map (momD ns))[i]? = _
  rw [List.getElem?_map, e]
  rfl
theorem pairs_at {dl : List Deed} {N i : Nat} (h : i < N) : atI ((List.range N).map (pairD dl)) (i : Int) = some (pairD dl i) := by
  unfold atI
  rw [ixN_nat (by rw [List.length_map, List.length_range]; exact h)]
  show ((List.range N).map (pairD dl))[i]? = _
  rw [List.getElem?_map, List.getElem?_range h]
  rfl
end DL
open PySem L2 DL
namespace K70
section
variable {P : Program} {w : World} {K : PySem.W.Frag} {mg : Str → Option Value} {base : Heap} {T : List (Addr × Str)}
/-- _law_stays_due -/
def lsdN : DF := fun ds g C => ∃ (ns ns' : List Str) (dl : List Deed) (Rs : List LRows) (life : Int), ds = [.lst (txts ns'), .lst (dl.map dedT), .lst (Rs.map (momD ns)), .int life] ∧ (∀ n ∈ ns', n ∈ ns) ∧ ns'.length ≤ 100 ∧ Rs.length = dl.length + 1 ∧ dl.length ≤ 16 ∧
  C (.new ((staysL ns' dl.length (occL Rs) (dayD dl) (lastD dl) life).map stD) g)
theorem ok_law_stays_due (B : Bi mg) {f : Addr} {fd : FuncData} (F : Fun K "_law_stays_due" "_law_stays_due" s__law_stays_due f fd) (h1 : Kn P w K mg base T "_law_h_days" 1 ldyN) : FnOk P w K mg base (L2.CX P w) 2 f fd ["names", "deeds", "moments", "life"] (spD K T lsdN) := by
  refine okD F sc__law_stays_due (fun ds g C h => by obtain ⟨ns, ns', dl, Rs, life, rfl, _⟩ := h; rfl) (fun cdv A outer s H E An ds g C hr tk h => ?_)
  obtain ⟨ns, ns', dl, Rs, life, rfl, hsub, hfew, hRl, hd16, h⟩ := h
  have nd := sc__law_stays_due.nd
  have tl : (txts ns').length = ns'.length := List.length_map _
  show DSs _ T An ⟨[.dat (.lst (txts ns')), .dat (.lst (dl.map dedT)), .dat (.lst (Rs.map (momD ns))), .dat (.int life), .non, .non, .non, .non, .non, .non], [], An.ws, g⟩ _ _
  refine dss_cons (ds_parV rfl nd (dv_call h1 (hr.mono (by decide)) tkF (da_cons (de_name ?_))))
  walk_at "go"
  refine ⟨dl, rfl, by omega, fun p1 => ?_⟩
  refine dv_list (da_nil ⟨by show 0 ≤ sizeLine; decide, fun p2 => ?_⟩)
  refine ⟨_, rfl, rfl, ?_⟩
  show DSs _ T An ⟨[.dat (.lst (txts ns')), .dat (.lst (dl.map dedT)), .dat (.lst (Rs.map (momD ns))), .dat (.int life), .own p1 ((List.range (dl.length + 1)).map (pairD dl)), .own p2 [], .non, .non, .non, .non], [], An.ws, g⟩ _ _
  refine dss_cons (ds_for (passes_of rfl) rfl (di_seq (de_name ?_)))
  walk_at "n"
  refine ⟨txts ns', rfl, fun i ρ => ∃ s6 s7 s8 s9 : Sl, ρ = ⟨[.dat (.lst (txts ns')), .dat (.lst (dl.map dedT)), .dat (.lst (Rs.map (momD ns))), .dat (.int life), .own p1 ((List.range (dl.length + 1)).map (pairD dl)), .own p2 (((ns'.take i).foldl (fun f n => lwtN dl.length (occL Rs n) (dayD dl) (lastD dl) life f) []).map stD), s6, s7, s8, s9], [], An.ws, g⟩, ⟨.non, .non, .non, .non, rfl⟩, fun i dy ρ2 ei hI => ?_, fun ρ2 hI => ?_⟩
  · obtain ⟨s6, s7, s8, s9, rfl⟩ := hI
    unfold txts at ei
    rw [List.getElem?_map] at ei
    obtain ⟨n, en, rfl⟩ := Option.map_eq_some_iff.mp ei
    have hn : n ∈ ns := hsub n (List.mem_of_getElem? en)
    have hin : i < ns'.length := (List.getElem?_eq_some_iff.mp en).1
    have etk : ns'.take (i + 1) = ns'.take i ++ [n] := by rw [List.take_add_one, en]; rfl
    have hln : ((ns'.take i).foldl (fun f n => lwtN dl.length (occL Rs n) (dayD dl) (lastD dl) life f) []).length ≤ 100 * 17 := by
      have h1 := staysL_len dl.length (occL Rs) (dayD dl) (lastD dl) life (ns'.take i) []
      have h2 : (ns'.take i).length ≤ 100 := by rw [List.length_take]; omega
      have h3 : (ns'.take i).length * (dl.length + 1) ≤ 100 * 17 := Nat.mul_le_mul h2 (by omega)
      rw [List.length_nil] at h1
      omega
    have hstep : (ns'.take (i + 1)).foldl (fun f n => lwtN dl.length (occL Rs n) (dayD dl) (lastD dl) life f) [] = lwtN dl.length (occL Rs n) (dayD dl) (lastD dl) life ((ns'.take i).foldl (fun f n => lwtN dl.length (occL Rs n) (dayD dl) (lastD dl) life f) []) := by
      rw [etk, List.foldl_append]
      rfl
    generalize (ns'.take i).foldl (fun f n => lwtN dl.length (occL Rs n) (dayD dl) (lastD dl) life f) [] = fd0 at hln hstep ⊢
    refine ⟨[6], ?_⟩
    walk_at "gg"
    refine dss_cons (ds_set nd (dv_de (de_non ?_)))
    refine dss_cons (ds_for (passes_of rfl) rfl (di_enum B.enumerate ?_))
    walk_at "go"
    refine ⟨Rs.map (momD ns), rfl, fun j ρ => ∃ s8 s9 : Sl, ((((List.range (dl.length + 1)).take j).foldl (lstS (occL Rs n) (dayD dl) (lastD dl) life) (none, fd0)).2.length ≤ 1700 + j) ∧
      ρ = ⟨[.dat (.lst (txts ns')), .dat (.lst (dl.map dedT)), .dat (.lst (Rs.map (momD ns))), .dat (.int life), .own p1 ((List.range (dl.length + 1)).map (pairD dl)), .own p2 ((((List.range (dl.length + 1)).take j).foldl (lstS (occL Rs n) (dayD dl) (lastD dl) life) (none, fd0)).2.map stD), .dat (.str n), .dat (optD (((List.range (dl.length + 1)).take j).foldl (lstS (occL Rs n) (dayD dl) (lastD dl) life) (none, fd0)).1), s8, s9], [], An.ws, g⟩, ⟨s8, s9, hln, rfl⟩, fun j dj ρ3 ej hJ => ?_, fun ρ3 hJ => ?_⟩
    · obtain ⟨s8, s9, hzl, rfl⟩ := hJ
      rw [enumOf_get, List.getElem?_map, Option.map_map] at ej
      obtain ⟨R, eR, rfl⟩ := Option.map_eq_some_iff.mp ej
      have hj : j < dl.length + 1 := by rw [← hRl]; exact (List.getElem?_eq_some_iff.mp eR).1
      have etj : (List.range (dl.length + 1)).take (j + 1) = (List.range (dl.length + 1)).take j ++ [j] := by rw [List.take_add_one, List.getElem?_range hj]; rfl
      have hstj : ((List.range (dl.length + 1)).take (j + 1)).foldl (lstS (occL Rs n) (dayD dl) (lastD dl) life) (none, fd0) = lstS (occL Rs n) (dayD dl) (lastD dl) life (((List.range (dl.length + 1)).take j).foldl (lstS (occL Rs n) (dayD dl) (lastD dl) life) (none, fd0)) j := by
        rw [etj, List.foldl_append]
        rfl
      have hsl := lstS_len (occL Rs n) (dayD dl) (lastD dl) life (((List.range (dl.length + 1)).take j).foldl (lstS (occL Rs n) (dayD dl) (lastD dl) life) (none, fd0)) j
      generalize ((List.range (dl.length + 1)).take j).foldl (lstS (occL Rs n) (dayD dl) (lastD dl) life) (none, fd0) = z at hzl hsl hstj ⊢
      obtain ⟨zb, zf⟩ := z
      dsimp only at hzl hsl
      have hocc : occL Rs n j = !decide (R n = []) := by unfold occL; rw [eR]
      have hpl : ((List.range (dl.length + 1)).map (pairD dl)).length = dl.length + 1 := by rw [List.length_map, List.length_range]
      refine ⟨[8, 9], ?_⟩
      dsimp only [Function.comp_apply]
      rw [Nat.zero_add]
      walk_at "gg"
      refine dss_cons (ds_imp (O1 := {
        nx := fun ρ' => ρ' = ⟨[.dat (.lst (txts ns')), .dat (.lst (dl.map dedT)), .dat (.lst (Rs.map (momD ns))), .dat (.int life), .own p1 ((List.range (dl.length + 1)).map (pairD dl)), .own p2 (zf.map stD), .dat (.str n), .dat (optD (if occL Rs n j = true then some (zb.getD (dayD dl j)) else zb)), .dat (.int (j : Int)), .dat (momD ns R)], [], An.ws, g⟩
        rt := fun _ _ => False }) (ds_if (dt_bool (dw_and (dt_ne hr.units (de_ixK hr.units (de_name ?_)))))) (fun ρ' hn => ?_) (fun _ _ z => z.elim) (fun _ z => z.elim) (fun _ z => z.elim))
      · walk_at "go"
        refine ⟨_, _, rfl, look_lrows hn, ?_⟩
        refine de_dv (dv_list (da_nil ⟨by show 0 ≤ sizeLine; decide, fun p3 => ?_⟩))
        refine ⟨_, eqP_ints (R n), ?_⟩
        walk_at "n"
        refine ⟨fun e => ?_, fun e => ⟨fun z => (by cases z), fun _ => ?_⟩⟩
        · rw [hocc, if_pos e]
          refine dw_and1 (dt_is (de_name ?_))
          walk_at "go"
          cases zb with
          | none =>
            refine ⟨rfl, fun _ => ?_, fun z => (by cases z)⟩
            refine dss_cons (ds_set nd (dv_de (de_ix (de_ixOwn ?_ ?_))))
            · exact trivial
            walk_at "go"
            refine ⟨_, _, rfl, pairs_at hj, ?_⟩
            unfold pairD
            walk_at "go"
            refine ixD_seq (j := 0) rfl rfl rfl ?_
            exact dss_nil rfl
          | some b =>
            refine ⟨rfl, fun z => (by cases z), fun _ => ?_⟩
            exact dss_nil rfl
        · rw [hocc, if_neg (by rw [e]; decide)]
          exact dss_nil rfl
      subst hn
      have hres : lstS (occL Rs n) (dayD dl) (lastD dl) life (zb, zf) j = if occL Rs n j = true then (if occL Rs n (j + 1) = true then (some (zb.getD (dayD dl j)), zf) else (none, zf ++ [(zb.getD (dayD dl j), lastD dl j, life)])) else (zb, zf) := rfl
      have lenz : (zf.map stD).length < sizeLine := by rw [List.length_map, sizeLine_eq]; omega
      refine dss_cons (ds_if (dt_imp (C1 := fun k ρ' => k = (occL Rs n j && !occL Rs n (j + 1)) ∧ ρ' = ⟨[.dat (.lst (txts ns')), .dat (.lst (dl.map dedT)), .dat (.lst (Rs.map (momD ns))), .dat (.int life), .own p1 ((List.range (dl.length + 1)).map (pairD dl)), .own p2 (zf.map stD), .dat (.str n), .dat (optD (if occL Rs n j = true then some (zb.getD (dayD dl j)) else zb)), .dat (.int (j : Int)), .dat (momD ns R)], [], An.ws, g⟩) (dt_bool (dw_and (dt_ne hr.units (de_ixK hr.units (de_name ?_))))) ?_))
      · walk_at "go"
        refine ⟨_, _, rfl, look_lrows hn, ?_⟩
        refine de_dv (dv_list (da_nil ⟨by show 0 ≤ sizeLine; decide, fun p3 => ?_⟩))
        refine ⟨_, eqP_ints (R n), ?_⟩
        walk_at "n"
        refine ⟨fun e => ?_, fun e => ⟨?_, rfl⟩⟩
        · refine dw_and1 (dt_bool (dw_or (dt_eq hr.units (de_add (de_name ?_)))))
          walk_at "go"
          refine lenD_seq rfl ?_
          rw [List.length_map, hRl]
          walk_at "n"
          refine ⟨_, eqP_int, fun e2 => ⟨?_, rfl⟩, fun e2 => ?_⟩
          · have hje : (j : Int) + 1 = ((dl.length + 1 : Nat) : Int) := eq_of_beq e2
            have hj2 : j + 1 = dl.length + 1 := by omega
            have e3 : occL Rs n (j + 1) = false := by
              unfold occL
              rw [List.getElem?_eq_none (by omega)]
            rw [e3, hocc, e]
            rfl
          · have hje : ¬ (j : Int) + 1 = ((dl.length + 1 : Nat) : Int) := by
              intro z
              rw [z, beq_self_eq_true] at e2
              cases e2
            have hj2 : j + 1 < Rs.length := by omega
            obtain ⟨R2, eR2⟩ : ∃ R2, Rs[j + 1]? = some R2 := ⟨_, List.getElem?_eq_getElem hj2⟩
            have e3 : occL Rs n (j + 1) = !decide (R2 n = []) := by unfold occL; rw [eR2]
            refine dw_or1 (dt_eq hr.units (de_ixK hr.units (de_ix (de_name ?_))))
            walk_at "go"
            rw [show (j : Int) + 1 = ((j + 1 : Nat) : Int) by omega]
            refine ⟨_, _, rfl, moms_at eR2, ?_⟩
            walk_at "go"
            refine ⟨_, _, rfl, look_lrows hn, ?_⟩
            refine de_dv (dv_list (da_nil ⟨by show 0 ≤ sizeLine; decide, fun p4 => ?_⟩))
            refine ⟨_, eqP_ints (R2 n), ?_, rfl⟩
            rw [e3, hocc, e]
            cases decide (R2 n = []) <;> rfl
        · rw [hocc, e]
          rfl
      rintro k ρ' ⟨rfl, rfl⟩
      refine ⟨fun e => ?_, fun e => ?_⟩
      · rw [Bool.and_eq_true] at e
        obtain ⟨e1, e2⟩ := e
        have e2 : occL Rs n (j + 1) = false := by simpa using e2
        rw [if_pos e1]
        rw [if_pos e1, if_neg (by rw [e2]; decide)] at hres
        refine dss_cons (ds_app ?_ (de_tup (da_cons (de_name ?_))))
        · exact trivial
        walk_at "n"
        refine da_cons (de_ix (de_ixOwn ?_ ?_))
        · exact trivial
        walk_at "go"
        refine ⟨_, _, rfl, pairs_at hj, ?_⟩
        unfold pairD
        walk_at "go"
        refine ixD_seq (j := 1) rfl rfl rfl ?_
        walk_at "go"
        refine ⟨by show 3 ≤ sizeLine; decide, lenz, ?_⟩
        refine dss_cons (ds_set nd (dv_de (de_non ?_)))
        refine dss_nil (dss_nil ⟨.dat (.int (j : Int)), .dat (momD ns R), by rw [hstj]; omega, ?_⟩)
        rw [hstj, hres, List.map_append]
        rfl
      · refine dss_nil (dss_nil ⟨.dat (.int (j : Int)), .dat (momD ns R), by rw [hstj]; omega, ?_⟩)
        rw [hstj, hres]
        cases h1 : occL Rs n j with
        | true =>
          rw [h1] at e
          have e2 : occL Rs n (j + 1) = true := by simpa using e
          rw [e2]
          rfl
        | false => rfl
    · obtain ⟨s8, s9, _, rfl⟩ := hJ
      have f2 : (List.range (dl.length + 1)).take (enumOf 0 (Rs.map (momD ns))).length = List.range (dl.length + 1) := List.take_of_length_le (by rw [enumOf_len, List.length_map, List.length_range]; omega)
      rw [f2]
      have hz2 : lwtN dl.length (occL Rs n) (dayD dl) (lastD dl) life fd0 = ((List.range (dl.length + 1)).foldl (lstS (occL Rs n) (dayD dl) (lastD dl) life) (none, fd0)).2 := rfl
      rw [hz2] at hstep
      generalize (List.range (dl.length + 1)).foldl (lstS (occL Rs n) (dayD dl) (lastD dl) life) (none, fd0) = z at hstep ⊢
      refine dss_nil ⟨.dat (.str n), .dat (optD z.1), s8, s9, ?_⟩
      rw [hstep]
  · obtain ⟨s6, s7, s8, s9, rfl⟩ := hI
    have f1 : ns'.take (txts ns').length = ns' := by rw [tl, List.take_length]
    rw [f1]
    refine dss_cons (ds_ret ?_)
    refine dv_back ?_
    exact ⟨rfl, h⟩
end
end K70
end

section
namespace DL
open PySem L2
theorem stays_py : ∀ r : List Stay, ∃ ps, toPys (r.map stD) = some ps ∧ PyData.canLayAll0 ps = true ∧ PyData.depthAll ps ≤ 60
  | [] => ⟨[], rfl, rfl, by decide⟩
  | p :: r => by
    obtain ⟨ps, h1, h2, h3⟩ := stays_py r
    refine ⟨.tuple [.int p.1, .int p.2.1, .int p.2.2] :: ps, ?_, ?_, ?_⟩
    · show toPys (stD p :: r.map stD) = _
      rw [toPys, h1]
      rfl
    · rw [PyData.canLayAll0, h2]
      rfl
    · rw [PyData.depthAll]
      have : PyData.depth (.tuple [.int p.1, .int p.2.1, .int p.2.2]) = 1 := rfl
      omega
theorem eqP_stays (r : List Stay) : eqP (.lst (r.map stD)) (.lst []) = some (decide (r = [])) := by
  obtain ⟨ps, h1, h2, h3⟩ := stays_py r
  rw [eqP_empty h1 h2 h3]
  cases r <;> rfl
def lifeOf : List Stay → Int
  | [] => 0
  | s :: _ => s.2.2
/-- each stay begins behind the days on which the one ahead is bound -/
def restB (own : List Stay) : Bool := ((List.range (own.length - 1)).map fun i => decide ((own[i + 1]?.getD (0, 0, 0)).1 > (own[i]?.getD (0, 0, 0)).2.1 + (own[i]?.getD (0, 0, 0)).2.2)).all id
theorem restB_at {own : List Stay} (h : restB own = true) {i : Nat} {a b : Stay} (ea : own[i]? = some a) (eb : own[i + 1]? = some b) : a.2.1 + a.2.2 < b.1 := by
  unfold restB at h
  rw [List.all_eq_true] at h
  have hi : i + 1 < own.length := (List.getElem?_eq_some_iff.mp eb).1
  have := h _ (List.mem_map.mpr ⟨i, List.mem_range.mpr (by omega), rfl⟩)
  rw [ea, eb] at this
  exact of_decide_eq_true this
theorem rest_far {own : List Stay} (h : restB own = true) (ok : ∀ s ∈ own, s.1 ≤ s.2.1 + s.2.2) {i : Nat} {a : Stay} (ea : own[i]? = some a) : ∀ (k : Nat) (b : Stay), own[i + 1 + k]? = some b → a.2.1 + a.2.2 < b.1
  | 0, b, eb => restB_at h ea eb
  | k + 1, b, eb => by
    have hk : i + 1 + k + 1 < own.length := (List.getElem?_eq_some_iff.mp eb).1
    obtain ⟨c, ec⟩ : ∃ c, own[i + 1 + k]? = some c := ⟨_, List.getElem?_eq_getElem (by omega)⟩
    have h1 := rest_far h ok ea k c ec
    have h2 := restB_at h ec eb
    have h3 := ok c (List.mem_of_getElem? ec)
    omega
theorem rest_pair {own : List Stay} (h : restB own = true) (ok : ∀ s ∈ own, s.1 ≤ s.2.1 + s.2.2) : own.Pairwise fun a b => a.2.1 + a.2.2 < b.1 := by
  rw [List.pairwise_iff_getElem]
  intro i j hi hj hij
  have := rest_far h ok (List.getElem?_eq_getElem hi) (j - i - 1) own[j] (by rw [show i + 1 + (j - i - 1) = j by omega]; exact List.getElem?_eq_getElem hj)
  exact this
theorem rest_one {own : List Stay} (h : own.Pairwise fun a b => a.2.1 + a.2.2 < b.1) (day : Int) : countOn own day ≤ 1 := by
  unfold countOn
  induction own with
  | nil => exact Nat.zero_le _
  | cons a l ih =>
    obtain ⟨h1, h2⟩ := List.pairwise_cons.mp h
    have hi := ih h2
    rw [List.filter_cons]
    split
    · rename_i ha
      have hz : l.filter (isOn day) = [] := by
        rw [List.filter_eq_nil_iff]
        intro b hb hon
        have := h1 b hb
        unfold isOn at ha hon
        rw [Bool.and_eq_true] at ha hon
        have a2 := of_decide_eq_true ha.2
        have b1 := of_decide_eq_true hon.1
        omega
      rw [hz]
      exact Nat.le_refl _
    · exact hi
theorem count_app (a b : List Stay) (day : Int) : countOn (a ++ b) day = countOn a day + countOn b day := by
  unfold countOn
  rw [List.filter_append, List.length_append]
theorem lstS_add (occ : Nat → Bool) (day last : Nat → Int) (life : Int) (f : List Stay) : ∀ (l : List Nat) (b : Option Int) (g : List Stay), l.foldl (lstS occ day last life) (b, f ++ g) = ((l.foldl (lstS occ day last life) (b, g)).1, f ++ (l.foldl (lstS occ day last life) (b, g)).2)
  | [], b, g => rfl
  | m :: l, b, g => by
    rw [List.foldl_cons, List.foldl_cons]
    have e : lstS occ day last life (b, f ++ g) m = ((lstS occ day last life (b, g) m).1, f ++ (lstS occ day last life (b, g) m).2) := by
      unfold lstS
      split
      · split
        · rfl
        · dsimp only
          rw [List.append_assoc]
      · rfl
    rw [e, lstS_add occ day last life f l]
theorem lwtN_add (N : Nat) (occ : Nat → Bool) (day last : Nat → Int) (life : Int) (f : List Stay) : lwtN N occ day last life f = f ++ lwtN N occ day last life [] := by
  unfold lwtN
  have := lstS_add occ day last life f (List.range (N + 1)) none []
  rw [List.append_nil] at this
  rw [this]
theorem staysL_one (N : Nat) (occ : Str → Nat → Bool) (day last : Nat → Int) (life : Int) (n : Str) : staysL [n] N occ day last life = lwtN N (occ n) day last life [] := rfl
/-- stays are in order, of one life -/
structure okSt (life : Int) (s : Stay) : Prop where
  le : s.1 ≤ s.2.1
  lf : s.2.2 = life
theorem lwtN_ok {N : Nat} {occ : Nat → Bool} {day last : Nat → Int} {life : Int} (hd : ∀ i, day i ≤ day (i + 1)) (hl : ∀ i, day i ≤ last i) : ∀ s ∈ lwtN N occ day last life [], okSt life s := by
  have key : ∀ k, (∀ b, ((List.range k).foldl (lstS occ day last life) (none, [])).1 = some b → b ≤ day k) ∧ ∀ s ∈ ((List.range k).foldl (lstS occ day last life) (none, [])).2, okSt life s := by
    intro k
    induction k with
    | zero => exact ⟨fun b e => (by cases e), fun s hs => (by cases hs)⟩
    | succ k ih =>
      rw [List.range_succ, List.foldl_append]
      show (∀ b, (lstS occ day last life _ k).1 = some b → _) ∧ ∀ s ∈ (lstS occ day last life _ k).2, _
      generalize (List.range k).foldl (lstS occ day last life) (none, []) = z at ih ⊢
      obtain ⟨zb, zf⟩ := z
      obtain ⟨h1, h2⟩ := ih
      have hg : zb.getD (day k) ≤ day k := by
        cases zb with
        | none => exact Int.le_refl _
        | some b => exact h1 b rfl
      have hdk := hd k
      have hlk := hl k
      unfold lstS
      split
      · split
        · exact ⟨fun b e => by cases e; show zb.getD (day k) ≤ _; omega, h2⟩
        · refine ⟨fun b e => (by cases e), fun s hs => ?_⟩
          rcases List.mem_append.mp hs with hs | hs
          · exact h2 s hs
          · rw [List.mem_singleton.mp hs]
            exact ⟨by show zb.getD (day k) ≤ last k; omega, rfl⟩
      · refine ⟨fun b e => ?_, h2⟩
        have := h1 b e
        omega
  exact (key (N + 1)).2
theorem staysL_ok {N : Nat} {occ : Str → Nat → Bool} {day last : Nat → Int} {life : Int} (hd : ∀ i, day i ≤ day (i + 1)) (hl : ∀ i, day i ≤ last i) (ns : List Str) : ∀ s ∈ staysL ns N occ day last life, okSt life s := by
  unfold staysL
  have key : ∀ (l : List Str) (f : List Stay), (∀ s ∈ f, okSt life s) → ∀ s ∈ l.foldl (fun f n => lwtN N (occ n) day last life f) f, okSt life s := by
    intro l
    induction l with
    | nil => intro f h; exact h
    | cons n l ih =>
      intro f h
      rw [List.foldl_cons]
      refine ih _ fun s hs => ?_
      rw [lwtN_add] at hs
      rcases List.mem_append.mp hs with hs | hs
      · exact h s hs
      · exact lwtN_ok hd hl s hs
  exact key ns [] fun s hs => by cases hs
theorem staysL_count {N : Nat} {occ : Str → Nat → Bool} {day last : Nat → Int} {life : Int} (hd : ∀ i, day i ≤ day (i + 1)) (hl : ∀ i, day i ≤ last i) (h0 : 0 ≤ life) (d : Int) (ns : List Str) (h : ∀ n ∈ ns, restB (staysL [n] N occ day last life) = true) : countOn (staysL ns N occ day last life) d ≤ ns.length := by
  unfold staysL
  have key : ∀ (l : List Str) (f : List Stay), (∀ n ∈ l, n ∈ ns) → countOn (l.foldl (fun f n => lwtN N (occ n) day last life f) f) d ≤ countOn f d + l.length := by
    intro l
    induction l with
    | nil => intro f _; exact Nat.le_refl _
    | cons n l ih =>
      intro f hn
      rw [List.foldl_cons, List.length_cons]
      have h1 := ih (lwtN N (occ n) day last life f) fun x hx => hn x (List.mem_cons_of_mem _ hx)
      have h2 := h n (hn n List.mem_cons_self)
      rw [staysL_one] at h2
      have h3 := rest_one (rest_pair h2 fun s hs => by have := lwtN_ok hd hl s hs; have := this.le; have := (lwtN_ok hd hl s hs).lf; omega) d
      rw [lwtN_add, count_app] at h1
      rw [lwtN_add]
      omega
  have := key ns [] fun _ z => z
  have e0 : countOn [] d = 0 := rfl
  rw [e0] at this
  omega
theorem foldl_max_le {k : Int} : ∀ (l : List Int) (n : Int), n ≤ k → (∀ x ∈ l, x ≤ k) → l.foldl max n ≤ k
  | [], n, h, _ => h
  | x :: l, n, h, hl => by
    rw [List.foldl_cons]
    exact foldl_max_le l _ (Int.max_le.mpr ⟨h, hl x List.mem_cons_self⟩) fun y hy => hl y (List.mem_cons_of_mem _ hy)
theorem mostOn_le {l : List Stay} {k : Nat} (h : ∀ d, countOn l d ≤ k) : mostOn l ≤ (k : Int) := by
  unfold mostOn
  have hall : ∀ x ∈ l.map (fun s => (countOn l s.1 : Int)), x ≤ (k : Int) := fun x hx => by
    obtain ⟨s, _, rfl⟩ := List.mem_map.mp hx
    have := h s.1
    omega
  cases e : l.map fun s => (countOn l s.1 : Int) with
  | nil => exact Int.natCast_nonneg k
  | cons n ns =>
    rw [e] at hall
    exact foldl_max_le ns n (hall n List.mem_cons_self) fun x hx => hall x (List.mem_cons_of_mem _ hx)
theorem dayD_mono {dl : List Deed} (h : ∀ d ∈ dl, 0 ≤ d.days) (i : Nat) : dayD dl i ≤ dayD dl (i + 1) := by
  cases e : dl[i]? with
  | none => rw [dayD_none e]; exact Int.le_refl _
  | some d =>
    rw [dayD_some e]
    have := h d (List.mem_of_getElem? e)
    omega
theorem lastD_ge {dl : List Deed} (h : ∀ d ∈ dl, (d.word == ("wait" : Str)) = true → 1 ≤ d.days) (i : Nat) : dayD dl i ≤ lastD dl i := by
  cases e : dl[i]? with
  | none => rw [lastD_none e]; exact Int.le_refl _
  | some d =>
    rw [lastD_some e]
    split
    · rename_i hw
      have := h d (List.mem_of_getElem? e) hw
      omega
    · exact Int.le_refl _
theorem days_ok {ns : List Str} {d : Deed} (h : d.ok ns) : 0 ≤ d.days ∧ ((d.word == ("wait" : Str)) = true → 1 ≤ d.days) := by
  cases d with
  | wait k => have h1 : 1 ≤ k := h; exact ⟨by show 0 ≤ k; omega, fun _ => h1⟩
  | _ => exact ⟨Int.le_refl _, fun z => absurd z (by rw [Bool.not_eq_true]; kernel_rfl)⟩
end DL
end

section
open PySem L2 DL
namespace K70
section
variable {P : Program} {w : World} {K : PySem.W.Frag} {mg : Str → Option Value} {base : Heap} {T : List (Addr × Str)}
/-- _law_rested -/
def lreN : DF := fun ds g C => ∃ (ns : List Str) (dl : List Deed) (Rs : List LRows) (l : List Stay), ds = [.lst (l.map stD), .lst (txts ns), .lst (dl.map dedT), .lst (Rs.map (momD ns))] ∧ ns.length ≤ 100 ∧ Rs.length = dl.length + 1 ∧ dl.length ≤ 16 ∧
  C (.ret (.bl (ns.all fun n => restB (staysL [n] dl.length (occL Rs) (dayD dl) (lastD dl) (lifeOf l)))) g)
theorem ok_law_rested (B : Bi mg) {f : Addr} {fd : FuncData} (F : Fun K "_law_rested" "_law_rested" s__law_rested f fd) (h1 : Kn P w K mg base T "_law_stays_due" 2 lsdN) : FnOk P w K mg base (L2.CX P w) 3 f fd ["stays", "names", "deeds", "moments"] (spD K T lreN) := by
  refine okD F sc__law_rested (fun ds g C h => by obtain ⟨ns, dl, Rs, l, rfl, _⟩ := h; rfl) (fun cdv A outer s H E An ds g C hr tk h => ?_)
  obtain ⟨ns, dl, Rs, l, rfl, hfew, hRl, hd16, h⟩ := h
  have nd := sc__law_rested.nd
  have tl : (txts ns).length = ns.length := List.length_map _
  show DSs _ T An ⟨[.dat (.lst (l.map stD)), .dat (.lst (txts ns)), .dat (.lst (dl.map dedT)), .dat (.lst (Rs.map (momD ns))), .non, .non, .non, .non], [], An.ws, g⟩ _ _
  refine dss_cons (ds_set nd (dv_de (de_bl ?_)))
  refine dss_cons (ds_for (passes_of rfl) rfl (di_seq (de_name ?_)))
  walk_at "n"
  refine ⟨txts ns, rfl, fun i ρ => ∃ s5 s6 : Sl, ρ = ⟨[.dat (.lst (l.map stD)), .dat (.lst (txts ns)), .dat (.lst (dl.map dedT)), .dat (.lst (Rs.map (momD ns))), .dat (.bl ((ns.take i).all fun n => restB (staysL [n] dl.length (occL Rs) (dayD dl) (lastD dl) (lifeOf l)))), s5, s6, .non], [], An.ws, g⟩, ⟨.non, .non, rfl⟩, fun i dy ρ2 ei hI => ?_, fun ρ2 hI => ?_⟩
  · obtain ⟨s5, s6, rfl⟩ := hI
    unfold txts at ei
    rw [List.getElem?_map] at ei
    obtain ⟨n, en, rfl⟩ := Option.map_eq_some_iff.mp ei
    have hn : n ∈ ns := List.mem_of_getElem? en
    have hstep : (ns.take (i + 1)).all (fun n => restB (staysL [n] dl.length (occL Rs) (dayD dl) (lastD dl) (lifeOf l))) = ((ns.take i).all (fun n => restB (staysL [n] dl.length (occL Rs) (dayD dl) (lastD dl) (lifeOf l))) && restB (staysL [n] dl.length (occL Rs) (dayD dl) (lastD dl) (lifeOf l))) := by
      rw [List.take_add_one, en, List.all_append]
      simp
    generalize (ns.take i).all (fun n => restB (staysL [n] dl.length (occL Rs) (dayD dl) (lastD dl) (lifeOf l))) = ap at hstep ⊢
    refine ⟨[5], ?_⟩
    walk_at "gg"
    have hol : (staysL [n] dl.length (occL Rs) (dayD dl) (lastD dl) (lifeOf l)).length ≤ 17 := by
      have := staysL_len dl.length (occL Rs) (dayD dl) (lastD dl) (lifeOf l) [n] []
      rw [List.length_nil, List.length_singleton] at this
      unfold staysL
      omega
    refine dss_cons (ds_set nd (dv_call h1 (hr.mono (by decide)) tkF (da_cons (de_dv (dv_list (da_cons (de_name ?_)))))))
    walk_at "n"
    refine da_nil ⟨by show 1 ≤ sizeLine; decide, fun p1 => ?_⟩
    walk_at "n"
    refine da_cons (de_name ?_)
    walk_at "n"
    refine da_cons (de_name ?_)
    walk_at "n"
    refine da_cons (de_imp (C1 := fun d ρ' => d = .int (lifeOf l) ∧ ρ' = ⟨[.dat (.lst (l.map stD)), .dat (.lst (txts ns)), .dat (.lst (dl.map dedT)), .dat (.lst (Rs.map (momD ns))), .dat (.bl ap), .dat (.str n), s6, .non], [], An.ws, g⟩) (de_if (dt_ne hr.units (de_name ?_))) (fun d ρ' hd => ?_))
    · walk_at "n"
      refine de_dv (dv_list (da_nil ⟨by show 0 ≤ sizeLine; decide, fun p2 => ?_⟩))
      refine ⟨_, eqP_stays l, fun e => ?_, fun e => ?_⟩
      · cases l with
        | nil => cases e
        | cons s0 l =>
          refine de_ix (de_ix (de_name ?_))
          walk_at "go"
          refine ixD_seq (j := 0) rfl rfl rfl ?_
          unfold stD
          walk_at "go"
          refine ixD_seq (j := 2) rfl rfl rfl ?_
          exact ⟨rfl, rfl⟩
      · cases l with
        | nil =>
          walk_at "go"
          exact ⟨rfl, rfl⟩
        | cons s0 l => cases e
    obtain ⟨rfl, rfl⟩ := hd
    refine da_nil ⟨ns, [n], dl, Rs, lifeOf l, rfl, fun x hx => by rw [List.mem_singleton.mp hx]; exact hn, by show 1 ≤ 100; decide, hRl, hd16, fun p3 => ?_⟩
    generalize staysL [n] dl.length (occL Rs) (dayD dl) (lastD dl) (lifeOf l) = ow at hol hstep ⊢
    refine dss_cons (ds_set nd (dv_de (de_and (de_name ?_))))
    walk_at "n"
    refine ⟨fun e => ?_, fun e => ?_⟩
    · subst e
      refine de_one (de_dv (dv_all rfl B.all (da_cons (de_dv (dv_lc rfl nd (blkOk_by (own := [("at", 7)]) (by kernel_rfl)) (di_rng1 B.range (da_cons (de_sub (de_dv (dv_len B.len (da_cons (de_name ?_))))))))))))
      walk_at "n"
      refine da_nil ?_
      refine lenD_seq rfl ?_
      rw [List.length_map]
      walk_at "go"
      have hto : ((ow.length : Int) - 1).toNat = ow.length - 1 := by omega
      refine ⟨by omega, by omega, ?_⟩
      rw [hto]
      refine lcd_fm (fun x => match x with | .int i => [.bl (decide ((ow[i.toNat + 1]?.getD (0, 0, 0)).1 > (ow[i.toNat]?.getD (0, 0, 0)).2.1 + (ow[i.toNat]?.getD (0, 0, 0)).2.2))] | _ => []) rfl (by unfold rngD; rw [List.length_map, List.length_range, sizeLine_eq]; omega) (fun j y acc D0 ey => ?_) fun a => ?_
      · have hj : j < ow.length - 1 := by
          obtain ⟨z, _⟩ := List.getElem?_eq_some_iff.mp ey
          unfold rngD at z
          rw [List.length_map, List.length_range] at z
          exact z
        have hy : y = D.int (j : Int) := by
          unfold rngD at ey
          rw [List.getElem?_map, List.getElem?_range hj] at ey
          cases ey
          exact congrArg D.int (Int.zero_add _)
        subst hy
        obtain ⟨a, ea⟩ : ∃ a, ow[j]? = some a := ⟨_, List.getElem?_eq_getElem (by omega)⟩
        obtain ⟨b, eb⟩ : ∃ b, ow[j + 1]? = some b := ⟨_, List.getElem?_eq_getElem (by omega)⟩
        have at_a : atI (ow.map stD) (j : Int) = some (stD a) := by
          unfold atI
          rw [ixN_nat (by rw [List.length_map]; omega)]
          show (ow.map stD)[j]? = _
          rw [List.getElem?_map, ea]
          rfl
        have at_b : atI (ow.map stD) ((j : Int) + 1) = some (stD b) := by
          rw [show (j : Int) + 1 = ((j + 1 : Nat) : Int) by omega]
          unfold atI
          rw [ixN_nat (by rw [List.length_map]; omega)]
          show (ow.map stD)[j + 1]? = _
          rw [List.getElem?_map, eb]
          rfl
        walk_at "blk"
        walk_at "gg"
        walk_at "blk"
        refine dts_nil ⟨fun _ => ?_, fun z => (by cases z)⟩
        walk_at "blk"
        refine de_gt (de_ix (de_ix (de_name ?_)))
        walk_at "go"
        refine ⟨_, _, rfl, at_b, ?_⟩
        unfold stD
        walk_at "go"
        refine ixD_seq (j := 0) rfl rfl rfl ?_
        walk_at "go"
        refine ⟨_, _, rfl, at_a, ?_⟩
        unfold stD
        walk_at "go"
        refine ixD_seq (j := 1) rfl rfl rfl ?_
        walk_at "go"
        refine ⟨_, _, rfl, at_a, ?_⟩
        unfold stD
        walk_at "go"
        refine ixD_seq (j := 2) rfl rfl rfl ?_
        walk_at "go"
        refine ⟨?_, rfl, rfl, rfl⟩
        show [D.bl (decide ((ow[j + 1]?.getD (0, 0, 0)).1 > _))] = _
        rw [Int.toNat_natCast, ea, eb]
        rfl
      · refine da_nil ⟨(List.range (ow.length - 1)).map fun i => decide ((ow[i + 1]?.getD (0, 0, 0)).1 > (ow[i]?.getD (0, 0, 0)).2.1 + (ow[i]?.getD (0, 0, 0)).2.2), ?_, ?_⟩
        · show some _ = some _
          congr 1
          unfold rngD
          rw [List.flatMap_map, List.map_map]
          show (List.range (ow.length - 1)).flatMap (fun i => _) = _
          rw [List.map_eq_flatMap]
          refine congrArg (List.flatMap · _) (funext fun i => ?_)
          show [D.bl (decide ((ow[((0 : Int) + (i : Int)).toNat + 1]?.getD (0, 0, 0)).1 > _))] = _
          rw [Int.zero_add, Int.toNat_natCast]
          rfl
        · refine dss_nil ⟨.dat (.str n), .dat (.lst (ow.map stD)), ?_⟩
          rw [hstep]
          rfl
    · subst e
      refine dss_nil ⟨.dat (.str n), .own p3 (ow.map stD), ?_⟩
      rw [hstep]
      rfl
  · obtain ⟨s5, s6, rfl⟩ := hI
    rw [tl, List.take_length]
    refine dss_cons (ds_ret (dv_de (de_name ?_)))
    walk_at "n"
    exact ⟨.inl rfl, h⟩
end
end K70
end

section
namespace DL
open PySem L2
def isAt : D → Prop := fun x => (∃ i : Int, x = .int i) ∨ ∃ s : Str, x = .str s
theorem deed_dom (d : Deed) : ∀ x ∈ d.items, isAt x := fun x hx => by
  rcases items_kind hx with ⟨z, rfl⟩ | ⟨z, rfl⟩
  · exact .inr ⟨z, rfl⟩
  · exact .inl ⟨z, rfl⟩
theorem eqI_list : ∀ {xs es : List D}, es.length = xs.length → (∀ (i : Nat) d e, xs[i]? = some d → es[i]? = some e → eqI d e) → es = xs
  | [], [], _, _ => rfl
  | [], _ :: _, h, _ => by simp at h
  | _ :: _, [], h, _ => by simp at h
  | x :: xs, e :: es, h, hp => by
    have h0 : e = x := hp 0 x e rfl rfl
    rw [h0, eqI_list (xs := xs) (es := es) (by simpa using h) fun i d y h1 h2 => hp (i + 1) d y (by simpa using h1) (by simpa using h2)]
theorem as_wts {ns : List Str} (okn : okNames ns) : ∀ {dl : List Deed} {es : List D}, es.length = dl.length → (∀ d ∈ dl, d.ok ns) → (∀ (i : Nat) (x : D) (d : Deed), es[i]? = some x → dl[i]? = some d → x = .lst d.items ∨ x = .tup d.items) → wts es = true
  | [], [], _, _, _ => rfl
  | [], _ :: _, h, _, _ => by simp at h
  | _ :: _, [], h, _, _ => by simp at h
  | d :: dl, e :: es, h, ok, hp => by
    have h1 : wt e = true := by
      rcases hp 0 e d rfl rfl with rfl | rfl <;> exact items_wt okn (ok d List.mem_cons_self)
    exact wts_cons h1 (as_wts okn (by simpa using h) (fun x hx => ok x (List.mem_cons_of_mem _ hx)) fun i x y h1 h2 => hp (i + 1) x y (by simpa using h1) (by simpa using h2))
/-- deeds as they are handed on -/
theorem fits_as {ns : List Str} (okn : okNames ns) {dl : List Deed} (h : ∀ d ∈ dl, d.ok ns) {y : D} (hy : PrL (PrL eqI) (.lst (dl.map dedT)) y) : Fits y dl := by
  obtain ⟨es, he, hl, hp⟩ := hy
  have hl2 : es.length = dl.length := by rw [hl]; exact List.length_map _
  have hq : ∀ (i : Nat) (x : D) (d : Deed), es[i]? = some x → dl[i]? = some d → x = .lst d.items ∨ x = .tup d.items := fun i x d ex ed => by
    obtain ⟨xs, hx, hxl, hxp⟩ := hp i (dedT d) x (by show (dl.map dedT)[i]? = _; rw [List.getElem?_map, ed]; rfl) ex
    have : xs = d.items := eqI_list hxl hxp
    subst this
    exact hx
  have hw := as_wts okn hl2 h hq
  rcases he with rfl | rfl
  · exact ⟨⟨es, rfl, hl2, hq⟩, rfl, hw⟩
  · exact ⟨⟨es, rfl, hl2, hq⟩, rfl, hw⟩
theorem stays_odd {life : Int} (h0 : 0 ≤ life) {l : List Stay} (h : ∀ s ∈ l, okSt life s ∧ 0 ≤ s.1) : oddOf isStay (.lst (l.map stD)) = .non := by
  show natD (firstOdd isStay (items (.lst (l.map stD)))) = _
  have e : firstOdd isStay (items (.lst (l.map stD))) = none := List.findIdx?_eq_none_iff.mpr fun y hy => by
    obtain ⟨⟨b, e, f⟩, hs, rfl⟩ := List.mem_map.mp hy
    obtain ⟨⟨h1, h2⟩, h3⟩ := h _ hs
    have h1' : b ≤ e := h1
    have h2' : f = life := h2
    have h3' : 0 ≤ b := h3
    show (!(decide (0 ≤ b) && decide (0 ≤ e) && decide (0 ≤ f) && decide (b ≤ e))) = false
    rw [decide_eq_true h1', decide_eq_true (show 0 ≤ e by omega), decide_eq_true (show 0 ≤ f by omega), decide_eq_true h3']
    rfl
  rw [e]
  rfl
theorem stays_tup (l : List Stay) : (l.map stD).map K70.tupS = l.map stD := by
  rw [List.map_map]
  rfl
theorem stays_wt (l : List Stay) : wts (l.map stD) = true := by
  induction l with
  | nil => rfl
  | cons s l ih => rw [List.map_cons]; unfold wts; rw [ih]; rfl
theorem stays_sm {l : List Stay} (h : l.length < sizeLine) : sm 3 (.lst (l.map stD)) = true := by
  show (decide ((l.map stD).length < sizeLine) && (l.map stD).all (sm 2)) = true
  rw [decide_eq_true (by rw [List.length_map]; exact h), Bool.true_and, List.all_eq_true]
  intro x hx
  obtain ⟨s, _, rfl⟩ := List.mem_map.mp hx
  show (decide (3 < sizeLine) && _) = true
  rw [decide_eq_true (by decide)]
  rfl
theorem sm_pair {n : Nat} {s : Str} {d : D} (hs : SeqAt.shaped (.str s) = true) (hd : sm (n + 1) d = true) : sm (n + 2) (.lst [.str s, d]) = true := by
  show (decide (2 < sizeLine) && (SeqAt.shaped (.str s) && (sm (n + 1) d && true))) = true
  rw [hs, hd]
  decide
theorem sh_life : SeqAt.shaped (.str "life") = true := by first | rfl | decide +kernel
end DL
open PySem L2 DL
namespace K70
section
variable {P : Program} {w : World} {K : PySem.W.Frag} {mg : Str → Option Value} {base : Heap} {T : List (Addr × Str)}
theorem ok_asA (B : Bi mg) {f : Addr} {fd : FuncData} (F : Fun K "_law_as_lists" "_law_as_lists" s__law_as_lists f fd) : FnOk P w K mg base (L2.CX P w) 1 f fd ["stream", "thing"] (spD K T (asF isAt eqI 0)) := by
  refine okD F sc__law_as_lists as_len (fun cdv A outer s H E An ds g C hr tk h => ?_)
  obtain ⟨x, rfl, hx, hg, h⟩ := h
  have nd := sc__law_as_lists.nd
  have hx2 : isTys x ["list", "tuple"] = some false := by rcases hx with ⟨i, rfl⟩ | ⟨z, rfl⟩ <;> rfl
  show DSs _ T An ⟨[.dat .strm, .dat x, .non, .non], [], An.ws, g⟩ _ _
  refine dss_cons (ds_if ?_)
  refine dt_tru (de_isis B.isinstance (.cons rfl B.list bt_list (by decide) (by decide) rfl (.cons rfl B.tuple bt_tuple (by decide) (by decide) rfl .nil)) (by decide) (by simp) ?_)
  walk_at "go"
  refine ⟨false, hx2, false, rfl, fun z => (by cases z), fun _ => ?_⟩
  walk_at "go"
  exact ⟨.inl rfl, (h x g rfl (by omega) (Nat.le_refl _)).1⟩
/-! ### _law_met -/
def metR : D → Nat → Out := fun d g => .new [.str "told", d] g
def metM (CL : Addr) : (Out → Prop) → XC := fun C c fs g => c = CL ∧ ∃ d, fs = [(("life" : Str), d)] ∧ C (.new [.str "life", d] g)
structure MetE (P : Program) (w : World) (K : PySem.W.Frag) (mg : Str → Option Value) (base : Heap) (CL : Addr) : Prop where
  l : KnE P w K mg base "BadLife" CL "life"
  ll : PySem.W.exmOne K (.ref CL) (.ref CL) = some true
theorem gives_met {X : Cx} {q : Str} {g CL : Addr} {cdg : Value} (B : Bi X.mg) (M : MetE X.prog X.w X.K X.mg X.base CL) :
    LamX.GivesTo X ["ask", "e"] "_law_met" (defScope s__law_met) g cdg (defBody s__law_met) "ask" q (TTmet X.K T metR (metM CL)) := by
  refine gives_D sc__law_met (fun s H An f gas Cr xm C h1 h2 hcall => ?_)
  have nd := sc__law_met.nd
  show DSs _ T An ⟨[.dat (.ref f), .non], [], An.ws, gas⟩ _ _
  refine dss_cons (ds_try (i := 1) (xc := fun _ _ _ => False) rfl rfl nd rfl rfl tkF (.cons M.l.cl rfl (by decide) .nil) (fun pn xe tk po => ?_))
  refine dss_cons (ds_ret (dv_list (da_cons (de_str (da_cons (de_dv (dv_imp (hcall pn xe _ _ _ (fun c fs g' hx => ?_) tk) ?_)))))))
  · obtain ⟨rfl, d, rfl, hc⟩ := h2 c fs g' hx
    refine ⟨true, M.ll, fun _ a dx => ?_, fun z => (by cases z)⟩
    intro oe pn hz hf
    refine dss_cons (ds_ret (dv_list (da_cons (de_str (da_cons (de_xf (w := X.w) (fn := "life") M.l hz hf rfl rfl (d := d) rfl ?_))))))
    refine da_nil ⟨by show 2 ≤ sizeLine; decide, fun a => ⟨rfl, hc⟩⟩
  · rintro r ρ' ⟨e1, e2⟩
    refine da_nil ⟨by show 2 ≤ sizeLine; decide, fun a => ⟨e1, ?_⟩⟩
    exact h1 r _ e2
/-- _law_met, as it is called -/
structure MetF (K : PySem.W.Frag) (mg : Str → Option Value) (g : Addr) : Prop where
  nm : mg "_law_met" = some (.ref g)
  kp : PySem.W.keepIn K (.ref g) = true
  at_ : FnAt K g
  ex : ∃ (oc : Value) (od : Option Addr) (dV kV doc pm : Value) (an : Option Addr) (cdv ct : Value) (osl : Array (Option Value)),
    K.lookup g = some ⟨oc, od, .func (PySem.W.fnOf "_law_met" "_law_met" (defArgs s__law_met) (defBody s__law_met) (defScope s__law_met) dV kV doc pm an cdv ct), osl⟩ ∧ PySem.W.codeIn K cdv "_law_met" = true ∧
    L2.Binds K (PySem.W.fnOf "_law_met" "_law_met" (defArgs s__law_met) (defBody s__law_met) (defScope s__law_met) dV kV doc pm an cdv ct) ["ask"] []
theorem dv_metL {X : Cx} {A : Anc} {ρ : Ev} {C : CV} {CL g c Pc : Addr} {k : Nat} {params : Arguments} {body : Expr} {scope : Scope} {p lpos pos : Pos} (B : Bi X.mg) (M : MetE X.prog X.w X.K X.mg X.base CL) (MF : MetF X.K X.mg g) (Cr : RV → Nat → Prop) (xm : XC)
    (h : ∀ (F H : Hp) (A1 : Around) (outer : List Env) (s : Shared) (H2 : Hp) (E : XK) (f c' : Addr), Room k (A1.deeper (LamX.lamEnv X scope s.heap.objs.size f c')) → Takes (LamX.lamCx X A1 outer s H2 E scope f c') (WD X.K T ⟨F, H, ρ.ws⟩ xm) →
      DV (LamX.lamCx X A1 outer s H2 E scope f c') T ⟨F, H, ρ.ws⟩ ⟨starS ρ.sl, [], ρ.ws, ρ.g⟩ body (fun r ρ' => Cr r ρ'.g))
    (h1 : ∀ r g', Cr r g' → outD A (fun _ _ _ => False) C ρ (metR r.toD g')) (h2 : ∀ c fs g', xm c fs g' → metM CL (outD A (fun _ _ _ => False) C ρ) c fs g')
    (TB : LamX.TabB X.base X.mg c Pc) (hcode : X.env.code = .ref c) (hmT : (Pc, X.env.qual ++ "<lambda>") ∈ T) (hu : ∀ p ∈ T, p.1 = Pc → p.2 = X.env.qual ++ "<lambda>") (hr : Room (k + 2) X.A) (L : LamX.LamS X.env.scope scope)
    (hg : Gl X "_law_met" := by rfl) (hdef : defaultsOf params X.env = ([], []) := by rfl)
    (hbind : ∀ (q : Str) (cl : List (Str × Addr)) (pm cv ctv : Value), bindArgs (PySem.W.kla_fn "<lambda>" q params body scope cl pm cv ctv) ⟨[], []⟩ = pure [] := by intro _ _ _ _ _; rfl) : DV X T A ρ (.Call (.Name "_law_met" p) [.Lambda params body scope lpos] [] pos) C := by
  obtain ⟨nm, kp, _, oc, od, dV, kV, doc, pm, an, cdv, ct, osl, lk, hcd, hb⟩ := MF
  exact dv_met Cr xm h h1 h2 (gives_met B M) nm kp lk hcd hb sc__law_met rfl (Or.inl rfl) TB hcode hmT hu hr L hg hdef hbind
end
end K70
end

section
namespace DL
open PySem L2
/-- all that is known of a drawn history and of the program's -/
structure Both (ns : List Str) (most : Int) (dl : List Deed) (Rs : List LRows) (ss : List Stp) : Prop where
  okn : okNames ns
  hh : Hist ns most dl ss
  len : Rs.length = dl.length + 1
  st : ∀ life : Int, staysP ns dl ss life = staysL ns dl.length (occL Rs) (dayD dl) (lastD dl) life
theorem dayD_nonneg {dl : List Deed} (h : ∀ d ∈ dl, 0 ≤ d.days) : ∀ i, 0 ≤ dayD dl i
  | 0 => Int.le_refl _
  | i + 1 => Int.le_trans (dayD_nonneg h i) (dayD_mono h i)
theorem lwtN_pos {N : Nat} {occ : Nat → Bool} {day last : Nat → Int} {life : Int} (h0 : ∀ i, 0 ≤ day i) : ∀ s ∈ lwtN N occ day last life [], 0 ≤ s.1 := by
  have key : ∀ k, (∀ b, ((List.range k).foldl (lstS occ day last life) (none, [])).1 = some b → 0 ≤ b) ∧ ∀ s ∈ ((List.range k).foldl (lstS occ day last life) (none, [])).2, 0 ≤ s.1 := by
    intro k
    induction k with
    | zero => exact ⟨fun b e => (by cases e), fun s hs => (by cases hs)⟩
    | succ k ih =>
      rw [List.range_succ, List.foldl_append]
      show (∀ b, (lstS occ day last life _ k).1 = some b → _) ∧ ∀ s ∈ (lstS occ day last life _ k).2, _
      generalize (List.range k).foldl (lstS occ day last life) (none, []) = z at ih ⊢
      obtain ⟨zb, zf⟩ := z
      obtain ⟨h1, h2⟩ := ih
      have hg : 0 ≤ zb.getD (day k) := by
        cases zb with
        | none => exact h0 k
        | some b => exact h1 b rfl
      unfold lstS
      split
      · split
        · exact ⟨fun b e => by cases e; exact hg, h2⟩
        · refine ⟨fun b e => (by cases e), fun s hs => ?_⟩
          rcases List.mem_append.mp hs with hs | hs
          · exact h2 s hs
          · rw [List.mem_singleton.mp hs]
            exact hg
      · exact ⟨fun b e => h1 b e, h2⟩
  exact (key (N + 1)).2
theorem staysL_pos {N : Nat} {occ : Str → Nat → Bool} {day last : Nat → Int} {life : Int} (h0 : ∀ i, 0 ≤ day i) (ns : List Str) : ∀ s ∈ staysL ns N occ day last life, 0 ≤ s.1 := by
  unfold staysL
  have key : ∀ (l : List Str) (f : List Stay), (∀ s ∈ f, 0 ≤ s.1) → ∀ s ∈ l.foldl (fun f n => lwtN N (occ n) day last life f) f, 0 ≤ s.1 := by
    intro l
    induction l with
    | nil => intro f h; exact h
    | cons n l ih =>
      intro f h
      rw [List.foldl_cons]
      refine ih _ fun s hs => ?_
      rw [lwtN_add] at hs
      rcases List.mem_append.mp hs with hs | hs
      · exact h s hs
      · exact lwtN_pos h0 s hs
  exact key ns [] fun s hs => by cases hs
section
variable {ns : List Str} {most : Int} {dl : List Deed} {Rs : List LRows} {ss : List Stp}
theorem Both.mono (b : Both ns most dl Rs ss) (i : Nat) : dayD dl i ≤ dayD dl (i + 1) := dayD_mono (fun d hd => (days_ok (b.hh.ok d hd)).1) i
theorem Both.last (b : Both ns most dl Rs ss) (i : Nat) : dayD dl i ≤ lastD dl i := lastD_ge (fun d hd => (days_ok (b.hh.ok d hd)).2) i
theorem Both.okst (b : Both ns most dl Rs ss) (life : Int) : ∀ s ∈ staysL ns dl.length (occL Rs) (dayD dl) (lastD dl) life, okSt life s ∧ 0 ≤ s.1 := fun s hs =>
  ⟨staysL_ok b.mono b.last ns s hs, staysL_pos (dayD_nonneg fun d hd => (days_ok (b.hh.ok d hd)).1) ns s hs⟩
theorem Both.len2 (b : Both ns most dl Rs ss) (life : Int) : (staysL ns dl.length (occL Rs) (dayD dl) (lastD dl) life).length ≤ 1700 := by
  have h1 := staysL_len dl.length (occL Rs) (dayD dl) (lastD dl) life ns []
  have h2 := b.okn.few
  have h3 := b.hh.few
  have h4 : ns.length * (dl.length + 1) ≤ 100 * 17 := Nat.mul_le_mul h2 (by omega)
  rw [List.length_nil] at h1
  unfold staysL
  omega
/-- where stays rest, no more addresses are needed than there are -/
theorem Both.rest (b : Both ns most dl Rs ss) {life : Int} (h0 : 0 ≤ life) (h : (ns.all fun n => restB (staysL [n] dl.length (occL Rs) (dayD dl) (lastD dl) (lifeOf (staysL ns dl.length (occL Rs) (dayD dl) (lastD dl) life)))) = true) : mostOn (staysL ns dl.length (occL Rs) (dayD dl) (lastD dl) life) ≤ (ns.length : Int) := by
  cases e : staysL ns dl.length (occL Rs) (dayD dl) (lastD dl) life with
  | nil => exact Int.natCast_nonneg _
  | cons s l =>
    have hs : s.2.2 = life := (b.okst life s (by rw [e]; exact List.mem_cons_self)).1.lf
    rw [e] at h
    rw [show lifeOf (s :: l) = life from hs, List.all_eq_true] at h
    rw [← e]
    exact mostOn_le fun d => staysL_count b.mono b.last h0 d ns h
end
end DL
open PySem L2 DL
namespace K70
section
variable {P : Program} {w : World} {K : PySem.W.Frag} {mg : Str → Option Value} {base : Heap} {T : List (Addr × Str)}
structure Lw (P : Program) (w : World) (K : PySem.W.Frag) (mg : Str → Option Value) (base : Heap) (T : List (Addr × Str)) (CS CL LC HC gm c p : Addr) : Prop where
  str : Kn P w K mg base T "_law_stream" 1 strN
  dra : Kn P w K mg base T "_law_draw" 1 draN
  pic : Kn P w K mg base T "_law_pick" 2 picN
  drn : Kn P w K mg base T "_law_h_drawn" 4 ldrN
  lnd : KnC P w K mg base T "Land" LC 8 (lanN LC)
  his : KnC P w K mg base T "History" HC 7 (hisN HC LC)
  asl : Kn P w K mg base T "_law_as_lists" 3 (asF (DomL (DomL isAt 5) 16) (PrL (PrL eqI)) 17)
  due : Kn P w K mg base T "_law_stays_due" 2 lsdN
  sta : Kn P w K mg base T "stays_of" 5 (staN HC LC CL)
  stK : KnK P w K mg base T "stays_of" 5 (staN HC LC CL) ["life", "history"] [1, 0]
  sam : Kn P w K mg base T "_law_same" 4 (sameN 3)
  res : Kn P w K mg base T "_law_rested" 3 lreN
  lea : Kn P w K mg base T "least_addresses" 8 (lstN CS)
  sca : Kn P w K mg base T "scaled" 10 (scaN HC LC)
  me : MetE P w K mg base CL
  mf : MetF K mg gm
  tb : Tb base mg T "law" c p
def forB : Stmt → List Stmt
  | .For _ _ b _ _ => b
  | _ => []
abbrev turnB : List Stmt := forB ((defBody s_law).getD 0 (.Pass ⟨0, 0, 0, 0⟩))
abbrev lifeB : List Stmt := forB (turnB.getD 6 (.Pass ⟨0, 0, 0, 0⟩))
abbrev NL : List Str := ["script", "turn", "stream", "some", "names", "most", "deeds", "moments", "life", "due", "times", "far", "deed", "late", "history", "odd"]
theorem life_law (B : Bi mg) {CS CL LC HC gm c p : Addr} (L : Lw P w K mg base T CS CL LC HC gm c p) {f : Addr} {cdv : Value} {A : Around} {outer : List Env} {s : Shared} {H : Hp} {E : XK} {An : Anc} {C : Out → Prop} (hr : Room 12 (A.deeper (PyProof.Rows.envOfC "law" (defScope s_law) s.heap.objs.size f cdv)))
    {ns : List Str} {most life : Int} {dl : List Deed} {Rs : List LRows} {ss : List Stp} (b : Both ns most dl Rs ss) (h0 : 0 ≤ life) {s0 s1 s3 s5 s9 s10 s11 s13 s15 : Sl} {ws : List Addr} {g : Nat} {O : DO}
    (hn : ∀ s9 : Sl, O.nx ⟨[s0, s1, .dat .strm, s3, .dat (.lst (txts ns)), s5, .dat (.lst (dl.map dedT)), .dat (.lst (Rs.map (momD ns))), .dat (.int life), s9, s10, s11, .non, s13, .dat (histD HC LC ns most dl ss), s15], [], ws, g⟩) :
    DSs (bodyCx P w K mg base NL "law" s_law f cdv A outer s H E) T An ⟨[s0, s1, .dat .strm, s3, .dat (.lst (txts ns)), s5, .dat (.lst (dl.map dedT)), .dat (.lst (Rs.map (momD ns))), .dat (.int life), s9, s10, s11, .non, s13, .dat (histD HC LC ns most dl ss), s15], [], ws, g⟩ lifeB O := by
  have nd := sc_law.nd
  have hfew := b.okn.few
  have hl := b.len2 life
  have e1 := b.st life
  have hok := b.okst life
  have hrest := b.rest h0
  refine dss_cons (ds_set nd (dv_call L.due (hr.mono (by decide)) tkF (da_cons (de_name ?_))))
  walk_at "gs"
  refine ⟨ns, ns, dl, Rs, life, rfl, fun _ z => z, hfew, b.len, b.hh.few, fun a1 => ?_⟩
  generalize hd : staysL ns dl.length (occL Rs) (dayD dl) (lastD dl) life = l at hl e1 hok hrest ⊢
  have hl2 : l.length < sizeLine := by rw [sizeLine_eq]; omega
  refine dss_cons (ds_appNew (dv_call L.sta (hr.mono (by decide)) tkF (da_cons (de_name ?_))))
  walk_at "gs"
  refine ⟨ns, most, dl, ss, .int life, rfl, rfl, .inr ⟨life, rfl, h0, b.okn, b.hh, ?_⟩⟩
  rw [e1]
  intro a3
  refine ⟨_, _, rfl, de_str ⟨_, rfl, rfl, by rw [List.length_map]; exact hl2, ?_⟩⟩
  walk_at "n"
  refine dss_cons (ds_if (dt_not (dt_tru (de_dv (dv_call L.sam (hr.mono (by decide)) tkF (da_cons (de_dv (dv_callK L.stK (hr.mono (by decide)) tkF (dk_cons ?_)))))))))
  walk_at "gs"
  refine dk_cons ?_
  walk_at "gs"
  refine dk_nil ⟨rfl, ?_⟩
  refine ⟨ns, most, dl, ss, .int life, rfl, rfl, .inr ⟨life, rfl, h0, b.okn, b.hh, ?_⟩⟩
  rw [e1]
  intro a4
  walk_at "n"
  refine da_cons (de_name ?_)
  walk_at "gs"
  refine ⟨.lst (l.map stD), rfl, stays_sm hl2, ?_⟩
  walk_at "n"
  refine ⟨true, rfl, fun z => (by cases z), fun _ => ?_⟩
  refine dss_nil (dss_cons (ds_if (dt_bool (dw_and (dt_tru (de_dv (dv_call L.res (hr.mono (by decide)) tkF (da_cons (de_name ?_)))))))))
  walk_at "gs"
  refine ⟨ns, dl, Rs, l, rfl, hfew, b.len, b.hh.few, ?_⟩
  walk_at "n"
  refine ⟨_, rfl, fun e => ?_, fun _ => ⟨fun z => (by cases z), fun _ => ?_⟩⟩
  · refine dw_and1 (dt_gt (de_dv (dv_call L.lea (hr.mono (by decide)) tkF (da_cons (de_name ?_)))))
    walk_at "gs"
    refine ⟨.lst (l.map stD), rfl, stays_wt l, by show (l.map stD).length ≤ _; rw [List.length_map]; omega, .inl ⟨l, stays_odd h0 hok, stays_tup l, ?_⟩⟩
    walk_at "gs"
    refine lenD_seq rfl ?_
    have tl : (txts ns).length = ns.length := List.length_map _
    rw [tl]
    walk_at "n"
    have hm := hrest e
    refine ⟨fun z => ?_, fun _ => ?_⟩
    · have := of_decide_eq_true z
      omega
    · exact dss_nil (dss_nil (hn _))
  · exact dss_nil (dss_nil (hn _))
end
end K70
end

section
namespace DL
open PySem L2
def namesL : List D := [.lst (txts ["a", "b"]), .lst (txts ["b", "a", "c"]), .lst (txts ["x1", "a", "zz", "b"]), .lst (txts ["a", "b", "c", "d", "e", "f"])]
theorem okNames_of {ns : List Str} (h : (ns.all nameB && decide (ns.Nodup) && decide (2 ≤ ns.length) && decide (ns.length ≤ 100)) = true) : okNames ns := by
  rw [Bool.and_eq_true, Bool.and_eq_true, Bool.and_eq_true] at h
  exact ⟨List.all_eq_true.mp h.1.1.1, of_decide_eq_true h.1.1.2, of_decide_eq_true h.1.2, of_decide_eq_true h.2⟩
theorem namesL_of {d : D} (h : d ∈ namesL) : ∃ ns, d = .lst (txts ns) ∧ okNames ns := by
  unfold namesL at h
  simp only [List.mem_cons, List.not_mem_nil, or_false] at h
  rcases h with rfl | rfl | rfl | rfl
  · exact ⟨_, rfl, okNames_of (by decide +kernel)⟩
  · exact ⟨_, rfl, okNames_of (by decide +kernel)⟩
  · exact ⟨_, rfl, okNames_of (by decide +kernel)⟩
  · exact ⟨_, rfl, okNames_of (by decide +kernel)⟩
def lateF (t : Int) : D → List D
  | .tup [.str w, .int k] => [.tup [.str "wait", .int (k * t)]]
  | d => [d]
theorem late_ok (t : Int) (d : Deed) : lateF t (dedT d) = [dedT (d.scale 1 t)] := by
  cases d with
  | wait k => rfl
  | make a k => show [dedT (.make a k)] = [dedT (.make a (k * 1))]; rw [Int.mul_one]
  | grow a k => show [dedT (.grow a k)] = [dedT (.grow a (k * 1))]; rw [Int.mul_one]
  | cut a k b => show [dedT (.cut a k b)] = [dedT (.cut a (k * 1) b)]; rw [Int.mul_one]
  | split a k b c => show [dedT (.split a k b c)] = [dedT (.split a (k * 1) b c)]; rw [Int.mul_one]
  | drop a i k => show [dedT (.drop a i k)] = [dedT (.drop a (i * 1) (k * 1))]; rw [Int.mul_one, Int.mul_one]
  | move a b => rfl
  | swap a b => rfl
  | pour a b => rfl
  | fin a => rfl
theorem late_all (t : Int) (dl : List Deed) : (dl.map dedT).flatMap (lateF t) = (dl.map (Deed.scale 1 t)).map dedT := by
  induction dl with
  | nil => rfl
  | cons d dl ih => rw [List.map_cons, List.flatMap_cons, ih, late_ok]; rfl
/-- the drawn history as the program has it, with greater numbers too -/
theorem both_of {ns : List Str} {most made : Int} {dl : List Deed} {Rs : List LRows} (okn : okNames ns) (h : LHist ns most dl Rs made) (few : dl.length ≤ 16) {s t : Int} (hs : 1 ≤ s) (ht : 1 ≤ t) : ∃ ss, Both ns (most * s) (dl.map (Deed.scale s t)) Rs ss := by
  obtain ⟨ss, h1, h2⟩ := h.hist okn.nd hs ht few
  have hl : Rs.length = (dl.map (Deed.scale s t)).length + 1 := by rw [List.length_map]; exact h.len
  exact ⟨ss, okn, h1, hl, fun life => stays_eq h1 hs hl h2 life⟩
theorem both_one {ns : List Str} {most made : Int} {dl : List Deed} {Rs : List LRows} (okn : okNames ns) (h : LHist ns most dl Rs made) (few : dl.length ≤ 16) : ∃ ss, Both ns most dl Rs ss := by
  obtain ⟨ss, b⟩ := both_of okn h few (s := 1) (t := 1) (by decide) (by decide)
  rw [scale_ones, Int.mul_one] at b
  exact ⟨ss, b⟩
end DL
open PySem L2 DL
namespace K70
section
variable {P : Program} {w : World} {K : PySem.W.Frag} {mg : Str → Option Value} {base : Heap} {T : List (Addr × Str)}
theorem body_law (B : Bi mg) {CS CL LC HC gm c p : Addr} (L : Lw P w K mg base T CS CL LC HC gm c p) {f : Addr} {A : Around} {outer : List Env} {s : Shared} {H : Hp} {E : XK} {An : Anc} {ns0 : List Int} (hns : ns0.length ≤ 63) {C : Out → Prop} (hr : Room 12 (A.deeper (PyProof.Rows.envOfC "law" (defScope s_law) s.heap.objs.size f (.ref c))))
    (h : ∀ g', C (.ret (.bl true) g')) : DSs (bodyCx P w K mg base NL "law" s_law f (.ref c) A outer s H E) T An ⟨[.dat (.kl (ns0.map D.int)), .non, .non, .non, .non, .non, .non, .non, .non, .non, .non, .non, .non, .non, .non, .non], [], An.ws, 300000⟩ (defBody s_law) (bodyO An.ws C) := by
  have nd := sc_law.nd
  refine dss_cons (ds_for (passes_of rfl) rfl (di_rng1 B.range ?_))
  walk_at "gs"
  refine ⟨by decide, by decide, fun i ρ => ∃ (s1 s2 s3 s4 s5 s6 s7 s8 s9 s10 s11 s13 s14 s15 : Sl) (ws : List Addr) (g1 : Nat), 300000 - 100000 * i ≤ g1 ∧ g1 ≤ 300000 ∧ ρ = ⟨[.dat (.kl (ns0.map D.int)), s1, s2, s3, s4, s5, s6, s7, s8, s9, s10, s11, .non, s13, s14, s15], [], ws, g1⟩, ⟨.non, .non, .non, .non, .non, .non, .non, .non, .non, .non, .non, .non, .non, .non, An.ws, 300000, by omega, by omega, rfl⟩, fun i dd ρ2 ei hI => ?_, fun ρ2 hI => ?_⟩
  · obtain ⟨s1, s2, s3, s4, s5, s6, s7, s8, s9, s10, s11, s13, s14, s15, ws, g1, q1, q2, rfl⟩ := hI
    have hi3 : i < 3 := by
      obtain ⟨z, _⟩ := List.getElem?_eq_some_iff.mp ei
      exact z
    unfold rngD at ei
    rw [List.getElem?_map] at ei
    obtain ⟨i6, e6, rfl⟩ := Option.map_eq_some_iff.mp ei
    have ei6 : i6 = i := by
      obtain ⟨z, e7⟩ := List.getElem?_eq_some_iff.mp e6
      rw [List.getElem_range] at e7
      exact e7.symm
    subst ei6
    rw [Int.zero_add]
    refine ⟨[1], ?_⟩
    walk_at "gg"
    refine dss_cons (ds_strm nd ?_)
    refine dv_call L.str (hr.mono (by decide)) tkF ?_
    walk_at "gs"
    refine ⟨ns0, i6, rfl, hns, by omega, fun c0 m hc hm hm2 a => ?_⟩
    refine ⟨a, c0, m, g1, rfl, hc, hm, hm2, fun _ _ => Nat.le_refl _, by show g1 ≤ 1099511627776; omega, by show 2 < 16; decide, ?_⟩
    show DSs _ T An ⟨[.dat (.kl (ns0.map D.int)), .dat (.int i6), .dat .strm, s3, s4, s5, s6, s7, s8, s9, s10, s11, .non, s13, s14, s15], [], a :: ws, g1⟩ _ _
    generalize a :: ws = ws1
    have q3 : 100000 ≤ g1 := by omega
    walk_at "gs"
    refine ⟨by show 2 ≤ sizeLine; decide, fun b1 => ?_⟩
    walk_at "gs"
    refine ⟨by show 3 ≤ sizeLine; decide, fun b2 => ?_⟩
    walk_at "gs"
    refine ⟨by show 4 ≤ sizeLine; decide, fun b3 => ?_⟩
    walk_at "gs"
    refine ⟨by show 6 ≤ sizeLine; decide, fun b4 => ?_⟩
    walk_at "gs"
    refine ⟨by show 4 ≤ sizeLine; decide, fun b5 => ?_⟩
    refine dss_cons (ds_set nd (dv_call L.pic (hr.mono (by decide)) tkF (da_cons (de_name ?_))))
    walk_at "gs"
    refine ⟨namesL, rfl, by decide, by decide, by show 1 ≤ g1; omega, fun dn hdn => ?_⟩
    obtain ⟨ns, rfl, okn⟩ := namesL_of hdn
    refine dss_cons (ds_set nd (dv_call L.pic (hr.mono (by decide)) tkF (da_cons (de_name ?_))))
    walk_at "gs"
    refine ⟨by show 3 ≤ sizeLine; decide, fun b6 => ?_⟩
    walk_at "gs"
    refine ⟨_, rfl, by decide, by decide, by show 1 ≤ g1 - 1; omega, fun d1 hd1 => ?_⟩
    obtain ⟨most, rfl, hmo0, hmo⟩ : ∃ mo : Int, d1 = .int mo ∧ 1 ≤ mo ∧ mo ≤ 12 := by
      simp only [List.mem_cons, List.not_mem_nil, or_false] at hd1
      rcases hd1 with rfl | rfl | rfl
      · exact ⟨3, rfl, by decide, by decide⟩
      · exact ⟨6, rfl, by decide, by decide⟩
      · exact ⟨12, rfl, by decide, by decide⟩
    show DSs _ T An ⟨[.dat (.kl (ns0.map D.int)), .dat (.int i6), .dat .strm, .dat (.lst namesL), .dat (.lst (txts ns)), .dat (.int most), s6, s7, s8, s9, s10, s11, .non, s13, s14, s15], [], ws1, g1 - 1 - 1⟩ _ _
    refine dss_cons (ds_unp (de_dv (dv_call L.drn (hr.mono (by decide)) tkF (da_cons (de_name ?_)))))
    walk_at "gs"
    refine de_dv (dv_call L.dra (hr.mono (by decide)) tkF ?_)
    walk_at "gs"
    refine ⟨13, rfl, by decide, by decide, by show 1 ≤ g1 - 1 - 1; omega, fun r1 hr1 => ?_⟩
    walk_at "gs"
    refine ⟨ns, most, 4 + r1, rfl, okn, by omega, by omega, by omega, by show 2000 ≤ g1 - 1 - 1 - 1; omega, fun dl Rs made g2 hL hdl q4 q5 => ?_⟩
    have q4' : g1 - 1 - 1 - 1 - 2000 ≤ g2 := q4
    have q5' : g2 ≤ g1 - 1 - 1 - 1 := q5
    have few : dl.length ≤ 16 := by omega
    obtain ⟨ss, bt⟩ := both_one okn hL few
    refine ⟨[6, 7], ?_⟩
    walk_at "gg"
    refine dss_cons (ds_set nd (dv_make L.his (hr.mono (by decide)) tkF (da_cons (de_dv (dv_make L.lnd (hr.mono (by decide)) tkF (da_cons (de_name ?_)))))))
    walk_at "gs"
    refine ⟨ns, .lst (txts ns), most, rfl, .inl rfl, okn, hmo0, ?_⟩
    walk_at "n"
    refine da_cons (de_dv (dv_call L.asl (hr.mono (by decide)) tkF (da_cons (de_name ?_))))
    walk_at "gs"
    refine ⟨.lst (dl.map dedT), rfl, ⟨dl.map dedT, .inl rfl, by rw [List.length_map]; exact few, fun x hx => ?_⟩, by show 17 ≤ g2; omega, fun y g3 hy q6 q7 => ?_⟩
    · obtain ⟨d, _, rfl⟩ := List.mem_map.mp hx
      exact ⟨d.items, .inr rfl, by cases d <;> simp [Deed.items, Deed.parts], deed_dom d⟩
    have hfit := fits_as okn hL.ok hy
    have q6' : g2 - 17 ≤ g3 := q6
    have q7' : g3 ≤ g2 := q7
    refine (show ∀ {P Q : Prop}, P → (P → Q) → P ∧ Q from fun a b => ⟨a, b a⟩) ?_ (fun key es ey a => ?_)
    rotate_left
    · subst ey
      exact key
    walk_at "n"
    refine da_nil ⟨ns, most, dl, ss, y, rfl, hfit, okn, bt.hh, ?_⟩
    show DSs _ T An ⟨[.dat (.kl (ns0.map D.int)), .dat (.int i6), .dat .strm, .dat (.lst namesL), .dat (.lst (txts ns)), .dat (.int most), .dat (.lst (dl.map dedT)), .dat (.lst (Rs.map (momD ns))), s8, s9, s10, s11, .non, s13, .dat (histD HC LC ns most dl ss), s15], [], ws1, g3⟩ _ _
    refine dss_cons (ds_for (passes_of rfl) rfl (di_seq (de_dv (dv_list (da_cons (de_int (da_cons (de_int (da_cons (de_dv (dv_call L.dra (hr.mono (by decide)) tkF ?_)))))))))))
    walk_at "gs"
    refine ⟨9, rfl, by decide, by decide, by show 1 ≤ g3; omega, fun r2 hr2 => ?_⟩
    walk_at "gs"
    refine ⟨by unfold CPow; decide, da_nil ⟨by show 4 ≤ sizeLine; decide, fun b7 => ?_⟩⟩
    refine ⟨_, rfl, fun j ρ => ∃ s8 s9 : Sl, ρ = ⟨[.dat (.kl (ns0.map D.int)), .dat (.int i6), .dat .strm, .dat (.lst namesL), .dat (.lst (txts ns)), .dat (.int most), .dat (.lst (dl.map dedT)), .dat (.lst (Rs.map (momD ns))), s8, s9, s10, s11, .non, s13, .dat (histD HC LC ns most dl ss), s15], [], ws1, g3 - 1⟩, ⟨s8, s9, rfl⟩, fun j dj ρ3 ej hJ => ?_, fun ρ3 hJ => ?_⟩
    · obtain ⟨t8, t9, rfl⟩ := hJ
      obtain ⟨life, rfl, hl0⟩ : ∃ life : Int, dj = .int life ∧ 0 ≤ life := by
        have hm := List.mem_of_getElem? ej
        simp only [List.mem_cons, List.not_mem_nil, or_false] at hm
        rcases hm with rfl | rfl | rfl | rfl
        · exact ⟨0, rfl, Int.le_refl _⟩
        · exact ⟨1, rfl, by decide⟩
        · exact ⟨_, rfl, by omega⟩
        · exact ⟨_, rfl, by decide⟩
      refine ⟨[8], ?_⟩
      walk_at "gg"
      exact life_law (C := C) B L hr bt hl0 (s0 := .dat (.kl (ns0.map D.int))) (s1 := .dat (.int i6)) (s3 := .dat (.lst namesL)) (s5 := .dat (.int most)) (s9 := t9) (s10 := s10) (s11 := s11) (s13 := s13) (s15 := s15) (fun t9 => ⟨_, t9, rfl⟩)
    obtain ⟨t8, t9, rfl⟩ := hJ
    refine dss_cons (ds_set nd (dv_de (de_add (de_pow (de_int ?_)))))
    walk_at "gs"
    refine ⟨by unfold CPow; decide, ?_⟩
    refine de_dv (dv_call L.dra (hr.mono (by decide)) tkF ?_)
    walk_at "gs"
    refine ⟨9, rfl, by decide, by decide, by show 1 ≤ g3 - 1; omega, fun r3 hr3 => ?_⟩
    walk_at "n"
    obtain ⟨tm, etm, ht1, ht2⟩ : ∃ tm : Int, (10 : Int) ^ Int.toNat 9 + (r3 : Int) = tm ∧ 1 ≤ tm ∧ tm < 2 ^ 64 := by
      have e : (10 : Int) ^ Int.toNat 9 = 1000000000 := by decide
      exact ⟨_, rfl, by rw [e]; omega, by rw [e]; omega⟩
    rw [etm]
    obtain ⟨sf, bf⟩ := both_of okn hL few ht1 ht1
    show DSs _ T An ⟨[.dat (.kl (ns0.map D.int)), .dat (.int i6), .dat .strm, .dat (.lst namesL), .dat (.lst (txts ns)), .dat (.int most), .dat (.lst (dl.map dedT)), .dat (.lst (Rs.map (momD ns))), t8, t9, .dat (.int tm), s11, .non, s13, .dat (histD HC LC ns most dl ss), s15], [], ws1, g3 - 1 - 1⟩ _ _
    refine dss_cons (ds_set nd (dv_call L.sca (hr.mono (by decide)) tkF (da_cons (de_name ?_))))
    walk_at "gs"
    refine ⟨ns, most, dl, ss, sf, tm, tm, rfl, ht1, ht2, ht1, ht2, hmo0, okn, hL.ok, few, bf.hh, ?_⟩
    refine dss_cons (ds_setLc rfl nd (blkOk_by (own := [("deed", 12)]) (by kernel_rfl)) rfl rfl (di_seq (de_name ?_)))
    walk_at "n"
    refine ⟨_, rfl, ?_⟩
    refine lcd_fm (lateF tm) rfl (by rw [List.length_map, sizeLine_eq]; omega) (fun i5 y5 acc D0 ey5 => ?_) fun a1 => ?_
    · rw [List.getElem?_map] at ey5
      obtain ⟨d, ed, rfl⟩ := Option.map_eq_some_iff.mp ey5
      walk_at "blk"
      walk_at "gg"
      walk_at "blk"
      refine dts_nil ⟨fun _ => ?_, fun z => (by cases z)⟩
      walk_at "blk"
      unfold dedT
      refine de_if (dt_eq hr.units (de_ix (de_name ?_)))
      walk_at "go"
      refine ixD_seq (j := 0) rfl rfl rfl ?_
      walk_at "go"
      refine ⟨_, (eqP_word d).1, fun e => ?_, fun e => ?_⟩
      · cases d with
        | wait k =>
          refine de_tup (da_cons (de_str (da_cons (de_mul (de_ix (de_name ?_))))))
          walk_at "go"
          refine ixD_seq (j := 1) rfl rfl rfl ?_
          walk_at "go"
          exact ⟨.inr ⟨by omega, ht2⟩, da_nil ⟨by show 2 ≤ sizeLine; decide, rfl, rfl, rfl, rfl⟩⟩
        | _ => exact absurd e (by rw [Bool.not_eq_true]; kernel_rfl)
      · walk_at "go"
        have el : lateF tm (.tup d.items) = [.tup d.items] := by
          cases d with
          | wait k => exact absurd e (by rw [Bool.not_eq_false]; kernel_rfl)
          | _ => rfl
        exact ⟨el, rfl, rfl, rfl⟩
    rw [late_all]
    have hfew := okn.few
    have eday : dayD (dl.map (Deed.scale 1 tm)) = dayD (dl.map (Deed.scale tm tm)) := funext fun i => dayD_scale 1 tm tm dl i
    have elas : lastD (dl.map (Deed.scale 1 tm)) = lastD (dl.map (Deed.scale tm tm)) := funext fun i => lastD_scale 1 tm tm dl i
    have elen : (dl.map (Deed.scale 1 tm)).length = (dl.map (Deed.scale tm tm)).length := by rw [List.length_map, List.length_map]
    have hl := bf.len2 3
    have est := bf.st 3
    refine dss_cons (ds_if (dt_not (dt_tru (de_dv (dv_call L.sam (hr.mono (by decide)) tkF (da_cons (de_dv (dv_call L.sta (hr.mono (by decide)) tkF (da_cons (de_name ?_))))))))))
    walk_at "gs"
    refine ⟨ns, most * tm, dl.map (Deed.scale tm tm), sf, .int 3, rfl, rfl, .inr ⟨3, rfl, by decide, okn, bf.hh, ?_⟩⟩
    rw [est]
    intro a3
    walk_at "n"
    refine da_cons (de_dv (dv_call L.due (hr.mono (by decide)) tkF (da_cons (de_name ?_))))
    walk_at "gs"
    refine ⟨ns, ns, dl.map (Deed.scale 1 tm), Rs, 3, rfl, fun _ z => z, hfew, by rw [List.length_map]; exact hL.len, by rw [List.length_map]; exact few, fun a4 => ?_⟩
    rw [eday, elas, elen]
    generalize staysL ns (dl.map (Deed.scale tm tm)).length (occL Rs) (dayD (dl.map (Deed.scale tm tm))) (lastD (dl.map (Deed.scale tm tm))) 3 = l at hl ⊢
    have hl2 : l.length < sizeLine := by rw [sizeLine_eq]; omega
    refine da_nil ⟨.lst (l.map stD), rfl, stays_sm hl2, ?_⟩
    walk_at "n"
    refine ⟨true, rfl, fun z => (by cases z), fun _ => ?_⟩
    refine dss_nil (dss_cons (ds_set nd (dv_call L.pic (hr.mono (by decide)) tkF (da_cons (de_name ?_)))))
    walk_at "gs"
    refine ⟨by show 1 ≤ sizeLine; decide, fun b8 => ?_⟩
    walk_at "gs"
    refine ⟨by show 0 ≤ sizeLine; decide, ?_⟩
    walk_at "gs"
    refine de_fn L.mf.nm L.mf.at_ ?_
    walk_at "gs"
    refine ⟨by show 8 ≤ sizeLine; decide, fun b9 => ?_⟩
    walk_at "gs"
    refine ⟨_, rfl, by show 0 < 8; decide, by show 8 < 1073741824; decide, by show 1 ≤ g3 - 1 - 1; omega, fun odd hodd => ?_⟩
    have fodd : wt odd = true ∧ isNum odd = false ∧ sm 2 odd = true := by
      simp only [List.mem_cons, List.not_mem_nil, or_false] at hodd
      rcases hodd with rfl | rfl | rfl | rfl | rfl | rfl | rfl | rfl <;> exact ⟨rfl, rfl, by first | rfl | decide +kernel⟩
    obtain ⟨wodd, jodd, sodd⟩ := fodd
    clear hodd
    refine dss_cons (ds_if (dt_not (dt_tru (de_dv (dv_call L.sam (hr.mono (by decide)) tkF (da_cons (de_dv (dv_metL (k := 8) B L.me L.mf (fun _ _ => False) (fun c2 fs g2 => c2 = CL ∧ fs = [(("life" : Str), odd)] ∧ g2 = (g3 - 1 - 1 - 1)) ?_ (fun r g' z => z.elim) ?_ L.tb.tb rfl L.tb.mem L.tb.uniq (hr.mono (by decide)) (LamX.lamS_by (by kernel_rfl))))))))))
    · intro F0 H0 A1 outer1 s1 H1 E1 f' c' hr2 tk2
      show DV _ T _ ⟨[_, _, _, _, _, _, _, _, _, _, _, _, _, _, .dat (histD HC LC ns most dl ss), .dat odd], [], _, _⟩ _ _
      refine dv_call L.sta (hr2.mono (by decide)) tk2 (da_cons (de_name ?_))
      walk_at "gs"
      exact ⟨ns, most, dl, ss, odd, rfl, wodd, .inl ⟨jodd, rfl, rfl, rfl, rfl⟩⟩
    · intro c' fs g' hx
      obtain ⟨e1, e2, e3⟩ := hx
      subst e3
      refine ⟨e1, _, e2, fun a => ?_⟩
      clear e1 e2 c' fs
      walk_at "gs"
      refine ⟨by show 2 ≤ sizeLine; decide, fun b10 => ?_⟩
      walk_at "gs"
      refine ⟨.lst [.str "life", odd], rfl, sm_pair sh_life sodd, ?_⟩
      walk_at "n"
      refine ⟨true, rfl, fun z => (by cases z), fun _ => ?_⟩
      refine dss_nil (dss_nil ?_)
      exact ⟨_, _, _, _, _, _, _, _, _, _, _, _, _, _, ws1, g3 - 1 - 1 - 1, by omega, by omega, rfl⟩
  · obtain ⟨s1, s2, s3, s4, s5, s6, s7, s8, s9, s10, s11, s13, s14, s15, ws, g1, q1, q2, rfl⟩ := hI
    walk_at "gs"
    exact ⟨.inr ⟨_, rfl⟩, h _⟩
end
end K70
end

section
open PySem L2 DL PyProof.Rows
namespace K70
/-- what the head tells of the classes, of the module's dict and texts -/
structure ObjK (K : PySem.W.Frag) (w : World) (LC HC FD : Addr) : Prop where
  land : ClsK K "Land" LC
  hist : ClsK K "History" HC
  li : ClsI K LC
  ls : PySem.W.kitOne K (.ref LC) (.ref LC) = some true
  n1 : NoAttr K LC "names"
  n2 : NoAttr K LC "bound"
  h1 : NoAttr K HC "own_land"
  h2 : NoAttr K HC "own_deeds"
  h3 : NoAttr K HC "steps"
  m_linit : ∃ f, MetK K LC "__init__" "Land.__init__" s_Land___init__ [] f
  m_hinit : ∃ f, MetK K HC "__init__" "History.__init__" s_History___init__ [] f
  m_add : ∃ f, MetK K HC "add" "History.add" s_History_add [] f
  m_can : ∃ f, MetK K HC "can" "History.can" s_History_can [] f
  m_now : ∃ f, MetK K HC "now" "History.now" s_History_now [] f
  m_mom : ∃ f, MetK K HC "moment_of" "History.moment_of" s_History_moment_of [] f
  m_chk : ∃ f, MetK K HC "check_address" "History.check_address" s_History_check_address [] f
  m_row : ∃ f, MetK K HC "row" "History.row" s_History_row [.non] f
  m_day : ∃ f, MetK K HC "day" "History.day" s_History_day [.non] f
  m_las : ∃ f, MetK K HC "last_day" "History.last_day" s_History_last_day [.non] f
  forms : PySem.W.nsIn K mainGlobals "FORMS" = some (some (.ref FD))
  kd : ∃ ee n, KDict K w FD ee n
  w0 : ∃ t, PySem.W.nsIn K FD "make" = some (some (.str "an" t))
  w1 : ∃ t, PySem.W.nsIn K FD "grow" = some (some (.str "an" t))
  w2 : ∃ t, PySem.W.nsIn K FD "move" = some (some (.str "aa" t))
  w3 : ∃ t, PySem.W.nsIn K FD "swap" = some (some (.str "aa" t))
  w4 : ∃ t, PySem.W.nsIn K FD "cut" = some (some (.str "ana" t))
  w5 : ∃ t, PySem.W.nsIn K FD "split" = some (some (.str "anaa" t))
  w6 : ∃ t, PySem.W.nsIn K FD "pour" = some (some (.str "aa" t))
  w7 : ∃ t, PySem.W.nsIn K FD "drop" = some (some (.str "akn" t))
  w8 : ∃ t, PySem.W.nsIn K FD "end" = some (some (.str "a" t))
  w9 : ∃ t, PySem.W.nsIn K FD "wait" = some (some (.str "n" t))
  lett : ∃ t, PySem.W.nsIn K mainGlobals "LETTERS" = some (some (.str lettersS t))
  figs : ∃ t, PySem.W.nsIn K mainGlobals "FIGURES" = some (some (.str figuresS t))
theorem objP {K : PySem.W.Frag} {w : World} {LC HC FD : Addr} {t0 t1 t2 t3 t4 t5 t6 t7 t8 t9 ta tb : Tok} (land : ClsK K "Land" LC) (hist : ClsK K "History" HC) (li : ClsI K LC) (ls : PySem.W.kitOne K (.ref LC) (.ref LC) = some true)
    (n1 : PySem.W.findIn K (.ref LC) "names" = some none) (n2 : PySem.W.findIn K (.ref LC) "bound" = some none) (h1 : PySem.W.findIn K (.ref HC) "own_land" = some none) (h2 : PySem.W.findIn K (.ref HC) "own_deeds" = some none) (h3 : PySem.W.findIn K (.ref HC) "steps" = some none)
    (m1 : ∃ f, MetK K LC "__init__" "Land.__init__" s_Land___init__ [] f) (m2 : ∃ f, MetK K HC "__init__" "History.__init__" s_History___init__ [] f) (m3 : ∃ f, MetK K HC "add" "History.add" s_History_add [] f) (m4 : ∃ f, MetK K HC "can" "History.can" s_History_can [] f)
    (m5 : ∃ f, MetK K HC "now" "History.now" s_History_now [] f) (m6 : ∃ f, MetK K HC "moment_of" "History.moment_of" s_History_moment_of [] f) (m7 : ∃ f, MetK K HC "check_address" "History.check_address" s_History_check_address [] f)
    (m8 : ∃ f, MetK K HC "row" "History.row" s_History_row [.non] f) (m9 : ∃ f, MetK K HC "day" "History.day" s_History_day [.non] f) (m10 : ∃ f, MetK K HC "last_day" "History.last_day" s_History_last_day [.non] f)
    (forms : PySem.W.nsIn K mainGlobals "FORMS" = some (some (.ref FD))) (kd : He.dicW K FD = some (He.keysIn w.params ["make", "grow", "move", "swap", "cut", "split", "pour", "drop", "end", "wait"]))
    (w0 : PySem.W.nsIn K FD "make" = some (some (.str "an" t0))) (w1 : PySem.W.nsIn K FD "grow" = some (some (.str "an" t1))) (w2 : PySem.W.nsIn K FD "move" = some (some (.str "aa" t2))) (w3 : PySem.W.nsIn K FD "swap" = some (some (.str "aa" t3))) (w4 : PySem.W.nsIn K FD "cut" = some (some (.str "ana" t4)))
    (w5 : PySem.W.nsIn K FD "split" = some (some (.str "anaa" t5))) (w6 : PySem.W.nsIn K FD "pour" = some (some (.str "aa" t6))) (w7 : PySem.W.nsIn K FD "drop" = some (some (.str "akn" t7))) (w8 : PySem.W.nsIn K FD "end" = some (some (.str "a" t8))) (w9 : PySem.W.nsIn K FD "wait" = some (some (.str "n" t9)))
    (lett : PySem.W.nsIn K mainGlobals "LETTERS" = some (some (.str lettersS ta))) (figs : PySem.W.nsIn K mainGlobals "FIGURES" = some (some (.str figuresS tb))) : ∃ LC HC FD, ObjK K w LC HC FD :=
  ⟨LC, HC, FD, land, hist, li, ls, n1, n2, h1, h2, h3, m1, m2, m3, m4, m5, m6, m7, m8, m9, m10, forms, He.dicW_ok kd, ⟨_, w0⟩, ⟨_, w1⟩, ⟨_, w2⟩, ⟨_, w3⟩, ⟨_, w4⟩, ⟨_, w5⟩, ⟨_, w6⟩, ⟨_, w7⟩, ⟨_, w8⟩, ⟨_, w9⟩, ⟨_, lett⟩, ⟨_, figs⟩⟩
section
variable {K : PySem.W.Frag} {w : World} {mg : Str → Option Value} {base : Heap} {LC HC FD : Addr}
theorem ObjK.fo (X : K.In base) (G : base.Ns mainGlobals mg) (o : ObjK K w LC HC FD) : Forms K w mg FD := by
  refine ⟨PySem.W.mg_of X G o.forms, o.kd, fun x => ?_⟩
  cases x with
  | make a k => exact o.w0
  | grow a k => exact o.w1
  | move a b => exact o.w2
  | swap a b => exact o.w3
  | cut a k b => exact o.w4
  | split a k b c => exact o.w5
  | pour a b => exact o.w6
  | drop a i k => exact o.w7
  | fin a => exact o.w8
  | wait k => exact o.w9
theorem ObjK.mtx (X : K.In base) (G : base.Ns mainGlobals mg) (o : ObjK K w LC HC FD) : Mtx mg := by
  obtain ⟨t, h⟩ := o.lett
  obtain ⟨t2, h2⟩ := o.figs
  exact ⟨⟨t, PySem.W.mg_of X G h⟩, ⟨t2, PySem.W.mg_of X G h2⟩⟩
end
end K70
end

section
open PySem L2 DL PyProof.Rows
namespace K70
/-- all that the head tells -/
structure Txt (P : Program) (K : PySem.W.Frag) (mg : Str → Option Value) (p0 : Addr) : Prop where
  d_is_list : ∃ f, DefK K "is_list" s_is_list f
  d_is_whole : ∃ f, DefK K "is_whole" s_is_whole f
  d_is_number : ∃ f, DefK K "is_number" s_is_number f
  d_is_positive : ∃ f, DefK K "is_positive" s_is_positive f
  d_is_name : ∃ f, DefK K "is_name" s_is_name f
  d_first_odd : ∃ f, DefK K "first_odd" s_first_odd f
  d_are_unlike : ∃ f, DefK K "are_unlike" s_are_unlike f
  d_is_stay : ∃ f, DefK K "is_stay" s_is_stay f
  d_checked_stays : ∃ f, DefK K "checked_stays" s_checked_stays f
  d_check_life : ∃ f, DefK K "check_life" s_check_life f
  d_bound_on : ∃ f, DefK K "bound_on" s_bound_on f
  d_most_bound : ∃ f, DefK K "most_bound" s_most_bound f
  d_least_addresses : ∃ f, DefK K "least_addresses" s_least_addresses f
  d_stays_of : ∃ f, DefK K "stays_of" s_stays_of f
  d_checked_addresses : ∃ f, DefK K "checked_addresses" s_checked_addresses f
  d_is_part : ∃ f, DefK K "is_part" s_is_part f
  d_is_deed : ∃ f, DefK K "is_deed" s_is_deed f
  d_size_of : ∃ f, DefK K "size_of" s_size_of f
  d_tidy : ∃ f, DefK K "tidy" s_tidy f
  d_parted : ∃ f, DefK K "parted" s_parted f
  d_lessened : ∃ f, DefK K "lessened" s_lessened f
  d_rows_behind : ∃ f, DefK K "rows_behind" s_rows_behind f
  d_rows_moved : ∃ f, DefK K "rows_moved" s_rows_moved f
  d_done : ∃ f, DefK K "done" s_done f
  d_scaled_deed : ∃ f, DefK K "scaled_deed" s_scaled_deed f
  d_scaled : ∃ f, DefK K "scaled" s_scaled f
  d__law_stream : ∃ f, DefK K "_law_stream" s__law_stream f
  d__law_draw : ∃ f, DefK K "_law_draw" s__law_draw f
  d__law_pick : ∃ f, DefK K "_law_pick" s__law_pick f
  d__law_same : ∃ f, DefK K "_law_same" s__law_same f
  d__law_as_lists : ∃ f, DefK K "_law_as_lists" s__law_as_lists f
  d__law_h_done : ∃ f, DefK K "_law_h_done" s__law_h_done f
  d__law_h_deed : ∃ f, DefK K "_law_h_deed" s__law_h_deed f
  d__law_h_drawn : ∃ f, DefK K "_law_h_drawn" s__law_h_drawn f
  d__law_h_days : ∃ f, DefK K "_law_h_days" s__law_h_days f
  d__law_stays_due : ∃ f, DefK K "_law_stays_due" s__law_stays_due f
  d__law_rested : ∃ f, DefK K "_law_rested" s__law_rested f
  d__law_met : ∃ f, DefK K "_law_met" s__law_met f
  d_law : ∃ f c, DefCK K "law" s_law f c p0
  f_isinstance : PySem.W.nsIn K mainGlobals "isinstance" = some none
  f_len : PySem.W.nsIn K mainGlobals "len" = some none
  f_all : PySem.W.nsIn K mainGlobals "all" = some none
  f_any : PySem.W.nsIn K mainGlobals "any" = some none
  f_int : PySem.W.nsIn K mainGlobals "int" = some none
  f_bool : PySem.W.nsIn K mainGlobals "bool" = some none
  f_str : PySem.W.nsIn K mainGlobals "str" = some none
  f_list : PySem.W.nsIn K mainGlobals "list" = some none
  f_tuple : PySem.W.nsIn K mainGlobals "tuple" = some none
  f_dict : PySem.W.nsIn K mainGlobals "dict" = some none
  f_abs : PySem.W.nsIn K mainGlobals "abs" = some none
  f_max : PySem.W.nsIn K mainGlobals "max" = some none
  f_min : PySem.W.nsIn K mainGlobals "min" = some none
  f_sum : PySem.W.nsIn K mainGlobals "sum" = some none
  f_range : PySem.W.nsIn K mainGlobals "range" = some none
  f_enumerate : PySem.W.nsIn K mainGlobals "enumerate" = some none
  f_zip : PySem.W.nsIn K mainGlobals "zip" = some none
  f_sorted : PySem.W.nsIn K mainGlobals "sorted" = some none
  f_set : PySem.W.nsIn K mainGlobals "set" = some none
  f_repr : PySem.W.nsIn K mainGlobals "repr" = some none
  f_super : PySem.W.nsIn K mainGlobals "super" = some none
  any : PySem.W.nsIn K cStatics "thirdparty.any" = some none
  top : (P.main.scope.names.lookup ("super" : Str)).isSome = false
  exc : ∃ CS CL, ExcK P K mg "BadStays" "index" "index" CS ∧ ExcK P K mg "BadLife" "life" "life" CL ∧ PySem.W.exmOne K (.ref CL) (.ref CL) = some true
theorem excP {P : Program} {K : PySem.W.Frag} {mg : Str → Option Value} {CS CL : Addr} (a0 : ExcK P K mg "BadStays" "index" "index" CS) (a1 : ExcK P K mg "BadLife" "life" "life" CL) (b0 : PySem.W.exmOne K (.ref CL) (.ref CL) = some true) : ∃ CS CL, ExcK P K mg "BadStays" "index" "index" CS ∧ ExcK P K mg "BadLife" "life" "life" CL ∧ PySem.W.exmOne K (.ref CL) (.ref CL) = some true := ⟨CS, CL, a0, a1, b0⟩
def tabsOf (p0 : Addr) : List (Addr × Str) := [(p0, ("law" : Str) ++ ".<locals>." ++ "<lambda>")]
theorem run {P : Program} {w : World} {K : PySem.W.Frag} {mg : Str → Option Value} {p0 fa : Addr} (tx : Txt P K mg p0) (hobj : ∃ LC HC FD, ObjK K w LC HC FD)  (hfa : ∀ base : Heap, K.In base → base.Ns mainGlobals mg → mg "law" = some (.ref fa)) :
    ∃ c0 : Addr, (∃ f, DefCK K "law" s_law f c0 p0) ∧ RunG P w K mg fa [(c0, p0)] 63 := by
  obtain ⟨f_is_list, d_is_list⟩ := tx.d_is_list
  obtain ⟨f_is_whole, d_is_whole⟩ := tx.d_is_whole
  obtain ⟨f_is_number, d_is_number⟩ := tx.d_is_number
  obtain ⟨f_is_positive, d_is_positive⟩ := tx.d_is_positive
  obtain ⟨f_is_name, d_is_name⟩ := tx.d_is_name
  obtain ⟨f_first_odd, d_first_odd⟩ := tx.d_first_odd
  obtain ⟨f_are_unlike, d_are_unlike⟩ := tx.d_are_unlike
  obtain ⟨f_is_stay, d_is_stay⟩ := tx.d_is_stay
  obtain ⟨f_checked_stays, d_checked_stays⟩ := tx.d_checked_stays
  obtain ⟨f_check_life, d_check_life⟩ := tx.d_check_life
  obtain ⟨f_bound_on, d_bound_on⟩ := tx.d_bound_on
  obtain ⟨f_most_bound, d_most_bound⟩ := tx.d_most_bound
  obtain ⟨f_least_addresses, d_least_addresses⟩ := tx.d_least_addresses
  obtain ⟨f_stays_of, d_stays_of⟩ := tx.d_stays_of
  obtain ⟨f_checked_addresses, d_checked_addresses⟩ := tx.d_checked_addresses
  obtain ⟨f_is_part, d_is_part⟩ := tx.d_is_part
  obtain ⟨f_is_deed, d_is_deed⟩ := tx.d_is_deed
  obtain ⟨f_size_of, d_size_of⟩ := tx.d_size_of
  obtain ⟨f_tidy, d_tidy⟩ := tx.d_tidy
  obtain ⟨f_parted, d_parted⟩ := tx.d_parted
  obtain ⟨f_lessened, d_lessened⟩ := tx.d_lessened
  obtain ⟨f_rows_behind, d_rows_behind⟩ := tx.d_rows_behind
  obtain ⟨f_rows_moved, d_rows_moved⟩ := tx.d_rows_moved
  obtain ⟨f_done, d_done⟩ := tx.d_done
  obtain ⟨f_scaled_deed, d_scaled_deed⟩ := tx.d_scaled_deed
  obtain ⟨f_scaled, d_scaled⟩ := tx.d_scaled
  obtain ⟨f__law_stream, d__law_stream⟩ := tx.d__law_stream
  obtain ⟨f__law_draw, d__law_draw⟩ := tx.d__law_draw
  obtain ⟨f__law_pick, d__law_pick⟩ := tx.d__law_pick
  obtain ⟨f__law_same, d__law_same⟩ := tx.d__law_same
  obtain ⟨f__law_as_lists, d__law_as_lists⟩ := tx.d__law_as_lists
  obtain ⟨f__law_h_done, d__law_h_done⟩ := tx.d__law_h_done
  obtain ⟨f__law_h_deed, d__law_h_deed⟩ := tx.d__law_h_deed
  obtain ⟨f__law_h_drawn, d__law_h_drawn⟩ := tx.d__law_h_drawn
  obtain ⟨f__law_h_days, d__law_h_days⟩ := tx.d__law_h_days
  obtain ⟨f__law_stays_due, d__law_stays_due⟩ := tx.d__law_stays_due
  obtain ⟨f__law_rested, d__law_rested⟩ := tx.d__law_rested
  obtain ⟨f__law_met, d__law_met⟩ := tx.d__law_met
  obtain ⟨f_law, c0, d_law⟩ := tx.d_law
  obtain ⟨CS, CL, xe0, xe1, x0⟩ := tx.exc
  refine ⟨c0, ⟨_, d_law⟩, ?_⟩
  intro base s H a ns X G TB e0 hT only sq hlen
  have B : Bi mg := ⟨PySem.W.mg_none_of X G tx.f_isinstance, PySem.W.mg_none_of X G tx.f_len, PySem.W.mg_none_of X G tx.f_all, PySem.W.mg_none_of X G tx.f_any, PySem.W.mg_none_of X G tx.f_int, PySem.W.mg_none_of X G tx.f_bool, PySem.W.mg_none_of X G tx.f_str, PySem.W.mg_none_of X G tx.f_list, PySem.W.mg_none_of X G tx.f_tuple, PySem.W.mg_none_of X G tx.f_dict, PySem.W.mg_none_of X G tx.f_abs, PySem.W.mg_none_of X G tx.f_max, PySem.W.mg_none_of X G tx.f_min, PySem.W.mg_none_of X G tx.f_sum, PySem.W.mg_none_of X G tx.f_range, PySem.W.mg_none_of X G tx.f_enumerate, PySem.W.mg_none_of X G tx.f_zip, PySem.W.mg_none_of X G tx.f_sorted, PySem.W.mg_none_of X G tx.f_set, PySem.W.mg_none_of X G tx.f_repr⟩
  have S : SupM P K mg := ⟨PySem.W.mg_none_of X G tx.f_super, tx.top, tx.any⟩
  have ECS : KnE P w K mg base "BadStays" CS "index" := excOf X G S xe0
  have ECL : KnE P w K mg base "BadLife" CL "life" := excOf X G S xe1
  obtain ⟨T, eT⟩ : ∃ T, T = tabsOf p0 := ⟨_, rfl⟩
  have tb0 : Tb base mg T "law" c0 p0 := ⟨TB (c0, p0) (by simp), by rw [eT]; simp [tabsOf], fun q hq e => by
    rw [eT] at hq
    simp only [tabsOf, List.mem_cons, List.not_mem_nil, or_false] at hq
    subst hq
    rfl⟩
  have tabs : LamX.Tabs T H := start_tabs fun p hp => by
    rw [eT] at hp
    simp only [tabsOf, List.mem_cons, List.not_mem_nil, or_false] at hp
    subst hp
    exact hT (c0, p0) (by simp)
  obtain ⟨LC, HC, FD, ob⟩ := hobj
  have Mt : Mtx mg := ob.mtx X G
  have Fo : Forms K w mg FD := ob.fo X G
  have k_is_list : Kn P w K mg base T "is_list" 1 (pred isList) := knOf X G d_is_list (fun _ F => ok_is_list B F) (fun _ _ _ _ _ _ us hl => match us, hl with | [_], _ => rfl)
  have k_is_whole : Kn P w K mg base T "is_whole" 1 (pred isWhole) := knOf X G d_is_whole (fun _ F => ok_is_whole B F) (fun _ _ _ _ _ _ us hl => match us, hl with | [_], _ => rfl)
  have k_is_number : Kn P w K mg base T "is_number" 2 (pred isNum) := knOf X G d_is_number (fun _ F => ok_is_number B F k_is_whole) (fun _ _ _ _ _ _ us hl => match us, hl with | [_], _ => rfl)
  have k_is_positive : Kn P w K mg base T "is_positive" 2 (pred isPos) := knOf X G d_is_positive (fun _ F => ok_is_positive B F k_is_whole) (fun _ _ _ _ _ _ us hl => match us, hl with | [_], _ => rfl)
  have a_is_name : KnA P w K mg base T f_is_name 3 (pred isName) := knAOf X G d_is_name (fun _ F => (ok_is_name B Mt F).mono (by decide)) (fun _ _ _ _ _ _ us hl => match us, hl with | [_], _ => rfl)
  have k_first_odd : Kn P w K mg base T "first_odd" 5 (fod P w K mg base T 3) := knOf X G d_first_odd (fun _ F => ok_first_odd B F k_is_list) (fun _ _ _ _ _ _ us hl => match us, hl with | [_, _], _ => rfl)
  have k_are_unlike : Kn P w K mg base T "are_unlike" 1 (ulkN) := knOf X G d_are_unlike (fun _ F => ok_are_unlike B F) (fun _ _ _ _ _ _ us hl => match us, hl with | [_], _ => rfl)
  have a_is_stay : KnA P w K mg base T f_is_stay 3 (pred isStay) := knAOf X G d_is_stay (fun _ F => ok_is_stay B F k_is_list k_is_number) (fun _ _ _ _ _ _ us hl => match us, hl with | [_], _ => rfl)
  have k_checked_stays : Kn P w K mg base T "checked_stays" 7 (chkN CS) := knOf X G d_checked_stays (fun _ F => ok_checked_stays B ECS F k_first_odd (PySem.W.mg_of X G d_is_stay.ns) d_is_stay.at_ a_is_stay) (fun _ _ _ _ _ _ us hl => match us, hl with | [_], _ => rfl)
  have k_bound_on : Kn P w K mg base T "bound_on" 1 (bonN) := knOf X G d_bound_on (fun _ F => ok_bound_on B F) (fun _ _ _ _ _ _ us hl => match us, hl with | [_, _], _ => rfl)
  have k_most_bound : Kn P w K mg base T "most_bound" 3 (mboN) := knOf X G d_most_bound (fun _ F => ok_most_bound B F k_bound_on) (fun _ _ _ _ _ _ us hl => match us, hl with | [_], _ => rfl)
  have k_least : Kn P w K mg base T "least_addresses" 8 (lstN CS) := knOf X G d_least_addresses (fun _ F => ok_least B F k_checked_stays k_most_bound) (fun _ _ _ _ _ _ us hl => match us, hl with | [_], _ => rfl)
  have k_checked_addresses : Kn P w K mg base T "checked_addresses" 7 (ckaN) := knOf X G d_checked_addresses (fun _ F => ok_checked_addresses B F k_is_list k_first_odd (PySem.W.mg_of X G d_is_name.ns) d_is_name.at_ a_is_name) (fun _ _ _ _ _ _ us hl => match us, hl with | [_], _ => rfl)
  have kLand : KnC P w K mg base T "Land" LC 8 (lanN LC) := knCls X G ob.land ob.m_linit (fun _ _ F => ok_Land B F ob.land.own ob.n1 ob.n2 k_checked_addresses k_is_positive) (fun _ _ _ _ _ _ us hl => match us, hl with | [_, _, _], _ => rfl)
  have k_is_part : Kn P w K mg base T "is_part" 3 (parN2 LC) := knOf X G d_is_part (fun _ F => ok_is_part B F ob.n1 k_is_positive k_is_number) (fun _ _ _ _ _ _ us hl => match us, hl with | [_, _, _], _ => rfl)
  have k_is_deed : Kn P w K mg base T "is_deed" 4 (deeN LC) := knOf X G d_is_deed (fun _ F => ok_is_deed B F Fo k_is_list k_is_part k_are_unlike) (fun _ _ _ _ _ _ us hl => match us, hl with | [_, _], _ => rfl)
  have k_size_of : Kn P w K mg base T "size_of" 1 (sizN) := knOf X G d_size_of (fun _ F => ok_size_of B F) (fun _ _ _ _ _ _ us hl => match us, hl with | [_], _ => rfl)
  have k_tidy : Kn P w K mg base T "tidy" 1 (tidN) := knOf X G d_tidy (fun _ F => ok_tidy B F) (fun _ _ _ _ _ _ us hl => match us, hl with | [_], _ => rfl)
  have k_parted : Kn P w K mg base T "parted" 1 (parN) := knOf X G d_parted (fun _ F => ok_parted B F) (fun _ _ _ _ _ _ us hl => match us, hl with | [_, _], _ => rfl)
  have k_lessened : Kn P w K mg base T "lessened" 2 (lesN) := knOf X G d_lessened (fun _ F => ok_lessened B F k_parted k_tidy) (fun _ _ _ _ _ _ us hl => match us, hl with | [_, _, _], _ => rfl)
  have k_rows_moved : Kn P w K mg base T "rows_moved" 3 (movN) := knOf X G d_rows_moved (fun _ F => ok_rows_moved B F k_size_of k_tidy k_parted) (fun _ _ _ _ _ _ us hl => match us, hl with | [_, _, _, _], _ => rfl)
  have k_rows_behind : Kn P w K mg base T "rows_behind" 4 (behN) := knOf X G d_rows_behind (fun _ F => ok_rows_behind B F k_size_of k_tidy k_lessened k_rows_moved) (fun _ _ _ _ _ _ us hl => match us, hl with | [_, _, _], _ => rfl)
  have k_done : Kn P w K mg base T "done" 5 (donN LC) := knOf X G d_done (fun _ F => ok_done B F ob.n2 k_size_of k_rows_behind) (fun _ _ _ _ _ _ us hl => match us, hl with | [_, _, _, _], _ => rfl)
  have m_can : KnM P w K mg base T HC "can" 6 (canN HC LC) [] := knMOf ob.hist.own ob.m_can (fun _ _ F => ok_can B F ob.h1 ob.h3 k_is_deed k_done) (fun _ _ _ _ _ _ us hl => match us, hl with | [_, _], _ => rfl)
  have m_add : KnH P w K mg base T HC "add" 6 (addN HC LC) := knHOf ob.hist.own ob.m_add (fun _ _ F => ok_add B F ob.h1 ob.h2 ob.h3 k_done) (fun _ _ _ _ _ _ us hl => match us, hl with | [_, _], _ => rfl)
  have kHist : KnC P w K mg base T "History" HC 7 (hisN HC LC) := knCls X G ob.hist ob.m_hinit (fun _ _ F => ok_History B F ob.hist.own ob.li ob.ls (PySem.W.mg_of X G ob.land.ns) ob.n1 ob.h1 ob.h2 ob.h3 k_is_list m_can m_add) (fun _ _ _ _ _ _ us hl => match us, hl with | [_, _, _], _ => rfl)
  have m_now : KnM P w K mg base T HC "now" 1 (nowN HC LC) [] := knMOf ob.hist.own ob.m_now (fun _ _ F => ok_now B F ob.h2) (fun _ _ _ _ _ _ us hl => match us, hl with | [_], _ => rfl)
  have m_mom : KnM P w K mg base T HC "moment_of" 3 (momN HC LC) [] := knMOf ob.hist.own ob.m_mom (fun _ _ F => ok_moment_of B F ob.h2 k_is_number) (fun _ _ _ _ _ _ us hl => match us, hl with | [_, _], _ => rfl)
  have m_chk : KnM P w K mg base T HC "check_address" 1 (adrN HC LC) [] := knMOf ob.hist.own ob.m_chk (fun _ _ F => ok_check_address B F ob.h1 ob.n1) (fun _ _ _ _ _ _ us hl => match us, hl with | [_, _], _ => rfl)
  have m_row : KnM P w K mg base T HC "row" 4 (rowN HC LC) [] := knMOfV ob.hist.own ob.m_row (fun _ _ F => ok_row B F ob.h3 m_mom m_chk) (fun _ _ _ _ _ _ _ us its hl hi => match us, its, hl, hi with | [_, _, _], [_], _, _ => ⟨_, rfl, rfl⟩)
  have m_day : KnM P w K mg base T HC "day" 4 (dayN HC LC) [] := knMOfV ob.hist.own ob.m_day (fun _ _ F => ok_day B F ob.h3 m_mom) (fun _ _ _ _ _ _ _ us its hl hi => match us, its, hl, hi with | [_, _], [_], _, _ => ⟨_, rfl, rfl⟩)
  have m_las : KnM P w K mg base T HC "last_day" 4 (lasN HC LC) [] := knMOfV ob.hist.own ob.m_las (fun _ _ F => ok_last_day B F ob.h3 ob.h2 m_mom) (fun _ _ _ _ _ _ _ us its hl hi => match us, its, hl, hi with | [_, _], [_], _, _ => ⟨_, rfl, rfl⟩)
  have k_check_life : Kn P w K mg base T "check_life" 3 (cmN isNum CL "life") := knOf X G d_check_life (fun _ F => ok_check_life B ECL F k_is_number) (fun _ _ _ _ _ _ us hl => match us, hl with | [_], _ => rfl)
  have k_sta : Kn P w K mg base T "stays_of" 5 (staN HC LC CL) := knOf X G d_stays_of (fun _ F => ok_stays_of B F ob.h1 ob.n1 k_check_life m_now m_row m_day m_las) (fun _ _ _ _ _ _ us hl => match us, hl with | [_, _], _ => rfl)
  have kk_sta : KnK P w K mg base T "stays_of" 5 (staN HC LC CL) ["life", "history"] [1, 0] := knKOf X G d_stays_of (fun _ F => ok_stays_of B F ob.h1 ob.n1 k_check_life m_now m_row m_day m_las) (fun _ _ _ _ _ _ us hl => match us, hl with | [_, _], _ => rfl)
  have k_scaled_deed : Kn P w K mg base T "scaled_deed" 2 (scdN) := knOf X G d_scaled_deed (fun _ F => ok_scaled_deed B F k_is_whole) (fun _ _ _ _ _ _ us hl => match us, hl with | [_, _, _], _ => rfl)
  have k_scaled : Kn P w K mg base T "scaled" 10 (scaN HC LC) := knOf X G d_scaled (fun _ F => ok_scaled B F ob.h1 ob.h2 ob.n1 ob.n2 k_is_positive k_scaled_deed kLand kHist) (fun _ _ _ _ _ _ us hl => match us, hl with | [_, _, _], _ => rfl)
  have k_draw : Kn P w K mg base T "_law_draw" 1 (draN) := knOf X G d__law_draw (fun _ F => ok_law_draw B F) (fun _ _ _ _ _ _ us hl => match us, hl with | [_, _], _ => rfl)
  have k_pick : Kn P w K mg base T "_law_pick" 2 (picN) := knOf X G d__law_pick (fun _ F => ok_law_pick B F k_draw) (fun _ _ _ _ _ _ us hl => match us, hl with | [_, _], _ => rfl)
  have k_stream : Kn P w K mg base T "_law_stream" 1 (strN) := knOf X G d__law_stream (fun _ F => ok_law_stream B F) (fun _ _ _ _ _ _ us hl => match us, hl with | [_, _], _ => rfl)
  have as0 : Kn P w K mg base T "_law_as_lists" 1 (asF isAt eqI 0) := knOf X G d__law_as_lists (fun _ F => ok_asA B F) (fun _ _ _ _ _ _ us hl => match us, hl with | [_, _], _ => rfl)
  have as1 : Kn P w K mg base T "_law_as_lists" 2 (asF (DomL isAt 5) (PrL eqI) (1 + 5 * 0)) := knOf X G d__law_as_lists (fun _ F => ok_as1 B F k_draw (by decide) as0 5 (by decide)) (fun _ _ _ _ _ _ us hl => match us, hl with | [_, _], _ => rfl)
  have as2 : Kn P w K mg base T "_law_as_lists" 3 (asF (DomL (DomL isAt 5) 16) (PrL (PrL eqI)) (1 + 16 * (1 + 5 * 0))) := knOf X G d__law_as_lists (fun _ F => ok_as1 B F k_draw (by decide) as1 16 (by decide)) (fun _ _ _ _ _ _ us hl => match us, hl with | [_, _], _ => rfl)
  have sm0 : Kn P w K mg base T "_law_same" 1 (sameN 0) := knOf X G d__law_same (fun _ F => ok_same0 F) (fun _ _ _ _ _ _ us hl => match us, hl with | [_, _], _ => rfl)
  have sm1 : Kn P w K mg base T "_law_same" 2 (sameN 1) := knOf X G d__law_same (fun _ F => ok_same1 B F sm0) (fun _ _ _ _ _ _ us hl => match us, hl with | [_, _], _ => rfl)
  have sm2 : Kn P w K mg base T "_law_same" 3 (sameN 2) := knOf X G d__law_same (fun _ F => ok_same1 B F sm1) (fun _ _ _ _ _ _ us hl => match us, hl with | [_, _], _ => rfl)
  have sm3 : Kn P w K mg base T "_law_same" 4 (sameN 3) := knOf X G d__law_same (fun _ F => ok_same1 B F sm2) (fun _ _ _ _ _ _ us hl => match us, hl with | [_, _], _ => rfl)
  have k_h_done : Kn P w K mg base T "_law_h_done" 1 (lhdN) := knOf X G d__law_h_done (fun _ F => ok_law_h_done B F) (fun _ _ _ _ _ _ us hl => match us, hl with | [_, _, _, _], _ => rfl)
  have k_h_deed : Kn P w K mg base T "_law_h_deed" 3 (hdeN) := knOf X G d__law_h_deed (fun _ F => ok_law_h_deed B F k_draw k_pick) (fun _ _ _ _ _ _ us hl => match us, hl with | [_, _], _ => rfl)
  have k_h_drawn : Kn P w K mg base T "_law_h_drawn" 4 (ldrN) := knOf X G d__law_h_drawn (fun _ F => ok_law_h_drawn B F k_h_deed k_h_done) (fun _ _ _ _ _ _ us hl => match us, hl with | [_, _, _, _], _ => rfl)
  have k_h_days : Kn P w K mg base T "_law_h_days" 1 (ldyN) := knOf X G d__law_h_days (fun _ F => ok_law_h_days B F) (fun _ _ _ _ _ _ us hl => match us, hl with | [_], _ => rfl)
  have k_due : Kn P w K mg base T "_law_stays_due" 2 (lsdN) := knOf X G d__law_stays_due (fun _ F => ok_law_stays_due B F k_h_days) (fun _ _ _ _ _ _ us hl => match us, hl with | [_, _, _, _], _ => rfl)
  have k_rested : Kn P w K mg base T "_law_rested" 3 (lreN) := knOf X G d__law_rested (fun _ F => ok_law_rested B F k_due) (fun _ _ _ _ _ _ us hl => match us, hl with | [_, _, _, _], _ => rfl)
  have M : MetE P w K mg base CL := ⟨ECL, x0⟩
  have MF : MetF K mg f__law_met := by
    refine ⟨PySem.W.mg_of X G d__law_met.ns, d__law_met.kp, d__law_met.at_, ?_⟩
    obtain ⟨oc, od, kV, doc, pm, an, cdv, ct, osl, l, hc⟩ := d__law_met.ex
    exact ⟨oc, od, .none, kV, doc, pm, an, cdv, ct, osl, l, hc, .all fun us hl => match us, hl with | [_], _ => rfl⟩
  have L : Lw P w K mg base T CS CL LC HC f__law_met c0 p0 := ⟨k_stream, k_draw, k_pick, k_h_drawn, kLand, kHist, as2, k_due, k_sta, kk_sta, sm3, k_rested, k_least, k_scaled, M, MF, tb0⟩
  have efa : fa = f_law := by
    have e1 := hfa base X G
    have e2 := PySem.W.mg_of X G d_law.ns
    rw [e1] at e2
    cases e2
    rfl
  subst efa
  obtain ⟨oc, od, kV, doc, pm, an, ct, osl, l, hc⟩ := d_law.ex
  have F : FunC K "law" "law" s_law fa (PySem.W.fnOf "law" "law" (defArgs s_law) (defBody s_law) (defScope s_law) .none kV doc pm an (.ref c0) ct) c0 := ⟨oc, od, kV, doc, pm, an, ct, osl, rfl, l, hc⟩
  have vr : Vals [V.ref a] [Value.ref a] := .cons rfl .nil
  refine okRunC (T := T) (k := 12) (g := 300000) (C := fun o => ∃ g', o = .ret (.bl true) g') F sc_law (vs := [.ref a]) (ds := [.kl (ns.map D.int)]) ⟨rfl, by decide, by decide⟩ e0 (.of_eq rfl) vr rfl (start_ok tabs) (.cons (.kl (start_sq sq) (Rs.ofInts ns)) .nil) (fun d g' c v F' H' r => ?_) (fun ds g' c a H' => ?_) (fun c2 g' c a H' => ?_) (fun hr => ?_)
  · obtain ⟨_, e⟩ := c
    cases e
    cases r
    rfl
  · obtain ⟨_, e⟩ := c
    cases e
  · obtain ⟨_, e⟩ := c
    cases e
  · exact body_law B L hlen hr fun g' => ⟨g', rfl⟩
end K70
end

section
open PySem L2 DL PyProof.Rows
namespace K70
theorem top {P : Program} {w : World} {K : PySem.W.Frag} {h : Heap} {mg : Str → Option Value} {fa p0 : Addr} (KX : K.In h) (hmg : mg "law" = some (.ref fa)) (hT : ∀ p ∈ [p0], h.get? p = some (PySem.W.tabObj #[])) 
    (d_is_list : ∃ f, DefK K "is_list" s_is_list f)
    (d_is_whole : ∃ f, DefK K "is_whole" s_is_whole f)
    (d_is_number : ∃ f, DefK K "is_number" s_is_number f)
    (d_is_positive : ∃ f, DefK K "is_positive" s_is_positive f)
    (d_is_name : ∃ f, DefK K "is_name" s_is_name f)
    (d_first_odd : ∃ f, DefK K "first_odd" s_first_odd f)
    (d_are_unlike : ∃ f, DefK K "are_unlike" s_are_unlike f)
    (d_is_stay : ∃ f, DefK K "is_stay" s_is_stay f)
    (d_checked_stays : ∃ f, DefK K "checked_stays" s_checked_stays f)
    (d_check_life : ∃ f, DefK K "check_life" s_check_life f)
    (d_bound_on : ∃ f, DefK K "bound_on" s_bound_on f)
    (d_most_bound : ∃ f, DefK K "most_bound" s_most_bound f)
    (d_least_addresses : ∃ f, DefK K "least_addresses" s_least_addresses f)
    (d_stays_of : ∃ f, DefK K "stays_of" s_stays_of f)
    (d_checked_addresses : ∃ f, DefK K "checked_addresses" s_checked_addresses f)
    (d_is_part : ∃ f, DefK K "is_part" s_is_part f)
    (d_is_deed : ∃ f, DefK K "is_deed" s_is_deed f)
    (d_size_of : ∃ f, DefK K "size_of" s_size_of f)
    (d_tidy : ∃ f, DefK K "tidy" s_tidy f)
    (d_parted : ∃ f, DefK K "parted" s_parted f)
    (d_lessened : ∃ f, DefK K "lessened" s_lessened f)
    (d_rows_behind : ∃ f, DefK K "rows_behind" s_rows_behind f)
    (d_rows_moved : ∃ f, DefK K "rows_moved" s_rows_moved f)
    (d_done : ∃ f, DefK K "done" s_done f)
    (d_scaled_deed : ∃ f, DefK K "scaled_deed" s_scaled_deed f)
    (d_scaled : ∃ f, DefK K "scaled" s_scaled f)
    (d__law_stream : ∃ f, DefK K "_law_stream" s__law_stream f)
    (d__law_draw : ∃ f, DefK K "_law_draw" s__law_draw f)
    (d__law_pick : ∃ f, DefK K "_law_pick" s__law_pick f)
    (d__law_same : ∃ f, DefK K "_law_same" s__law_same f)
    (d__law_as_lists : ∃ f, DefK K "_law_as_lists" s__law_as_lists f)
    (d__law_h_done : ∃ f, DefK K "_law_h_done" s__law_h_done f)
    (d__law_h_deed : ∃ f, DefK K "_law_h_deed" s__law_h_deed f)
    (d__law_h_drawn : ∃ f, DefK K "_law_h_drawn" s__law_h_drawn f)
    (d__law_h_days : ∃ f, DefK K "_law_h_days" s__law_h_days f)
    (d__law_stays_due : ∃ f, DefK K "_law_stays_due" s__law_stays_due f)
    (d__law_rested : ∃ f, DefK K "_law_rested" s__law_rested f)
    (d__law_met : ∃ f, DefK K "_law_met" s__law_met f)
    (d_law : ∃ f c, DefCK K "law" s_law f c p0)
    (f_isinstance : PySem.W.nsIn K mainGlobals "isinstance" = some none)
    (f_len : PySem.W.nsIn K mainGlobals "len" = some none)
    (f_all : PySem.W.nsIn K mainGlobals "all" = some none)
    (f_any : PySem.W.nsIn K mainGlobals "any" = some none)
    (f_int : PySem.W.nsIn K mainGlobals "int" = some none)
    (f_bool : PySem.W.nsIn K mainGlobals "bool" = some none)
    (f_str : PySem.W.nsIn K mainGlobals "str" = some none)
    (f_list : PySem.W.nsIn K mainGlobals "list" = some none)
    (f_tuple : PySem.W.nsIn K mainGlobals "tuple" = some none)
    (f_dict : PySem.W.nsIn K mainGlobals "dict" = some none)
    (f_abs : PySem.W.nsIn K mainGlobals "abs" = some none)
    (f_max : PySem.W.nsIn K mainGlobals "max" = some none)
    (f_min : PySem.W.nsIn K mainGlobals "min" = some none)
    (f_sum : PySem.W.nsIn K mainGlobals "sum" = some none)
    (f_range : PySem.W.nsIn K mainGlobals "range" = some none)
    (f_enumerate : PySem.W.nsIn K mainGlobals "enumerate" = some none)
    (f_zip : PySem.W.nsIn K mainGlobals "zip" = some none)
    (f_sorted : PySem.W.nsIn K mainGlobals "sorted" = some none)
    (f_set : PySem.W.nsIn K mainGlobals "set" = some none)
    (f_repr : PySem.W.nsIn K mainGlobals "repr" = some none)
    (f_super : PySem.W.nsIn K mainGlobals "super" = some none)
    (hany : PySem.W.nsIn K cStatics "thirdparty.any" = some none) (htop : (P.main.scope.names.lookup ("super" : Str)).isSome = false)
    (hobj : ∃ LC HC FD, ObjK K w LC HC FD)
    (hexc : ∃ CS CL, ExcK P K mg "BadStays" "index" "index" CS ∧ ExcK P K mg "BadLife" "life" "life" CL ∧ PySem.W.exmOne K (.ref CL) (.ref CL) = some true) :
    ∃ cs : List (Addr × Addr), (∀ p ∈ cs, h.get? p.2 = some emptyTab ∧ K.lookup p.2 = none ∧ PySem.W.CodeHd h p.1 p.2) ∧ RunG P w K mg fa cs 63 := by
  have tx : Txt P K mg p0 := ⟨d_is_list, d_is_whole, d_is_number, d_is_positive, d_is_name, d_first_odd, d_are_unlike, d_is_stay, d_checked_stays, d_check_life, d_bound_on, d_most_bound, d_least_addresses, d_stays_of, d_checked_addresses, d_is_part, d_is_deed, d_size_of, d_tidy, d_parted, d_lessened, d_rows_behind, d_rows_moved, d_done, d_scaled_deed, d_scaled, d__law_stream, d__law_draw, d__law_pick, d__law_same, d__law_as_lists, d__law_h_done, d__law_h_deed, d__law_h_drawn, d__law_h_days, d__law_stays_due, d__law_rested, d__law_met, d_law, f_isinstance, f_len, f_all, f_any, f_int, f_bool, f_str, f_list, f_tuple, f_dict, f_abs, f_max, f_min, f_sum, f_range, f_enumerate, f_zip, f_sorted, f_set, f_repr, f_super, hany, htop, hexc⟩
  obtain ⟨c0, ⟨_, e0⟩, run⟩ := run (w := w) (fa := fa) tx hobj  fun _ _ _ => hmg
  refine ⟨_, fun p hp => ?_, run⟩
  simp only [List.mem_cons, List.not_mem_nil, or_false] at hp
  subst hp
  exact ⟨hT p0 (by simp), e0.out, PySem.W.codeHd_of_K KX e0.hd⟩
end K70
end

set_option maxHeartbeats 0
open PySem PySem.W PyProof.Rows
theorem PySem.Challenge.cw_oldaddress_k70_stays_of_histories_holds : PySem.Challenge.rw_oldaddress_k70_stays_of_histories.Holds := by
  w_on; o_law; k_head; (case hw => w_witness2)
  k_fill
  refine DL.walkG (n := 63) (l := PySem.Challenge.rw_oldaddress_k70_stays_of_histories) rfl (by decide) rfl (fun w h Y => PySem.W.km_in_of Y) ?F
  case F =>
    intro w mg fa h Y KX G hmg
    refine' K70.top (p0 := 659) KX hmg (PySem.W.km_tabs_of Y)  ?d_is_list ?d_is_whole ?d_is_number ?d_is_positive ?d_is_name ?d_first_odd ?d_are_unlike ?d_is_stay ?d_checked_stays ?d_check_life ?d_bound_on ?d_most_bound ?d_least_addresses ?d_stays_of ?d_checked_addresses ?d_is_part ?d_is_deed ?d_size_of ?d_tidy ?d_parted ?d_lessened ?d_rows_behind ?d_rows_moved ?d_done ?d_scaled_deed ?d_scaled ?d__law_stream ?d__law_draw ?d__law_pick ?d__law_same ?d__law_as_lists ?d__law_h_done ?d__law_h_deed ?d__law_h_drawn ?d__law_h_days ?d__law_stays_due ?d__law_rested ?d__law_met ?d_law ?f_isinstance ?f_len ?f_all ?f_any ?f_int ?f_bool ?f_str ?f_list ?f_tuple ?f_dict ?f_abs ?f_max ?f_min ?f_sum ?f_range ?f_enumerate ?f_zip ?f_sorted ?f_set ?f_repr ?f_super ?hany ?htop ?hobj ?hexc
    (case d_is_list => (refine' DL.defK ?a ?b ?c ?d ?e; (case a => k_is); (case b => k_is); (case c => k_is); (case d => k_is); (case e => k_is)))
    (case d_is_whole => (refine' DL.defK ?a ?b ?c ?d ?e; (case a => k_is); (case b => k_is); (case c => k_is); (case d => k_is); (case e => k_is)))
    (case d_is_number => (refine' DL.defK ?a ?b ?c ?d ?e; (case a => k_is); (case b => k_is); (case c => k_is); (case d => k_is); (case e => k_is)))
    (case d_is_positive => (refine' DL.defK ?a ?b ?c ?d ?e; (case a => k_is); (case b => k_is); (case c => k_is); (case d => k_is); (case e => k_is)))
    (case d_is_name => (refine' DL.defK ?a ?b ?c ?d ?e; (case a => k_is); (case b => k_is); (case c => k_is); (case d => k_is); (case e => k_is)))
    (case d_first_odd => (refine' DL.defK ?a ?b ?c ?d ?e; (case a => k_is); (case b => k_is); (case c => k_is); (case d => k_is); (case e => k_is)))
    (case d_are_unlike => (refine' DL.defK ?a ?b ?c ?d ?e; (case a => k_is); (case b => k_is); (case c => k_is); (case d => k_is); (case e => k_is)))
    (case d_is_stay => (refine' DL.defK ?a ?b ?c ?d ?e; (case a => k_is); (case b => k_is); (case c => k_is); (case d => k_is); (case e => k_is)))
    (case d_checked_stays => (refine' DL.defK ?a ?b ?c ?d ?e; (case a => k_is); (case b => k_is); (case c => k_is); (case d => k_is); (case e => k_is)))
    (case d_check_life => (refine' DL.defK ?a ?b ?c ?d ?e; (case a => k_is); (case b => k_is); (case c => k_is); (case d => k_is); (case e => k_is)))
    (case d_bound_on => (refine' DL.defK ?a ?b ?c ?d ?e; (case a => k_is); (case b => k_is); (case c => k_is); (case d => k_is); (case e => k_is)))
    (case d_most_bound => (refine' DL.defK ?a ?b ?c ?d ?e; (case a => k_is); (case b => k_is); (case c => k_is); (case d => k_is); (case e => k_is)))
    (case d_least_addresses => (refine' DL.defK ?a ?b ?c ?d ?e; (case a => k_is); (case b => k_is); (case c => k_is); (case d => k_is); (case e => k_is)))
    (case d_stays_of => (refine' DL.defK ?a ?b ?c ?d ?e; (case a => k_is); (case b => k_is); (case c => k_is); (case d => k_is); (case e => k_is)))
    (case d_checked_addresses => (refine' DL.defK ?a ?b ?c ?d ?e; (case a => k_is); (case b => k_is); (case c => k_is); (case d => k_is); (case e => k_is)))
    (case d_is_part => (refine' DL.defK ?a ?b ?c ?d ?e; (case a => k_is); (case b => k_is); (case c => k_is); (case d => k_is); (case e => k_is)))
    (case d_is_deed => (refine' DL.defK ?a ?b ?c ?d ?e; (case a => k_is); (case b => k_is); (case c => k_is); (case d => k_is); (case e => k_is)))
    (case d_size_of => (refine' DL.defK ?a ?b ?c ?d ?e; (case a => k_is); (case b => k_is); (case c => k_is); (case d => k_is); (case e => k_is)))
    (case d_tidy => (refine' DL.defK ?a ?b ?c ?d ?e; (case a => k_is); (case b => k_is); (case c => k_is); (case d => k_is); (case e => k_is)))
    (case d_parted => (refine' DL.defK ?a ?b ?c ?d ?e; (case a => k_is); (case b => k_is); (case c => k_is); (case d => k_is); (case e => k_is)))
    (case d_lessened => (refine' DL.defK ?a ?b ?c ?d ?e; (case a => k_is); (case b => k_is); (case c => k_is); (case d => k_is); (case e => k_is)))
    (case d_rows_behind => (refine' DL.defK ?a ?b ?c ?d ?e; (case a => k_is); (case b => k_is); (case c => k_is); (case d => k_is); (case e => k_is)))
    (case d_rows_moved => (refine' DL.defK ?a ?b ?c ?d ?e; (case a => k_is); (case b => k_is); (case c => k_is); (case d => k_is); (case e => k_is)))
    (case d_done => (refine' DL.defK ?a ?b ?c ?d ?e; (case a => k_is); (case b => k_is); (case c => k_is); (case d => k_is); (case e => k_is)))
    (case d_scaled_deed => (refine' DL.defK ?a ?b ?c ?d ?e; (case a => k_is); (case b => k_is); (case c => k_is); (case d => k_is); (case e => k_is)))
    (case d_scaled => (refine' DL.defK ?a ?b ?c ?d ?e; (case a => k_is); (case b => k_is); (case c => k_is); (case d => k_is); (case e => k_is)))
    (case d__law_stream => (refine' DL.defK ?a ?b ?c ?d ?e; (case a => k_is); (case b => k_is); (case c => k_is); (case d => k_is); (case e => k_is)))
    (case d__law_draw => (refine' DL.defK ?a ?b ?c ?d ?e; (case a => k_is); (case b => k_is); (case c => k_is); (case d => k_is); (case e => k_is)))
    (case d__law_pick => (refine' DL.defK ?a ?b ?c ?d ?e; (case a => k_is); (case b => k_is); (case c => k_is); (case d => k_is); (case e => k_is)))
    (case d__law_same => (refine' DL.defK ?a ?b ?c ?d ?e; (case a => k_is); (case b => k_is); (case c => k_is); (case d => k_is); (case e => k_is)))
    (case d__law_as_lists => (refine' DL.defK ?a ?b ?c ?d ?e; (case a => k_is); (case b => k_is); (case c => k_is); (case d => k_is); (case e => k_is)))
    (case d__law_h_done => (refine' DL.defK ?a ?b ?c ?d ?e; (case a => k_is); (case b => k_is); (case c => k_is); (case d => k_is); (case e => k_is)))
    (case d__law_h_deed => (refine' DL.defK ?a ?b ?c ?d ?e; (case a => k_is); (case b => k_is); (case c => k_is); (case d => k_is); (case e => k_is)))
    (case d__law_h_drawn => (refine' DL.defK ?a ?b ?c ?d ?e; (case a => k_is); (case b => k_is); (case c => k_is); (case d => k_is); (case e => k_is)))
    (case d__law_h_days => (refine' DL.defK ?a ?b ?c ?d ?e; (case a => k_is); (case b => k_is); (case c => k_is); (case d => k_is); (case e => k_is)))
    (case d__law_stays_due => (refine' DL.defK ?a ?b ?c ?d ?e; (case a => k_is); (case b => k_is); (case c => k_is); (case d => k_is); (case e => k_is)))
    (case d__law_rested => (refine' DL.defK ?a ?b ?c ?d ?e; (case a => k_is); (case b => k_is); (case c => k_is); (case d => k_is); (case e => k_is)))
    (case d__law_met => (refine' DL.defK ?a ?b ?c ?d ?e; (case a => k_is); (case b => k_is); (case c => k_is); (case d => k_is); (case e => k_is)))
    (case d_law => (refine' DL.defCK ?a ?b ?c ?d ?e ?g ?h; (case a => k_is); (case b => k_is); (case c => k_is); (case d => k_is); (case e => k_is); (case g => first | rfl | k_is); (case h => first | rfl | k_is)))
    (case f_isinstance => k_is)
    (case f_len => k_is)
    (case f_all => k_is)
    (case f_any => k_is)
    (case f_int => k_is)
    (case f_bool => k_is)
    (case f_str => k_is)
    (case f_list => k_is)
    (case f_tuple => k_is)
    (case f_dict => k_is)
    (case f_abs => k_is)
    (case f_max => k_is)
    (case f_min => k_is)
    (case f_sum => k_is)
    (case f_range => k_is)
    (case f_enumerate => k_is)
    (case f_zip => k_is)
    (case f_sorted => k_is)
    (case f_set => k_is)
    (case f_repr => k_is)
    (case f_super => k_is)
    (case hany => first | k_is | rfl)
    (case htop => first | rfl | decide +kernel)
    case hobj =>
      refine' K70.objP (DL.clsK ?Lns ?Lpg ?Lhd ?Lpo ?Lsa ?Lha ?Lhn ?Lht ?Lhm ?Ln1 ?Ln2 ?Ln3 ?Ln4 ?Ln5 ?Ln6 ?Lmk ?Lkp) (DL.clsK ?Hns ?Hpg ?Hhd ?Hpo ?Hsa ?Hha ?Hhn ?Hht ?Hhm ?Hn1 ?Hn2 ?Hn3 ?Hn4 ?Hn5 ?Hn6 ?Hmk ?Hkp) (DL.clsI ?I1 ?I2 ?I3 ?I4 ?I5 ?I6 ?I7 ?I8) ?ls ?n1 ?n2 ?h1 ?h2 ?h3 (DL.metK ?m1a ?m1fn ?m1kp ?m1l ?m1c) (DL.metK ?m2a ?m2fn ?m2kp ?m2l ?m2c) (DL.metK ?m3a ?m3fn ?m3kp ?m3l ?m3c) (DL.metK ?m4a ?m4fn ?m4kp ?m4l ?m4c) (DL.metK ?m5a ?m5fn ?m5kp ?m5l ?m5c) (DL.metK ?m6a ?m6fn ?m6kp ?m6l ?m6c) (DL.metK ?m7a ?m7fn ?m7kp ?m7l ?m7c) (DL.metKd ?m8a ?m8fn ?m8kp ?m8l ?m8c ?m8t) (DL.metKd ?m9a ?m9fn ?m9kp ?m9l ?m9c ?m9t) (DL.metKd ?m10a ?m10fn ?m10kp ?m10l ?m10c ?m10t) ?forms ?kd ?w0 ?w1 ?w2 ?w3 ?w4 ?w5 ?w6 ?w7 ?w8 ?w9 ?lett ?figs
      (case Lns => first | k_is | rfl)
      (case Lpg => first | k_is | rfl)
      (case Lhd => first | k_is | rfl)
      (case Lpo => first | k_is | rfl)
      (case Lsa => first | k_is | rfl)
      (case Lha => first | k_is | rfl)
      (case Lhn => first | k_is | rfl)
      (case Lht => first | k_is | rfl)
      (case Lhm => first | k_is | rfl)
      (case Ln1 => first | k_is | rfl)
      (case Ln2 => first | k_is | rfl)
      (case Ln3 => first | k_is | rfl)
      (case Ln4 => first | k_is | rfl)
      (case Ln5 => first | k_is | rfl)
      (case Ln6 => first | k_is | rfl)
      (case Lmk => first | k_is | rfl)
      (case Lkp => first | k_is | rfl)
      (case Hns => first | k_is | rfl)
      (case Hpg => first | k_is | rfl)
      (case Hhd => first | k_is | rfl)
      (case Hpo => first | k_is | rfl)
      (case Hsa => first | k_is | rfl)
      (case Hha => first | k_is | rfl)
      (case Hhn => first | k_is | rfl)
      (case Hht => first | k_is | rfl)
      (case Hhm => first | k_is | rfl)
      (case Hn1 => first | k_is | rfl)
      (case Hn2 => first | k_is | rfl)
      (case Hn3 => first | k_is | rfl)
      (case Hn4 => first | k_is | rfl)
      (case Hn5 => first | k_is | rfl)
      (case Hn6 => first | k_is | rfl)
      (case Hmk => first | k_is | rfl)
      (case Hkp => first | k_is | rfl)
      (case I1 => first | k_is | rfl)
      (case I2 => first | k_is | rfl)
      (case I3 => first | k_is | rfl)
      (case I4 => first | k_is | rfl)
      (case I5 => first | k_is | rfl)
      (case I6 => first | k_is | rfl)
      (case I7 => first | k_is | rfl)
      (case I8 => first | k_is | rfl)
      (case ls => first | k_is | rfl)
      (case n1 => first | k_is | rfl)
      (case n2 => first | k_is | rfl)
      (case h1 => first | k_is | rfl)
      (case h2 => first | k_is | rfl)
      (case h3 => first | k_is | rfl)
      (case m1a => first | k_is | rfl)
      (case m1fn => first | k_is | rfl)
      (case m1kp => first | k_is | rfl)
      (case m1l => first | k_is | rfl)
      (case m1c => first | k_is | rfl)
      (case m2a => first | k_is | rfl)
      (case m2fn => first | k_is | rfl)
      (case m2kp => first | k_is | rfl)
      (case m2l => first | k_is | rfl)
      (case m2c => first | k_is | rfl)
      (case m3a => first | k_is | rfl)
      (case m3fn => first | k_is | rfl)
      (case m3kp => first | k_is | rfl)
      (case m3l => first | k_is | rfl)
      (case m3c => first | k_is | rfl)
      (case m4a => first | k_is | rfl)
      (case m4fn => first | k_is | rfl)
      (case m4kp => first | k_is | rfl)
      (case m4l => first | k_is | rfl)
      (case m4c => first | k_is | rfl)
      (case m5a => first | k_is | rfl)
      (case m5fn => first | k_is | rfl)
      (case m5kp => first | k_is | rfl)
      (case m5l => first | k_is | rfl)
      (case m5c => first | k_is | rfl)
      (case m6a => first | k_is | rfl)
      (case m6fn => first | k_is | rfl)
      (case m6kp => first | k_is | rfl)
      (case m6l => first | k_is | rfl)
      (case m6c => first | k_is | rfl)
      (case m7a => first | k_is | rfl)
      (case m7fn => first | k_is | rfl)
      (case m7kp => first | k_is | rfl)
      (case m7l => first | k_is | rfl)
      (case m7c => first | k_is | rfl)
      (case m8a => first | k_is | rfl)
      (case m8fn => first | k_is | rfl)
      (case m8kp => first | k_is | rfl)
      (case m8l => first | k_is | rfl)
      (case m8c => first | k_is | rfl)
      (case m8t => first | k_is | rfl)
      (case m9a => first | k_is | rfl)
      (case m9fn => first | k_is | rfl)
      (case m9kp => first | k_is | rfl)
      (case m9l => first | k_is | rfl)
      (case m9c => first | k_is | rfl)
      (case m9t => first | k_is | rfl)
      (case m10a => first | k_is | rfl)
      (case m10fn => first | k_is | rfl)
      (case m10kp => first | k_is | rfl)
      (case m10l => first | k_is | rfl)
      (case m10c => first | k_is | rfl)
      (case m10t => first | k_is | rfl)
      (case forms => k_is)
      (case kd => kernel_rfl)
      (case w0 => k_is)
      (case w1 => k_is)
      (case w2 => k_is)
      (case w3 => k_is)
      (case w4 => k_is)
      (case w5 => k_is)
      (case w6 => k_is)
      (case w7 => k_is)
      (case w8 => k_is)
      (case w9 => k_is)
      (case lett => k_is)
      (case figs => k_is)
    case hexc =>
      refine' K70.excP (DL.excK ?q0ns ?q0lC ?q0ve ?q0sa ?q0exC ?q0tyC ?q0kC ?q0ga ?q0gg ?q0hdC ?q0no ?q0i1 ?q0i2 ?q0l ?q0hcd ?q0lc ?q0hv ?q0hf ?q0lcc ?q0hp ?q0Si ?q0hl ?q0sup ?q0sb ?q0own ?q0ic ?q0hb) (DL.excK ?q1ns ?q1lC ?q1ve ?q1sa ?q1exC ?q1tyC ?q1kC ?q1ga ?q1gg ?q1hdC ?q1no ?q1i1 ?q1i2 ?q1l ?q1hcd ?q1lc ?q1hv ?q1hf ?q1lcc ?q1hp ?q1Si ?q1hl ?q1sup ?q1sb ?q1own ?q1ic ?q1hb) ?x0
      (case q0ns => k_is)
      (case q0lC => k_is)
      (case q0ve => first | rfl | decide +kernel)
      (case q0sa => k_is)
      (case q0exC => k_is)
      (case q0tyC => k_is)
      (case q0kC => k_is)
      (case q0ga => k_is)
      (case q0gg => k_is)
      (case q0hdC => first | k_is | rfl)
      (case q0no => k_is)
      (case q0i1 => k_is)
      (case q0i2 => k_is)
      (case q0l => k_is)
      (case q0hcd => k_is)
      (case q0lc => k_is)
      (case q0hv => first | rfl | decide +kernel)
      (case q0hf => first | rfl | decide +kernel)
      (case q0lcc => k_is)
      (case q0hp => first | rfl | decide +kernel)
      (case q0Si => kernel_rfl)
      (case q0hl => first | rfl | decide +kernel)
      (case q0sup => first | rfl | kernel_rfl)
      (case q0sb => k_is)
      (case q0own => k_is)
      (case q0ic => k_is)
      (case q0hb => exact fun us hl => match us, hl with | [_, _], _ => rfl)
      (case q1ns => k_is)
      (case q1lC => k_is)
      (case q1ve => first | rfl | decide +kernel)
      (case q1sa => k_is)
      (case q1exC => k_is)
      (case q1tyC => k_is)
      (case q1kC => k_is)
      (case q1ga => k_is)
      (case q1gg => k_is)
      (case q1hdC => first | k_is | rfl)
      (case q1no => k_is)
      (case q1i1 => k_is)
      (case q1i2 => k_is)
      (case q1l => k_is)
      (case q1hcd => k_is)
      (case q1lc => k_is)
      (case q1hv => first | rfl | decide +kernel)
      (case q1hf => first | rfl | decide +kernel)
      (case q1lcc => k_is)
      (case q1hp => first | rfl | decide +kernel)
      (case q1Si => kernel_rfl)
      (case q1hl => first | rfl | decide +kernel)
      (case q1sup => first | rfl | kernel_rfl)
      (case q1sb => k_is)
      (case q1own => k_is)
      (case q1ic => k_is)
      (case q1hb => exact fun us hl => match us, hl with | [_, _], _ => rfl)
      (case x0 => first | k_is | rfl | kernel_rfl)
#print axioms PySem.Challenge.cw_oldaddress_k70_stays_of_histories_holds
