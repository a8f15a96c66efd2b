import PyProof.Rows.All
import Wide.All
import OpenK.AllK
import Wide.FinOn
import HandS.ForMost
import HandS.Exc
import HandS.TryMany
import HandS.ExcField
import HandS.Lambda
import HandS.IsInst
import HandS.WordsExc
import HandS.Sort
import HandS.CallLocal
import KE.KIsAll
import HandS.SortInts
import PyProof.IsiBase
import PyProof.IsiNone
import HandS.WordsDict
import KE.GoesEnum
import HandS.Zip
import KE.KExcSuper
import HandS.ExcInit
import HandS.Nested
import KE.SortKeyHeap
import KE.KSortKey
import HandS.Conv
import HandS.ExcValue
import KE.DataMinMax
import HandS.SortKw
import HandS.More
import PyProof.ReprRoads
import PyProof.FitsInt
import HandS.EndTab
import HandS.HeadWalk
import HandS.Star
import HandS.Style
import HandS.DictComp
import HandS.Deep
import HandS.Small
import HandS.Strs
import HandS.TupAny
import PySem.Challenge.RW_oldaddress_k68_whole_late_begins
set_option Elab.async false
set_option linter.all false
set_option maxRecDepth 100000
set_option maxHeartbeats 4000000
section
/-! The data layer over HandS: data, what represents it, judgements in forward style. -/
namespace DL
open PySem PySem.Spec L2

inductive D where
  | non | bl (b : Bool) | int (i : Int) | str (x : Str)
  | lst (ds : List D) | kl (ds : List D) | tup (ds : List D)
  | dK (kvs : List (Key × D))
  | dT (kvs : List (List Key × D))
  | obj (C : Addr) (fs : List (Str × D))
  | fn (a : Addr)
  | strm
  | exc (a dx : Addr) (fs : List (Str × D))
  | ref (a : Addr)

def FnAt (K : PySem.W.Frag) (a : Addr) : Prop := PySem.W.isFn K (.ref a) = true ∧ PySem.W.keepIn K (.ref a) = true

/-- the built-in types that the text asks for -/
def blts : List String := ["int", "bool", "str", "list", "tuple", "dict"]
/-- what is known of an own class -/
structure OwnC (K : PySem.W.Frag) (C : Addr) : Prop where
  cl : Cls K C
  ha : PySem.W.findIn K (.ref C) "__class__" = some (some (.builtin "object.__class__"))
  hn : PySem.W.specialIn K (.builtin "object.__class__") "__get__" = some (some (.builtin "getset_descriptor.__get__"))
  htk : PySem.W.takesIn K (.builtin "object.__class__") = some true
  hm : PySem.W.mroIn K C (.type "object") = some true
  no : ∀ n ∈ blts, PySem.W.kitOne K (.ref C) (.type n) = some false
mutual
inductive R (K : PySem.W.Frag) (F : Hp) (ws : List Addr) : V → D → Prop
  | non : R K F ws .non .non
  | bl (b : Bool) : R K F ws (.bl b) (.bl b)
  | int (i : Int) : R K F ws (.int i) (.int i)
  | str (x : Str) : R K F ws (.str x) (.str x)
  | lst {a : Addr} {xs : List V} {ds : List D} (h : F a = some (.lst xs)) (t : Rs K F ws xs ds) : R K F ws (.ref a) (.lst ds)
  | kl {a : Addr} {xs : List V} {ds : List D} (h : SqL K F a xs) (t : Rs K F ws xs ds) : R K F ws (.ref a) (.kl ds)
  | tup {a : Addr} {xs : List V} {ds : List D} (h : SqT K F a xs) (t : Rs K F ws xs ds) : R K F ws (.ref a) (.tup ds)
  | dK {a : Addr} {o : Obj} {xs : List (Key × V)} {ds : List (Key × D)} (h : F a = some (.frz o (.dK xs))) (t : Rk K F ws xs ds) : R K F ws (.ref a) (.dK ds)
  | dT {a : Addr} {o : Obj} {xs : List (List Key × V)} {ds : List (List Key × D)} (h : F a = some (.frz o (.dT xs))) (t : Rt K F ws xs ds) : R K F ws (.ref a) (.dT ds)
  | obj {a C dx : Addr} {xs : List (Str × V)} {ds : List (Str × D)} (hc : OwnC K C) (h : F a = some (.ins C dx xs)) (t : Rf K F ws xs ds) : R K F ws (.ref a) (.obj C ds)
  | fn {a : Addr} (h : FnAt K a) : R K F ws (.ref a) (.fn a)
  | strm {a : Addr} (h : a ∈ ws) : R K F ws (.ref a) .strm
  | exc {a dx : Addr} {xs : List (Str × V)} {ds : List (Str × D)} (h : F dx = some (.xd xs)) (t : Rf K F ws xs ds) : R K F ws (.ref a) (.exc a dx ds)
  | ref {a : Addr} : R K F ws (.ref a) (.ref a)
inductive Rs (K : PySem.W.Frag) (F : Hp) (ws : List Addr) : List V → List D → Prop
  | nil : Rs K F ws [] []
  | cons {v : V} {vs : List V} {d : D} {ds : List D} (h : R K F ws v d) (t : Rs K F ws vs ds) : Rs K F ws (v :: vs) (d :: ds)
inductive Rk (K : PySem.W.Frag) (F : Hp) (ws : List Addr) : List (Key × V) → List (Key × D) → Prop
  | nil : Rk K F ws [] []
  | cons {k : Key} {v : V} {vs : List (Key × V)} {d : D} {ds : List (Key × D)} (h : R K F ws v d) (t : Rk K F ws vs ds) : Rk K F ws ((k, v) :: vs) ((k, d) :: ds)
inductive Rt (K : PySem.W.Frag) (F : Hp) (ws : List Addr) : List (List Key × V) → List (List Key × D) → Prop
  | nil : Rt K F ws [] []
  | cons {k : List Key} {v : V} {vs : List (List Key × V)} {d : D} {ds : List (List Key × D)} (h : R K F ws v d) (t : Rt K F ws vs ds) : Rt K F ws ((k, v) :: vs) ((k, d) :: ds)
inductive Rf (K : PySem.W.Frag) (F : Hp) (ws : List Addr) : List (Str × V) → List (Str × D) → Prop
  | nil : Rf K F ws [] []
  | cons {k : Str} {v : V} {vs : List (Str × V)} {d : D} {ds : List (Str × D)} (h : R K F ws v d) (t : Rf K F ws vs ds) : Rf K F ws ((k, v) :: vs) ((k, d) :: ds)
end

section mono
variable {K : PySem.W.Frag} {F F' : Hp} {ws ws' : List Addr}
theorem Rd.mono {a : Addr} {u : HO} (s : Same F F') (h : Rd F a u) : Rd F' a u := by
  rcases h with h | ⟨o, h⟩
  · exact .inl (s _ _ h)
  · exact .inr ⟨o, s _ _ h⟩
theorem sqL_mono {a : Addr} {xs : List V} (s : Same F F') (h : SqL K F a xs) : SqL K F' a xs := by
  rcases h with h | h
  · exact .inl (Rd.mono s h)
  · exact .inr h
theorem sqT_mono {a : Addr} {xs : List V} (s : Same F F') (h : SqT K F a xs) : SqT K F' a xs := by
  rcases h with h | h
  · exact .inl (Rd.mono s h)
  · exact .inr h
mutual
theorem R.mono (s : Same F F') (w : ∀ a ∈ ws, a ∈ ws') : ∀ (d : D) (v : V), R K F ws v d → R K F' ws' v d
  | .non, _, h => by cases h; exact .non
  | .bl _, _, h => by cases h; exact .bl _
  | .int _, _, h => by cases h; exact .int _
  | .str _, _, h => by cases h; exact .str _
  | .lst ds, _, h => by
    cases h with
    | lst h t => exact .lst (s _ _ h) (Rs.mono s w ds _ t)
  | .kl ds, _, h => by
    cases h with
    | kl h t => exact .kl (sqL_mono s h) (Rs.mono s w ds _ t)
  | .tup ds, _, h => by
    cases h with
    | tup h t => exact .tup (sqT_mono s h) (Rs.mono s w ds _ t)
  | .dK ds, _, h => by
    cases h with
    | dK h t => exact .dK (s _ _ h) (Rk.mono s w ds _ t)
  | .dT ds, _, h => by
    cases h with
    | dT h t => exact .dT (s _ _ h) (Rt.mono s w ds _ t)
  | .obj C ds, _, h => by
    cases h with
    | obj hc h t => exact .obj hc (s _ _ h) (Rf.mono s w ds _ t)
  | .fn _, _, h => by
    cases h with
    | fn h => exact .fn h
  | .strm, _, h => by
    cases h with
    | strm h => exact .strm (w _ h)
  | .exc a dx ds, _, h => by
    cases h with
    | exc h t => exact .exc (s _ _ h) (Rf.mono s w ds _ t)
  | .ref a, _, h => by
    cases h with
    | ref => exact .ref
theorem Rs.mono (s : Same F F') (w : ∀ a ∈ ws, a ∈ ws') : ∀ (ds : List D) (vs : List V), Rs K F ws vs ds → Rs K F' ws' vs ds
  | [], _, h => by cases h; exact .nil
  | d :: ds, _, h => by
    cases h with
    | cons h t => exact .cons (R.mono s w d _ h) (Rs.mono s w ds _ t)
theorem Rk.mono (s : Same F F') (w : ∀ a ∈ ws, a ∈ ws') : ∀ (ds : List (Key × D)) (vs : List (Key × V)), Rk K F ws vs ds → Rk K F' ws' vs ds
  | [], _, h => by cases h; exact .nil
  | (k, d) :: ds, _, h => by
    cases h with
    | cons h t => exact .cons (R.mono s w d _ h) (Rk.mono s w ds _ t)
theorem Rt.mono (s : Same F F') (w : ∀ a ∈ ws, a ∈ ws') : ∀ (ds : List (List Key × D)) (vs : List (List Key × V)), Rt K F ws vs ds → Rt K F' ws' vs ds
  | [], _, h => by cases h; exact .nil
  | (k, d) :: ds, _, h => by
    cases h with
    | cons h t => exact .cons (R.mono s w d _ h) (Rt.mono s w ds _ t)
theorem Rf.mono (s : Same F F') (w : ∀ a ∈ ws, a ∈ ws') : ∀ (ds : List (Str × D)) (vs : List (Str × V)), Rf K F ws vs ds → Rf K F' ws' vs ds
  | [], _, h => by cases h; exact .nil
  | (k, d) :: ds, _, h => by
    cases h with
    | cons h t => exact .cons (R.mono s w d _ h) (Rf.mono s w ds _ t)
end
theorem R.mo {d : D} {v : V} (h : R K F ws v d) (s : Same F F') : R K F' ws v d := R.mono s (fun _ z => z) d v h
theorem Rs.mo {d : List D} {v : List V} (h : Rs K F ws v d) (s : Same F F') : Rs K F' ws v d := Rs.mono s (fun _ z => z) d v h
theorem Rs.len : ∀ {ds : List D} {vs : List V}, Rs K F ws vs ds → vs.length = ds.length
  | [], _, h => by cases h; rfl
  | d :: ds, _, h => by
    cases h with
    | cons h t => rw [List.length_cons, List.length_cons, Rs.len t]
theorem Rs.get : ∀ {ds : List D} {vs : List V} {i : Nat} {d : D}, Rs K F ws vs ds → ds[i]? = some d → ∃ v, vs[i]? = some v ∧ R K F ws v d
  | [], _, _, _, h, e => by simp at e
  | d :: ds, _, i, d', h, e => by
    cases h with
    | cons h t =>
      cases i with
      | zero => simp at e; subst e; exact ⟨_, rfl, h⟩
      | succ i =>
        obtain ⟨v, e1, r⟩ := Rs.get (i := i) t (by simpa using e)
        exact ⟨v, by simpa using e1, r⟩
theorem Rs.getV : ∀ {ds : List D} {vs : List V} {i : Nat} {v : V}, Rs K F ws vs ds → vs[i]? = some v → ∃ d, ds[i]? = some d ∧ R K F ws v d
  | [], _, _, _, h, e => by cases h; simp at e
  | d :: ds, _, i, v', h, e => by
    cases h with
    | cons h t =>
      cases i with
      | zero => simp at e; subst e; exact ⟨_, rfl, h⟩
      | succ i =>
        obtain ⟨d, e1, r⟩ := Rs.getV (i := i) t (by simpa using e)
        exact ⟨d, by simpa using e1, r⟩
theorem Rs.app : ∀ {ds es : List D} {vs us : List V}, Rs K F ws vs ds → Rs K F ws us es → Rs K F ws (vs ++ us) (ds ++ es)
  | [], _, _, _, h, g => by cases h; exact g
  | d :: ds, es, _, us, h, g => by
    cases h with
    | cons h t => exact .cons h (Rs.app t g)
theorem Rs.take (n : Nat) : ∀ {ds : List D} {vs : List V}, Rs K F ws vs ds → Rs K F ws (vs.take n) (ds.take n) := by
  induction n with
  | zero => intro ds vs _; exact .nil
  | succ n ih =>
    intro ds vs h
    cases h with
    | nil => exact .nil
    | cons h t => exact .cons h (ih t)
theorem Rs.drop (n : Nat) : ∀ {ds : List D} {vs : List V}, Rs K F ws vs ds → Rs K F ws (vs.drop n) (ds.drop n) := by
  induction n with
  | zero => intro ds vs h; exact h
  | succ n ih =>
    intro ds vs h
    cases h with
    | nil => exact .nil
    | cons h t => exact ih t
theorem Rs.set {d : D} {v : V} (r : R K F ws v d) (n : Nat) : ∀ {ds : List D} {vs : List V}, Rs K F ws vs ds → Rs K F ws (vs.set n v) (ds.set n d) := by
  induction n with
  | zero =>
    intro ds vs h
    cases h with
    | nil => exact .nil
    | cons h t => exact .cons r t
  | succ n ih =>
    intro ds vs h
    cases h with
    | nil => exact .nil
    | cons h t => exact .cons h (ih t)
theorem Rs.rep {d : D} {v : V} (r : R K F ws v d) : ∀ n : Nat, Rs K F ws (List.replicate n v) (List.replicate n d)
  | 0 => .nil
  | n + 1 => .cons r (Rs.rep r n)
end mono

/-! ### environments -/
/-- what an own thing holds -/
inductive Con where
  | lst (ds : List D) | dK (kvs : List (Key × D)) | dT (kvs : List (List Key × D)) | ins (C dx : Addr) (fs : List (Str × D))
instance : Coe (List D) Con := ⟨.lst⟩
def Con.toD : Con → D
  | .lst ds => .lst ds
  | .dK kvs => .dK kvs
  | .dT kvs => .dT kvs
  | .ins C _ fs => .obj C fs
inductive RC (K : PySem.W.Frag) (F : Hp) (ws : List Addr) : HO → Con → Prop
  | lst {xs : List V} {ds : List D} (t : Rs K F ws xs ds) : RC K F ws (.lst xs) (.lst ds)
  | dK {xs : List (Key × V)} {ds : List (Key × D)} (t : Rk K F ws xs ds) : RC K F ws (.dK xs) (.dK ds)
  | dT {xs : List (List Key × V)} {ds : List (List Key × D)} (t : Rt K F ws xs ds) : RC K F ws (.dT xs) (.dT ds)
  | ins {C dx : Addr} {xs : List (Str × V)} {ds : List (Str × D)} (hc : OwnC K C) (t : Rf K F ws xs ds) : RC K F ws (.ins C dx xs) (.ins C dx ds)
theorem RC.mo {K : PySem.W.Frag} {F F' : Hp} {ws : List Addr} {o : HO} {c : Con} (h : RC K F ws o c) (s : Same F F') : RC K F' ws o c := by
  cases h with
  | lst t => exact .lst (t.mo s)
  | dK t => exact .dK (Rk.mono s (fun _ z => z) _ _ t)
  | dT t => exact .dT (Rt.mono s (fun _ z => z) _ _ t)
  | ins hc t => exact .ins hc (Rf.mono s (fun _ z => z) _ _ t)
theorem RC.mono {K : PySem.W.Frag} {F F' : Hp} {ws ws' : List Addr} {o : HO} {c : Con} (s : Same F F') (w : ∀ a ∈ ws, a ∈ ws') (h : RC K F ws o c) : RC K F' ws' o c := by
  cases h with
  | lst t => exact .lst (Rs.mono s w _ _ t)
  | dK t => exact .dK (Rk.mono s w _ _ t)
  | dT t => exact .dT (Rt.mono s w _ _ t)
  | ins hc t => exact .ins hc (Rf.mono s w _ _ t)
theorem RC.list {K : PySem.W.Frag} {F : Hp} {ws : List Addr} {o : HO} {ds : List D} (h : RC K F ws o (.lst ds)) : ∃ vs, o = .lst vs ∧ Rs K F ws vs ds := by
  cases h with
  | lst t => exact ⟨_, rfl, t⟩
theorem RC.dict {K : PySem.W.Frag} {F : Hp} {ws : List Addr} {o : HO} {ds : List (Key × D)} (h : RC K F ws o (.dK ds)) : ∃ vs, o = .dK vs ∧ Rk K F ws vs ds := by
  cases h with
  | dK t => exact ⟨_, rfl, t⟩
theorem RC.dictT {K : PySem.W.Frag} {F : Hp} {ws : List Addr} {o : HO} {ds : List (List Key × D)} (h : RC K F ws o (.dT ds)) : ∃ vs, o = .dT vs ∧ Rt K F ws vs ds := by
  cases h with
  | dT t => exact ⟨_, rfl, t⟩
theorem RC.inst {K : PySem.W.Frag} {F : Hp} {ws : List Addr} {o : HO} {C dx : Addr} {ds : List (Str × D)} (h : RC K F ws o (.ins C dx ds)) : OwnC K C ∧ ∃ vs, o = .ins C dx vs ∧ Rf K F ws vs ds := by
  cases h with
  | ins hc t => exact ⟨hc, _, rfl, t⟩
/-- what a thing becomes when it is data: a dict is locked -/
inductive Fz : HO → HO → Prop
  | lst (xs : List V) : Fz (.lst xs) (.lst xs)
  | dK (o : Obj) (xs : List (Key × V)) : Fz (.dK xs) (.frz o (.dK xs))
  | dT (o : Obj) (xs : List (List Key × V)) : Fz (.dT xs) (.frz o (.dT xs))
  | ins (C dx : Addr) (xs : List (Str × V)) : Fz (.ins C dx xs) (.ins C dx xs)
inductive Sl where
  | non | dat (d : D) | own (a : Addr) (ds : List D) | box (a : Addr) (c : Con)
structure Ev where
  sl : List Sl
  hid : List (Addr × Con)
  ws : List Addr
  g : Nat
structure Anc where
  F : Hp
  H : Hp
  ws : List Addr
inductive RV where
  | v (d : D) | l (a : Addr) (ds : List D) | b (a : Addr) (c : Con)
def RV.toD : RV → D
  | .v d => d
  | .l _ ds => .lst ds
  | .b _ c => c.toD
def Sl.of : RV → Sl
  | .v d => .dat d
  | .l a ds => .own a ds
  | .b a c => .box a c
abbrev Ev.put (ρ : Ev) (i : Nat) (s : Sl) : Ev := { ρ with sl := ρ.sl.set i s }
abbrev Ev.gas (ρ : Ev) (g : Nat) : Ev := { ρ with g := g }
/-- the i-th slot, the j-th hidden one -/
def Sl.bx : Sl → Option (Addr × Con)
  | .own a ds => some (a, .lst ds)
  | .box a c => some (a, c)
  | _ => none
def ownOf (o : Option Sl) : Option (Addr × Con) := o.bind Sl.bx
def Ev.at (ρ : Ev) (p : Sum Nat Nat) : Option (Addr × Con) := match p with
  | .inl i => ownOf ρ.sl[i]?
  | .inr j => ρ.hid[j]?
def big : Nat := 1099511627776
def Strm (H : Hp) (b : Nat) (a : Addr) : Prop := ∃ c m n : Int, H a = some (.lst [.int c, .int m, .int n]) ∧ 0 ≤ c ∧ 0 ≤ m ∧ m < (big : Int) ∧ 0 ≤ n ∧ n + (b : Int) ≤ (big : Int)
theorem Strm.less {H : Hp} {b b' : Nat} {a : Addr} (h : Strm H b a) (l : b' ≤ b) : Strm H b' a := by
  obtain ⟨c, m, n, e, h1, h2, h3, h4, h5⟩ := h
  exact ⟨c, m, n, e, h1, h2, h3, h4, by omega⟩
def NoTbl (o : HO) : Prop := ∀ ps, o ≠ .tbl ps
structure Ok (K : PySem.W.Frag) (T : List (Addr × Str)) (A : Anc) (F H : Hp) (σ : L2.St) (ρ : Ev) : Prop where
  sub0 : Same A.F F
  sub : Same F H
  keep : ∀ a o, A.H a = some o → NoTbl o → a ∉ A.ws → H a = some o
  apart : ∀ a, A.H a ≠ none → A.F a = none → F a = none
  there : ∀ a, A.H a ≠ none → H a ≠ none
  tabs : LamX.Tabs T H ∧ ∀ a o, F a = some o → NoTbl o
  wsub : ∀ a ∈ A.ws, a ∈ ρ.ws
  wnew : ∀ a ∈ ρ.ws, a ∈ A.ws ∨ A.H a = none
  strm : ∀ a ∈ ρ.ws, Strm H ρ.g a ∧ F a = none
  slots : ∀ (i : Nat) d, ρ.sl[i]? = some (.dat d) → ∃ v, σ[i]? = some (some v) ∧ R K F ρ.ws v d
  ownS : ∀ (i : Nat) a c, ownOf ρ.sl[i]? = some (a, c) → σ[i]? = some (some (.ref a))
  owns : ∀ p a c, ρ.at p = some (a, c) → F a = none ∧ a ∉ ρ.ws ∧ A.H a = none ∧ ∃ o, H a = some o ∧ RC K F ρ.ws o c
  dist : ∀ p q a c c', ρ.at p = some (a, c) → ρ.at q = some (a, c') → p = q
  len : ρ.sl.length ≤ σ.length
def GvB (K : PySem.W.Frag) (A : Anc) (F H : Hp) (ρ : Ev) (v : V) (a : Addr) (c : Con) : Prop := v = .ref a ∧ F a = none ∧ a ∉ ρ.ws ∧ A.H a = none ∧ (∃ o, H a = some o ∧ RC K F ρ.ws o c) ∧ ∀ p c', ρ.at p ≠ some (a, c')
def Gv (K : PySem.W.Frag) (A : Anc) (F H : Hp) (ρ : Ev) (v : V) : RV → Prop
  | .v d => R K F ρ.ws v d
  | .l a ds => GvB K A F H ρ v a (.lst ds)
  | .b a c => GvB K A F H ρ v a c

/-! ### judgements -/
section judge
variable (X : Cx) (T : List (Addr × Str)) (A : Anc)
abbrev CD := D → Ev → Prop
abbrev CV := RV → Ev → Prop
abbrev CB := Bool → Ev → Prop
abbrev CL := List D → Ev → Prop
def tD (ρ : Ev) (C : CD) : TE := fun σ H Q => ∃ F, Ok X.K T A F H σ ρ ∧ ∀ d ρ', C d ρ' → ∀ v F' H', Same F F' → ρ'.ws = ρ.ws → Ok X.K T A F' H' σ ρ' → R X.K F' ρ'.ws v d → Q v H'
def tV (ρ : Ev) (C : CV) : TE := fun σ H Q => ∃ F, Ok X.K T A F H σ ρ ∧ ∀ r ρ', C r ρ' → ∀ v F' H', Same F F' → ρ'.ws = ρ.ws → Ok X.K T A F' H' σ ρ' → Gv X.K A F' H' ρ' v r → Q v H'
def tT (ρ : Ev) (C : CB) : TT := fun σ H Q => ∃ F, Ok X.K T A F H σ ρ ∧ ∀ b ρ', C b ρ' → ∀ F' H', Same F F' → ρ'.ws = ρ.ws → Ok X.K T A F' H' σ ρ' → Q b H'
def tA (ρ : Ev) (C : CL) : TA := fun σ H Q => ∃ F, Ok X.K T A F H σ ρ ∧ ∀ ds ρ', C ds ρ' → ∀ vs F' H', Same F F' → ρ'.ws = ρ.ws → Ok X.K T A F' H' σ ρ' → Rs X.K F' ρ'.ws vs ds → Q vs H'
structure DO where
  nx : Ev → Prop
  rt : CV
  bk : Ev → Prop := fun _ => False
  ct : Ev → Prop := fun _ => False
def Goes (F : Hp) (ws : List Addr) (C : Ev → Prop) (Q : St → Hp → Prop) : Prop := ∀ ρ', C ρ' → ∀ σ' F' H', Same F F' → (∀ a ∈ ws, a ∈ ρ'.ws) → Ok X.K T A F' H' σ' ρ' → Q σ' H'
def tS (ρ : Ev) (O : DO) : TS := fun E σ H => ∃ F, Ok X.K T A F H σ ρ ∧ Goes X T A F ρ.ws O.nx E.nx ∧
  (∀ r ρ', O.rt r ρ' → ∀ v σ' F' H', Ok X.K T A F' H' σ' ρ' → Gv X.K A F' H' ρ' v r → E.rt v H') ∧ Goes X T A F ρ.ws O.bk E.bk ∧ Goes X T A F ρ.ws O.ct E.ct
structure DE (ρ : Ev) (e : Expr) (C : CD) : Prop where pe : PE X e (tD X T A ρ C)
structure DV (ρ : Ev) (e : Expr) (C : CV) : Prop where pe : PE X e (tV X T A ρ C)
structure DT (ρ : Ev) (e : Expr) (C : CB) : Prop where pe : PT X e (tT X T A ρ C)
structure DW (ρ : Ev) (e : Expr) (C : CB) : Prop where pe : PW X e (tT X T A ρ C)
structure DA (ρ : Ev) (es : List Expr) (C : CL) : Prop where pe : PA X es (tA X T A ρ C)
structure DS (ρ : Ev) (st : Stmt) (O : DO) : Prop where pe : PS X st (tS X T A ρ O)
structure DSs (ρ : Ev) (st : List Stmt) (O : DO) : Prop where pe : PSs X st (tS X T A ρ O)
/-! the readings that any syntax has -/
def goE (e : Expr) : TE := fun σ H Q => ∃ ρ C, DE X T A ρ e C ∧ tD X T A ρ C σ H Q
def goV (e : Expr) : TE := fun σ H Q => ∃ ρ C, DV X T A ρ e C ∧ tV X T A ρ C σ H Q
def goT (e : Expr) : TT := fun σ H Q => ∃ ρ C, DT X T A ρ e C ∧ tT X T A ρ C σ H Q
def goW (e : Expr) : TT := fun σ H Q => ∃ ρ C, DW X T A ρ e C ∧ tT X T A ρ C σ H Q
def goA (es : List Expr) : TA := fun σ H Q => ∃ ρ C, DA X T A ρ es C ∧ tA X T A ρ C σ H Q
def goS (st : Stmt) : TS := fun E σ H => ∃ ρ O, DS X T A ρ st O ∧ tS X T A ρ O E σ H
def goSs (st : List Stmt) : TS := fun E σ H => ∃ ρ O, DSs X T A ρ st O ∧ tS X T A ρ O E σ H
end judge
section gos
variable {X : Cx} {T : List (Addr × Str)} {A : Anc} {e : Expr} {es : List Expr} {st : Stmt} {sts : List Stmt}
theorem pe_go : PE X e (goE X T A e) := ⟨fun pins s σ H Q I ⟨_, _, h, q⟩ => h.pe.run pins s σ H Q I q⟩
theorem pv_go : PE X e (goV X T A e) := ⟨fun pins s σ H Q I ⟨_, _, h, q⟩ => h.pe.run pins s σ H Q I q⟩
theorem pt_go : PT X e (goT X T A e) := ⟨fun pins s σ H Q I ⟨_, _, h, q⟩ => h.pe.run pins s σ H Q I q⟩
theorem pw_go : PW X e (goW X T A e) := ⟨fun wh pins s σ H Q I ⟨_, _, h, q⟩ => h.pe.run wh pins s σ H Q I q⟩
theorem pa_go : PA X es (goA X T A es) := ⟨fun pos pins s σ H Q I ⟨_, _, h, q⟩ => h.pe.run pos pins s σ H Q I q⟩
theorem ps_go : PS X st (goS X T A st) := ⟨fun pins s σ H E I ⟨_, _, h, q⟩ => h.pe.run pins s σ H E I q⟩
theorem pss_go : PSs X sts (goSs X T A sts) := ⟨fun pins s σ H E I ⟨_, _, h, q⟩ => h.pe.run pins s σ H E I q⟩
/-- from a reading of the layer -/
theorem DE.of {ρ : Ev} {C : CD} {t : TE} (h : PE X e t) (k : ∀ σ H Q F, Ok X.K T A F H σ ρ → (∀ d ρ', C d ρ' → ∀ v F' H', Same F F' → ρ'.ws = ρ.ws → Ok X.K T A F' H' σ ρ' → R X.K F' ρ'.ws v d → Q v H') → t σ H Q) : DE X T A ρ e C :=
  ⟨⟨fun pins s σ H Q I ⟨F, ok, q⟩ => h.run pins s σ H Q I (k σ H Q F ok q)⟩⟩
theorem DV.of {ρ : Ev} {C : CV} {t : TE} (h : PE X e t) (k : ∀ σ H Q F, Ok X.K T A F H σ ρ → (∀ r ρ', C r ρ' → ∀ v F' H', Same F F' → ρ'.ws = ρ.ws → Ok X.K T A F' H' σ ρ' → Gv X.K A F' H' ρ' v r → Q v H') → t σ H Q) : DV X T A ρ e C :=
  ⟨⟨fun pins s σ H Q I ⟨F, ok, q⟩ => h.run pins s σ H Q I (k σ H Q F ok q)⟩⟩
theorem DT.of {ρ : Ev} {C : CB} {t : TT} (h : PT X e t) (k : ∀ σ H Q F, Ok X.K T A F H σ ρ → (∀ b ρ', C b ρ' → ∀ F' H', Same F F' → ρ'.ws = ρ.ws → Ok X.K T A F' H' σ ρ' → Q b H') → t σ H Q) : DT X T A ρ e C :=
  ⟨⟨fun pins s σ H Q I ⟨F, ok, q⟩ => h.run pins s σ H Q I (k σ H Q F ok q)⟩⟩
theorem DW.of {ρ : Ev} {C : CB} {t : TT} (h : PW X e t) (k : ∀ σ H Q F, Ok X.K T A F H σ ρ → (∀ b ρ', C b ρ' → ∀ F' H', Same F F' → ρ'.ws = ρ.ws → Ok X.K T A F' H' σ ρ' → Q b H') → t σ H Q) : DW X T A ρ e C :=
  ⟨⟨fun wh pins s σ H Q I ⟨F, ok, q⟩ => h.run wh pins s σ H Q I (k σ H Q F ok q)⟩⟩
theorem DA.of {ρ : Ev} {C : CL} {t : TA} (h : PA X es t) (k : ∀ σ H Q F, Ok X.K T A F H σ ρ → (∀ ds ρ', C ds ρ' → ∀ vs F' H', Same F F' → ρ'.ws = ρ.ws → Ok X.K T A F' H' σ ρ' → Rs X.K F' ρ'.ws vs ds → Q vs H') → t σ H Q) : DA X T A ρ es C :=
  ⟨⟨fun pos pins s σ H Q I ⟨F, ok, q⟩ => h.run pos pins s σ H Q I (k σ H Q F ok q)⟩⟩
theorem DS.of {ρ : Ev} {O : DO} {t : TS} (h : PS X st t) (k : ∀ E σ H, tS X T A ρ O E σ H → t E σ H) : DS X T A ρ st O :=
  ⟨⟨fun pins s σ H E I q => h.run pins s σ H E I (k E σ H q)⟩⟩
theorem DSs.of {ρ : Ev} {O : DO} {t : TS} (h : PSs X sts t) (k : ∀ E σ H, tS X T A ρ O E σ H → t E σ H) : DSs X T A ρ sts O :=
  ⟨⟨fun pins s σ H E I q => h.run pins s σ H E I (k E σ H q)⟩⟩
end gos
end DL
end

section
namespace DL
open PySem PySem.Spec L2
/-! ### what an environment bears -/
section ok
variable {K : PySem.W.Frag} {T : List (Addr × Str)} {A : Anc} {F F' H H' : Hp} {σ : L2.St} {ρ : Ev}
theorem ownOf_bx {o : Option Sl} {a : Addr} {c : Con} (h : ownOf o = some (a, c)) : ∃ s, o = some s ∧ s.bx = some (a, c) := by
  cases o with
  | none => cases h
  | some s => exact ⟨s, rfl, h⟩
theorem ownOf_of {o : Option Sl} {s : Sl} {x : Addr × Con} (h : o = some s) (e : s.bx = some x) : ownOf o = some x := by
  rw [h]
  exact e
theorem at_inl {ρ : Ev} {i : Nat} {a : Addr} {c : Con} (h : ρ.at (.inl i) = some (a, c)) : ∃ s, ρ.sl[i]? = some s ∧ s.bx = some (a, c) := ownOf_bx h
theorem at_of {ρ : Ev} {i : Nat} {a : Addr} {ds : List D} (h : ρ.sl[i]? = some (.own a ds)) : ρ.at (.inl i) = some (a, .lst ds) := ownOf_of h rfl
theorem at_ofB {ρ : Ev} {i : Nat} {a : Addr} {c : Con} {s : Sl} (h : ρ.sl[i]? = some s) (e : s.bx = some (a, c)) : ρ.at (.inl i) = some (a, c) := ownOf_of h e
theorem put_get {l : List Sl} {i j : Nat} {s u : Sl} (h : (l.set i s)[j]? = some u) : (j = i ∧ u = s ∧ i < l.length) ∨ (j ≠ i ∧ l[j]? = some u) := by
  by_cases e : j = i
  · subst e
    by_cases hl : j < l.length
    · rw [List.getElem?_set_self hl] at h
      exact .inl ⟨rfl, (Option.some.inj h).symm, hl⟩
    · rw [List.getElem?_eq_none (by simpa using hl)] at h
      cases h
  · rw [List.getElem?_set_ne (Ne.symm e)] at h
    exact .inr ⟨e, h⟩
theorem at_put {ρ : Ev} {i : Nat} {s : Sl} {p : Sum Nat Nat} {x : Addr × Con} (h : (ρ.put i s).at p = some x) : (p = .inl i ∧ s.bx = some x ∧ i < ρ.sl.length) ∨ (p ≠ .inl i ∧ ρ.at p = some x) := by
  obtain ⟨a, c⟩ := x
  cases p with
  | inr j => exact .inr ⟨by simp, h⟩
  | inl j =>
    obtain ⟨s', h1, h2⟩ := at_inl h
    rcases put_get h1 with ⟨rfl, e, l⟩ | ⟨e, h'⟩
    · rw [e] at h2
      exact .inl ⟨rfl, h2, l⟩
    · exact .inr ⟨by simp [e], at_ofB h' h2⟩
theorem Ok.up (ok : Ok K T A F H σ ρ) (s1 : Same F F') (s2 : Same F' H') (s3 : Same H H') (nw : ∀ a, F' a ≠ none → F a = none → H a = none) (nt : ∀ a o, F' a = some o → F a = none → NoTbl o) : Ok K T A F' H' σ ρ := by
  have fr : ∀ a o, H a = some o → F a = none → F' a = none := fun a o e n => by
    cases q : F' a with
    | none => rfl
    | some u =>
      have z := nw a (by rw [q]; simp) n
      rw [e] at z
      cases z
  refine ⟨ok.sub0.trans s1, s2, fun a o e n w => s3 _ _ (ok.keep a o e n w), fun a h n => ?_, fun a h => ?_, ⟨ok.tabs.1.ext s3, fun a o e => by
    cases q : F a with
    | none => exact nt a o e q
    | some u =>
      rw [s1 _ _ q] at e
      cases e
      exact ok.tabs.2 a _ q⟩, ok.wsub, ok.wnew, fun a h => ?_, fun i d e => ?_, ok.ownS, fun p a ds e => ?_, ok.dist, ok.len⟩
  · cases q : H a with
    | none => exact absurd q (ok.there a h)
    | some o => exact fr a o q (ok.apart a h n)
  · cases q : H a with
    | none => exact absurd q (ok.there a h)
    | some o =>
      rw [s3 _ _ q]
      simp
  · obtain ⟨⟨c, m, n, e, r⟩, n2⟩ := ok.strm a h
    exact ⟨⟨c, m, n, s3 _ _ e, r⟩, fr a _ e n2⟩
  · obtain ⟨v, h1, h2⟩ := ok.slots i d e
    exact ⟨v, h1, h2.mo s1⟩
  · obtain ⟨h1, h2, h3, o, h4, h5⟩ := ok.owns p a ds e
    exact ⟨fr a _ h4 h1, h2, h3, o, s3 _ _ h4, h5.mo s1⟩
theorem Ok.grow (ok : Ok K T A F H σ ρ) (s : Same H H') : Ok K T A F H' σ ρ := ok.up (fun _ _ z => z) (fun b o z => s _ _ (ok.sub _ _ z)) s (fun a h n => absurd n h) (fun a o e n => by rw [e] at n; cases n)
theorem same_upd {p : Addr} {o : HO} (h : H p = none) : Same H (upd H p o) := fun b x e => by
  rw [upd_ne (ne_of_none e h)]
  exact e
theorem Ok.fnone (ok : Ok K T A F H σ ρ) {p : Addr} (h : H p = none) : F p = none := ok.sub.free h
theorem Ok.anone (ok : Ok K T A F H σ ρ) {p : Addr} (h : H p = none) : A.H p = none := by
  cases q : A.H p with
  | none => rfl
  | some o => exact absurd h (ok.there p (by rw [q]; simp))
/-- a new thing that is data from the start -/
theorem Ok.alloc (ok : Ok K T A F H σ ρ) {p : Addr} {o : HO} (h : H p = none) (ho : NoTbl o := by intro ps z; cases z) : Ok K T A (upd F p o) (upd H p o) σ ρ ∧ Same F (upd F p o) := by
  have sF : Same F (upd F p o) := same_upd (ok.fnone h)
  refine ⟨ok.up sF (fun b x e => ?_) (same_upd h) (fun a n1 n2 => ?_) (fun a u e n => ?_), sF⟩
  · by_cases hb : b = p
    · subst hb
      rw [upd_same] at e ⊢
      exact e
    · rw [upd_ne hb] at e ⊢
      exact ok.sub _ _ e
  · by_cases hb : a = p
    · rw [hb]; exact h
    · rw [upd_ne hb] at n1
      exact absurd n2 n1
  · by_cases hb : a = p
    · rw [hb, upd_same] at e
      cases e
      exact ho
    · rw [upd_ne hb, n] at e
      cases e
/-- a new thing of one's own -/
theorem Ok.mineB (ok : Ok K T A F H σ ρ) {p : Addr} {o : HO} {c : Con} (h : H p = none) (r : RC K F ρ.ws o c) : Ok K T A F (upd H p o) σ ρ ∧ GvB K A F (upd H p o) ρ (.ref p) p c := by
  refine ⟨ok.grow (same_upd h), rfl, ok.fnone h, fun w => ?_, ok.anone h, ⟨o, upd_same, r⟩, fun q ds' e => ?_⟩
  · obtain ⟨⟨_, _, _, e, _⟩, _⟩ := ok.strm p w
    rw [h] at e; cases e
  · obtain ⟨_, _, _, _, e, _⟩ := ok.owns q p ds' e
    rw [h] at e; cases e
/-- a new list of one's own -/
theorem Ok.mine (ok : Ok K T A F H σ ρ) {p : Addr} {vs : List V} {ds : List D} (h : H p = none) (r : Rs K F ρ.ws vs ds) : Ok K T A F (upd H p (.lst vs)) σ ρ ∧ Gv K A F (upd H p (.lst vs)) ρ (.ref p) (.l p ds) := ok.mineB h (.lst r)
theorem Fz.data {o o' : HO} {c : Con} {ws : List Addr} (h : RC K F ws o c) (z : Fz o o') {a : Addr} (e : F' a = some o') (s : Same F F') : R K F' ws (.ref a) c.toD := by
  cases h with
  | lst t => cases z; exact .lst e (t.mo s)
  | dK t => cases z; exact .dK e (Rk.mono s (fun _ z => z) _ _ t)
  | dT t => cases z; exact .dT e (Rt.mono s (fun _ z => z) _ _ t)
  | ins hc t => cases z; exact .obj hc e (Rf.mono s (fun _ z => z) _ _ t)
theorem Fz.noTbl {o o' : HO} (z : Fz o o') : NoTbl o' := by
  cases z <;> (intro ps z; cases z)
theorem RC.noTbl {o : HO} {c : Con} {ws : List Addr} (h : RC K F ws o c) : NoTbl o := by
  cases h <;> (intro ps z; cases z)
theorem upd_id {a : Addr} {o : HO} (e : H a = some o) : upd H a o = H := by
  funext b
  by_cases hb : b = a
  · rw [hb, upd_same, e]
  · rw [upd_ne hb]
theorem tabs_upd {T : List (Addr × Str)} {a : Addr} {o0 o : HO} {c : Con} {ws : List Addr} (t : LamX.Tabs T H) (h4 : H a = some o0) (h5 : RC K F ws o0 c) : LamX.Tabs T (upd H a o) := fun p hp => by
  obtain ⟨ps, e1, e2, e3⟩ := t p hp
  have nt : ∀ qs, o0 ≠ .tbl qs := h5.noTbl
  have nc : ∀ b x, H b = some x → x ≠ o0 → b ≠ a := fun b x hb hx z => by
    rw [z, h4] at hb
    exact hx (Option.some.inj hb).symm
  refine ⟨ps, ?_, e2, fun pos cv q => ?_⟩
  · rw [upd_ne (nc _ _ e1 (fun z => nt _ z.symm))]
    exact e1
  · obtain ⟨cc, e4, e5⟩ := e3 pos cv q
    refine ⟨cc, e4, ?_⟩
    rw [upd_ne (nc _ _ e5 (fun z => by
      rw [← z] at h5
      cases h5))]
    exact e5
/-- one's own thing is let go: data -/
theorem Ok.thawB (ok : Ok K T A F H σ ρ) {v : V} {a : Addr} {c : Con} (g : GvB K A F H ρ v a c) {o o' : HO} (eo : H a = some o) (z : Fz o o') : Same F (upd F a o') ∧ Ok K T A (upd F a o') (upd H a o') σ ρ ∧ R K (upd F a o') ρ.ws v c.toD := by
  obtain ⟨rfl, h1, h2, h3, ⟨vs, h4, h5⟩, h6⟩ := g
  rw [eo] at h4
  cases h4
  have sF : Same F (upd F a o') := same_upd h1
  refine ⟨sF, ⟨ok.sub0.trans sF, fun b x e => ?_, fun b u e n w => ?_, fun b hb n => ?_, fun b hb => ?_, ⟨tabs_upd ok.tabs.1 eo h5, fun b u e => ?_⟩, ok.wsub, ok.wnew, fun b hb => ?_, fun i d e => ?_, ok.ownS, fun p b es e => ?_, ok.dist, ok.len⟩, z.data h5 upd_same sF⟩
  · by_cases hb : b = a
    · subst hb
      rw [upd_same] at e ⊢
      exact e
    · rw [upd_ne hb] at e ⊢
      exact ok.sub _ _ e
  · rw [upd_ne (fun z : b = a => by rw [z, h3] at e; cases e)]
    exact ok.keep b u e n w
  · rw [upd_ne (fun z : b = a => hb (by rw [z]; exact h3))]
    exact ok.apart b hb n
  · by_cases hb2 : b = a
    · rw [hb2, upd_same]; simp
    · rw [upd_ne hb2]; exact ok.there b hb
  · by_cases hb : b = a
    · rw [hb, upd_same] at e
      cases e
      exact z.noTbl
    · rw [upd_ne hb] at e
      exact ok.tabs.2 b u e
  · have ne : b ≠ a := fun z => h2 (by rw [← z]; exact hb)
    obtain ⟨⟨cc, m, n, q, zz⟩, n2⟩ := ok.strm b hb
    rw [upd_ne ne]
    exact ⟨⟨cc, m, n, by rw [upd_ne ne]; exact q, zz⟩, n2⟩
  · obtain ⟨v, e1, e2⟩ := ok.slots i d e
    exact ⟨v, e1, e2.mo sF⟩
  · obtain ⟨e1, e2, e3, us, e4, e5⟩ := ok.owns p b es e
    have ne : b ≠ a := fun z => h6 p es (by rw [← z]; exact e)
    refine ⟨?_, e2, e3, us, ?_, e5.mo sF⟩
    · rw [upd_ne ne]
      exact e1
    · rw [upd_ne ne]
      exact e4
theorem Ok.thaw (ok : Ok K T A F H σ ρ) {v : V} {a : Addr} {ds : List D} (g : Gv K A F H ρ v (.l a ds)) : ∃ F', Same F F' ∧ Ok K T A F' H σ ρ ∧ R K F' ρ.ws v (.lst ds) := by
  obtain ⟨o, e, r⟩ := g.2.2.2.2.1
  obtain ⟨vs, rfl, _⟩ := r.list
  obtain ⟨s, ok', rd⟩ := ok.thawB g e (.lst vs)
  rw [upd_id e] at ok'
  exact ⟨_, s, ok', rd⟩
theorem set_at {σ : L2.St} {i : Nat} {v : V} (h : i < σ.length) : (σ.set i (some v))[i]? = some (some v) := List.getElem?_set_self h
/-- a thing that is let go: its object, and what it becomes -/
def tFz (t : TE) : TE := fun σ H Q => t σ H fun v H1 => Q v H1 ∨ ∃ d u, H1 d = some u ∧ Mut (some u) ∧ ∀ od, Q v (upd H1 d (.frz od u))
theorem pe_fz {X : Cx} {e : Expr} {t : TE} (h : PE X e t) : PE X e (tFz t) := by
  refine ⟨fun pins s σ H Q I hw => ?_⟩
  refine thn (h.run pins s σ _ _ I hw) fun v s1 ⟨x, H1, I2, r, q⟩ => ?_
  rcases q with q | ⟨d, u, hd, mu, q⟩
  · exact ⟨x, _, I2, r, q⟩
  · obtain ⟨od, I3⟩ := I2.lock hd mu
    exact ⟨x, _, I3, r, q od⟩
/-- to let a thing go: it is enough to do with whatever it becomes -/
theorem fz_of {v : V} {a : Addr} {o : HO} {c : Con} {ws : List Addr} {Q : VK} (e : H a = some o) (r : RC K F ws o c) (h : ∀ o', Fz o o' → Q v (upd H a o')) : Q v H ∨ ∃ d u, H d = some u ∧ Mut (some u) ∧ ∀ od, Q v (upd H d (.frz od u)) := by
  cases r with
  | lst t =>
    have q := h _ (.lst _)
    rw [upd_id e] at q
    exact .inl q
  | dK t => exact .inr ⟨a, _, e, trivial, fun od => h _ (.dK od _)⟩
  | dT t => exact .inr ⟨a, _, e, trivial, fun od => h _ (.dT od _)⟩
  | ins hc t =>
    have q := h _ (.ins _ _ _)
    rw [upd_id e] at q
    exact .inl q
theorem gv_box {v : V} {r : RV} {a : Addr} {c : Con} (g : Gv K A F H ρ v r) (e : (Sl.of r).bx = some (a, c)) : GvB K A F H ρ v a c := by
  cases r with
  | v d => cases e
  | l b ds => cases e; exact g
  | b b ds => cases e; exact g
theorem of_dat {r : RV} {d : D} (e : Sl.of r = .dat d) : r = .v d := by
  cases r with
  | v d' => cases e; rfl
  | l b ds => cases e
  | b b ds => cases e
/-- a slot is set -/
theorem Ok.put (ok : Ok K T A F H σ ρ) {i : Nat} {v : V} {r : RV} (g : Gv K A F H ρ v r) : Ok K T A F H (σ.set i (some v)) (ρ.put i (.of r)) := by
  refine ⟨ok.sub0, ok.sub, ok.keep, ok.apart, ok.there, ok.tabs, ok.wsub, ok.wnew, ok.strm, fun j d e => ?_, fun j a c e => ?_, fun p a c e => ?_, fun p q a c c' e1 e2 => ?_, ?_⟩
  · rcases put_get e with ⟨rfl, e, l⟩ | ⟨n, e⟩
    · cases of_dat e.symm
      exact ⟨v, set_at (Nat.lt_of_lt_of_le l ok.len), g⟩
    · rw [List.getElem?_set_ne (Ne.symm n)]
      exact ok.slots j d e
  · obtain ⟨s, e, eb⟩ := ownOf_bx e
    rcases put_get e with ⟨rfl, e, l⟩ | ⟨n, e⟩
    · subst e
      obtain ⟨rfl, _⟩ := gv_box g eb
      exact set_at (Nat.lt_of_lt_of_le l ok.len)
    · rw [List.getElem?_set_ne (Ne.symm n)]
      exact ok.ownS j a c (ownOf_of e eb)
  · rcases at_put e with ⟨rfl, e, l⟩ | ⟨n, e⟩
    · obtain ⟨_, h1, h2, h3, h4, _⟩ := gv_box g e
      exact ⟨h1, h2, h3, h4⟩
    · exact ok.owns p a c e
  · rcases at_put e1 with ⟨rfl, e1, l1⟩ | ⟨n1, f1⟩
    · rcases at_put e2 with ⟨rfl, f2, l2⟩ | ⟨n2, f2⟩
      · rfl
      · exact absurd f2 ((gv_box g e1).2.2.2.2.2 q c')
    · rcases at_put e2 with ⟨rfl, f2, l2⟩ | ⟨n2, f2⟩
      · exact absurd f1 ((gv_box g f2).2.2.2.2.2 p c)
      · exact ok.dist p q a c c' f1 f2
  · rw [List.length_set, List.length_set]
    exact ok.len
/-- a slot is forgotten -/
theorem Ok.forget (ok : Ok K T A F H σ ρ) (i : Nat) : Ok K T A F H σ (ρ.put i .non) := by
  refine ⟨ok.sub0, ok.sub, ok.keep, ok.apart, ok.there, ok.tabs, ok.wsub, ok.wnew, ok.strm, fun j d q => ?_, fun j b c q => ?_, fun p b c q => ?_, fun p q b c c' e1 e2 => ?_, ?_⟩
  · rcases put_get q with ⟨_, q, _⟩ | ⟨_, q⟩
    · cases q
    · exact ok.slots j d q
  · obtain ⟨s, q, qb⟩ := ownOf_bx q
    rcases put_get q with ⟨_, q, _⟩ | ⟨_, q⟩
    · subst q
      cases qb
    · exact ok.ownS j b c (ownOf_of q qb)
  · rcases at_put q with ⟨_, q, _⟩ | ⟨_, q⟩
    · cases q
    · exact ok.owns p b c q
  · rcases at_put e1 with ⟨_, q, _⟩ | ⟨_, e1⟩
    · cases q
    rcases at_put e2 with ⟨_, q, _⟩ | ⟨_, e2⟩
    · cases q
    exact ok.dist p q b c c' e1 e2
  · rw [List.length_set]; exact ok.len
/-- a slot's own thing: the slot is forgotten, the thing is at hand -/
theorem Ok.takeB (ok : Ok K T A F H σ ρ) {i : Nat} {a : Addr} {c : Con} {s : Sl} (e : ρ.sl[i]? = some s) (eb : s.bx = some (a, c)) : Ok K T A F H σ (ρ.put i .non) ∧ GvB K A F H (ρ.put i .non) (.ref a) a c := by
  obtain ⟨h1, h2, h3, vs, h4, h5⟩ := ok.owns _ a c (at_ofB e eb)
  refine ⟨ok.forget i, rfl, h1, h2, h3, ⟨vs, h4, h5⟩, fun p es q => ?_⟩
  rcases at_put q with ⟨_, q, _⟩ | ⟨n, q⟩
  · cases q
  · exact n (ok.dist p (.inl i) a es c q (at_ofB e eb))
/-- a slot of one's own becomes data -/
theorem Ok.letgoB (ok : Ok K T A F H σ ρ) {i : Nat} {a : Addr} {c : Con} {s : Sl} (e : ρ.sl[i]? = some s) (eb : s.bx = some (a, c)) {o o' : HO} (eo : H a = some o) (z : Fz o o') : Same F (upd F a o') ∧ Ok K T A (upd F a o') (upd H a o') σ (ρ.put i (.dat c.toD)) ∧ R K (upd F a o') ρ.ws (.ref a) c.toD := by
  have hs := ok.ownS i a c (ownOf_of e eb)
  obtain ⟨ok0, g0⟩ := ok.takeB e eb
  obtain ⟨sF, ok1, r⟩ := ok0.thawB g0 eo z
  refine ⟨sF, ?_, r⟩
  have ok2 := ok1.put (i := i) (r := .v c.toD) r
  have e1 : σ.set i (some (.ref a)) = σ := by
    apply List.ext_getElem?
    intro j
    by_cases hj : j = i
    · subst hj
      rw [set_at (List.getElem?_eq_some_iff.mp hs).1, hs]
    · rw [List.getElem?_set_ne (Ne.symm hj)]
  rw [e1] at ok2
  have e2 : (ρ.put i .non).put i (.dat c.toD) = ρ.put i (.dat c.toD) := by
    show ({ ρ with sl := (ρ.sl.set i .non).set i (.dat c.toD) } : Ev) = _
    rw [List.set_set]
  rw [← e2]
  exact ok2
theorem Ok.ownL (ok : Ok K T A F H σ ρ) {i : Nat} {a : Addr} {ds : List D} (e : ρ.sl[i]? = some (.own a ds)) : F a = none ∧ a ∉ ρ.ws ∧ A.H a = none ∧ ∃ vs, H a = some (.lst vs) ∧ Rs K F ρ.ws vs ds := by
  obtain ⟨h1, h2, h3, o, h4, h5⟩ := ok.owns _ a _ (at_of e)
  obtain ⟨vs, rfl, t⟩ := h5.list
  exact ⟨h1, h2, h3, vs, h4, t⟩
theorem Ok.ownSL (ok : Ok K T A F H σ ρ) {i : Nat} {a : Addr} {ds : List D} (e : ρ.sl[i]? = some (.own a ds)) : σ[i]? = some (some (.ref a)) := ok.ownS i a _ (ownOf_of e rfl)
theorem Ok.letgo (ok : Ok K T A F H σ ρ) {i : Nat} {a : Addr} {ds : List D} (e : ρ.sl[i]? = some (.own a ds)) : ∃ F', Same F F' ∧ Ok K T A F' H σ (ρ.put i (.dat (.lst ds))) ∧ R K F' ρ.ws (.ref a) (.lst ds) := by
  obtain ⟨_, _, _, o, h4, h5⟩ := ok.owns _ a _ (at_of e)
  obtain ⟨vs, rfl, _⟩ := h5.list
  obtain ⟨s, ok', rd⟩ := ok.letgoB e rfl h4 (.lst vs)
  rw [upd_id h4] at ok'
  exact ⟨_, s, ok', rd⟩
theorem Ok.gas (ok : Ok K T A F H σ ρ) {g : Nat} (h : g ≤ ρ.g) : Ok K T A F H σ (ρ.gas g) :=
  ⟨ok.sub0, ok.sub, ok.keep, ok.apart, ok.there, ok.tabs, ok.wsub, ok.wnew, fun a w => ⟨(ok.strm a w).1.less h, (ok.strm a w).2⟩, ok.slots, ok.ownS, ok.owns, ok.dist, ok.len⟩
/-- an own thing at p holds something else: ρ' says so, else as ρ -/
theorem Ok.chg (ok : Ok K T A F H σ ρ) {p0 : Sum Nat Nat} {a : Addr} {c c2 : Con} {o : HO} {ρ' : Ev} (e : ρ.at p0 = some (a, c)) (r : RC K F ρ.ws o c2) (ew : ρ'.ws = ρ.ws) (eg : ρ'.g = ρ.g) (el : ρ'.sl.length ≤ ρ.sl.length)
    (hd : ∀ (i : Nat) d, ρ'.sl[i]? = some (.dat d) → ρ.sl[i]? = some (.dat d)) (ha : ∀ p x, ρ'.at p = some x → (p = p0 ∧ x = (a, c2)) ∨ (p ≠ p0 ∧ ρ.at p = some x)) : Ok K T A F (upd H a o) σ ρ' := by
  obtain ⟨h1, h2, h3, o0, h4, h5⟩ := ok.owns _ a c e
  refine ⟨ok.sub0, fun b x q => ?_, fun b o q n w => ?_, ok.apart, fun b n => ?_, ⟨tabs_upd ok.tabs.1 h4 h5, ok.tabs.2⟩, by rw [ew]; exact ok.wsub, by rw [ew]; exact ok.wnew, fun b w => ?_, fun j d q => ?_, fun j b bc q => ?_, fun p b bc q => ?_, fun p q b d1 d2 e1 e2 => ?_, Nat.le_trans el ok.len⟩
  · rw [upd_ne (ne_of_none q h1)]
    exact ok.sub _ _ q
  · rw [upd_ne (ne_of_none q h3)]
    exact ok.keep b o q n w
  · by_cases hb : b = a
    · rw [hb, upd_same]; simp
    · rw [upd_ne hb]; exact ok.there b n
  · rw [ew] at w
    obtain ⟨⟨cc, m, n, q, z⟩, n2⟩ := ok.strm b w
    rw [eg]
    refine ⟨⟨cc, m, n, ?_, z⟩, n2⟩
    rw [upd_ne (fun z : b = a => h2 (by rw [← z]; exact w))]
    exact q
  · rw [ew]
    exact ok.slots j d (hd j d q)
  · rcases ha (.inl j) (b, bc) q with ⟨z1, z2⟩ | ⟨_, z⟩
    · cases z2
      rw [← z1] at e
      exact ok.ownS j a c e
    · exact ok.ownS j b bc z
  · rcases ha p (b, bc) q with ⟨z1, z2⟩ | ⟨z1, z⟩
    · cases z2
      rw [ew]
      exact ⟨h1, h2, h3, o, upd_same, r⟩
    · obtain ⟨q1, q2, q3, ws, q4, q5⟩ := ok.owns p b bc z
      rw [ew]
      refine ⟨q1, q2, q3, ws, ?_, q5⟩
      rw [upd_ne (fun z2 : b = a => z1 (ok.dist p p0 b bc c z (by rw [z2]; exact e)))]
      exact q4
  · rcases ha p (b, d1) e1 with ⟨z1, z2⟩ | ⟨z1, f1⟩
    · rcases ha q (b, d2) e2 with ⟨y1, y2⟩ | ⟨y1, f2⟩
      · rw [z1, y1]
      · cases z2
        rw [z1]
        exact (ok.dist q p0 _ _ _ f2 e).symm
    · rcases ha q (b, d2) e2 with ⟨y1, y2⟩ | ⟨y1, f2⟩
      · cases y2
        rw [y1]
        exact ok.dist p p0 _ _ _ f1 e
      · exact ok.dist p q b d1 d2 f1 f2
/-- what is known of one's own thing at a slot, changed -/
theorem Ok.boxUpd (ok : Ok K T A F H σ ρ) {i : Nat} {a : Addr} {c c2 : Con} {o : HO} {s s2 : Sl} (e : ρ.sl[i]? = some s) (eb : s.bx = some (a, c)) (eb2 : s2.bx = some (a, c2)) (r : RC K F ρ.ws o c2) : Ok K T A F (upd H a o) σ (ρ.put i s2) := by
  refine ok.chg (at_ofB e eb) r rfl rfl (by rw [List.length_set]; exact Nat.le_refl _) (fun j d q => ?_) (fun p x q => ?_)
  · rcases put_get q with ⟨_, q, _⟩ | ⟨_, q⟩
    · rw [← q] at eb2
      cases eb2
    · exact q
  · rcases at_put q with ⟨rfl, q, _⟩ | ⟨n, q⟩
    · rw [eb2] at q
      exact .inl ⟨rfl, (Option.some.inj q).symm⟩
    · exact .inr ⟨n, q⟩
theorem Ok.ownUpd (ok : Ok K T A F H σ ρ) {i : Nat} {a : Addr} {ds es : List D} {us : List V} (e : ρ.sl[i]? = some (.own a ds)) (r : Rs K F ρ.ws us es) : Ok K T A F (upd H a (.lst us)) σ (ρ.put i (.own a es)) := ok.boxUpd e rfl rfl (.lst r)
end ok
end DL
end

section
namespace DL
open PySem PySem.Spec L2
/-! ### data as the library has it -/
mutual
def toPy : D → Option PyData
  | .non => some .none
  | .bl b => some (.bool b)
  | .int i => some (.int i)
  | .str x => some (.str x)
  | .lst ds => (toPys ds).map .list
  | .kl ds => (toPys ds).map .list
  | .tup ds => (toPys ds).map .tuple
  | .dK _ => none
  | .dT _ => none
  | .obj _ _ => none
  | .fn _ => none
  | .strm => none
  | .exc _ _ _ => none
  | .ref _ => none
def toPys : List D → Option (List PyData)
  | [] => some []
  | d :: ds => match toPy d, toPys ds with
    | some p, some ps => some (p :: ps)
    | _, _ => none
end
section dp
variable {K : PySem.W.Frag} {F H : Hp} {ws : List Addr}
mutual
theorem dp_of (s : Same F H) : ∀ (d : D) (v : V) (p : PyData), R K F ws v d → toPy d = some p → Dp K H v p
  | .non, _, _, h, e => by cases h; simp only [toPy, Option.some.injEq] at e; subst e; exact .non
  | .bl _, _, _, h, e => by cases h; simp only [toPy, Option.some.injEq] at e; subst e; exact .bl _
  | .int _, _, _, h, e => by cases h; simp only [toPy, Option.some.injEq] at e; subst e; exact .int _
  | .str _, _, _, h, e => by cases h; simp only [toPy, Option.some.injEq] at e; subst e; exact .str _
  | .lst ds, _, p, h, e => by
    cases h with
    | lst h t =>
      rw [toPy] at e
      obtain ⟨ps, e1, rfl⟩ := Option.map_eq_some_iff.mp e
      exact .lst (.of (s _ _ h)) (dps_of s ds _ ps t e1)
  | .kl ds, _, p, h, e => by
    cases h with
    | kl h t =>
      rw [toPy] at e
      obtain ⟨ps, e1, rfl⟩ := Option.map_eq_some_iff.mp e
      exact .lst (sqL_mono s h) (dps_of s ds _ ps t e1)
  | .tup ds, _, p, h, e => by
    cases h with
    | tup h t =>
      rw [toPy] at e
      obtain ⟨ps, e1, rfl⟩ := Option.map_eq_some_iff.mp e
      exact .tup (sqT_mono s h) (dps_of s ds _ ps t e1)
  | .dK _, _, _, _, e => by simp [toPy] at e
  | .obj _ _, _, _, _, e => by simp [toPy] at e
  | .fn _, _, _, _, e => by simp [toPy] at e
  | .strm, _, _, _, e => by simp [toPy] at e
  | .exc _ _ _, _, _, _, e => by simp [toPy] at e
  | .ref _, _, _, _, e => by simp [toPy] at e
theorem dps_of (s : Same F H) : ∀ (ds : List D) (vs : List V) (ps : List PyData), Rs K F ws vs ds → toPys ds = some ps → DpAll K H vs ps
  | [], _, _, h, e => by cases h; simp only [toPys, Option.some.injEq] at e; subst e; exact .nil
  | d :: ds, _, ps, h, e => by
    cases h with
    | cons h t =>
      rw [toPys] at e
      cases e1 : toPy d with
      | none => rw [e1] at e; cases e
      | some p =>
        cases e2 : toPys ds with
        | none => rw [e1, e2] at e; cases e
        | some qs =>
          rw [e1, e2] at e
          cases e
          exact .cons (dp_of s d _ p h e1) (dps_of s ds _ qs t e2)
end
end dp
def isN : D → Bool
  | .non => true
  | _ => false
theorem isN_ok {K : PySem.W.Frag} {F : Hp} {ws : List Addr} {v : V} {d : D} (h : R K F ws v d) : decide (v = .non) = isN d := by
  cases h <;> rfl
/-- a list or a tuple, read -/
def seqD : D → Option (List D)
  | .lst ds => some ds
  | .kl ds => some ds
  | .tup ds => some ds
  | _ => none
def Sq (K : PySem.W.Frag) (H : Hp) (a : Addr) (xs : List V) : Prop := SqL K H a xs ∨ SqT K H a xs
theorem seq_of {K : PySem.W.Frag} {F H : Hp} {ws : List Addr} {v : V} {d : D} {ds : List D} (s : Same F H) (h : R K F ws v d) (e : seqD d = some ds) : ∃ a xs, v = .ref a ∧ Sq K H a xs ∧ Rs K F ws xs ds := by
  cases h with
  | lst h t => cases e; exact ⟨_, _, rfl, .inl (.of (s _ _ h)), t⟩
  | kl h t => cases e; exact ⟨_, _, rfl, .inl (sqL_mono s h), t⟩
  | tup h t => cases e; exact ⟨_, _, rfl, .inr (sqT_mono s h), t⟩
  | _ => cases e

/-! ### names, constants -/
def slotOf : List Str → Str → Option Nat
  | [], _ => none
  | y :: r, x => if x = y then some 0 else (slotOf r x).map (· + 1)
theorem slotOf_ok {x : Str} : ∀ {N : List Str} {i : Nat}, slotOf N x = some i → N[i]? = some x
  | y :: r, i, h => by
    unfold slotOf at h
    split at h
    · rename_i e
      cases h
      rw [e]; rfl
    · obtain ⟨j, e, rfl⟩ := Option.map_eq_some_iff.mp h
      simpa using slotOf_ok e
def nameD (ρ : Ev) (i : Nat) (C : CD) : Prop := match ρ.sl[i]? with
  | some (.dat d) => C d ρ
  | some (.own _ ds) => C (.lst ds) (ρ.put i (.dat (.lst ds)))
  | some (.box _ c) => C c.toD (ρ.put i (.dat c.toD))
  | _ => False
section rules
variable {X : Cx} {T : List (Addr × Str)} {A : Anc} {ρ : Ev} {a b c e : Expr} {es rest : List Expr} {pos p : Pos} {C : CD}
theorem de_name {x : Str} {i : Nat} (h : nameD ρ i C) (hi : slotOf X.N x = some i := by rfl) (hv : Vis X.env.scope x := by first | exact Or.inl rfl | exact Or.inr (Or.inl rfl) | exact Or.inr (Or.inr rfl))
    (hd : (x == ("__debug__" : Str)) = false := by decide) (hcd : (x == ("__classdict__" : Str)) = false := by decide) : DE X T A ρ (.Name x pos) C :=
  DE.of (pe_fz (pe_var (slotOf_ok hi) hv hd hcd)) fun σ H Q F ok q => by
    unfold nameD at h
    split at h
    · rename_i d e
      obtain ⟨v, e1, r⟩ := ok.slots i d e
      exact ⟨v, e1, .inl (q d ρ h v F H (Same.refl _) rfl ok r)⟩
    · rename_i a ds e
      obtain ⟨F', s, ok', r⟩ := ok.letgo e
      exact ⟨.ref a, ok.ownS i a _ (ownOf_of e rfl), .inl (q _ _ h _ F' H s rfl ok' r)⟩
    · rename_i a c e
      obtain ⟨_, _, _, o, h4, h5⟩ := ok.owns _ a c (at_ofB e rfl)
      refine ⟨.ref a, ok.ownS i a _ (ownOf_of e rfl), fz_of h4 h5 fun o' z => ?_⟩
      obtain ⟨s, ok', r⟩ := ok.letgoB e rfl h4 z
      exact q _ _ h _ _ _ s rfl ok' r
    · exact h.elim
theorem de_int {i : Int} {j} (h : C (.int i) ρ) : DE X T A ρ (.Constant (.int i) j pos) C := DE.of pe_int fun σ H Q F ok q => q _ _ h _ F H (Same.refl _) rfl ok (.int i)
theorem de_bl {i : Bool} {j} (h : C (.bl i) ρ) : DE X T A ρ (.Constant (.bool i) j pos) C := DE.of pe_bl fun σ H Q F ok q => q _ _ h _ F H (Same.refl _) rfl ok (.bl i)
theorem de_non {j} (h : C .non ρ) : DE X T A ρ (.Constant .none j pos) C := DE.of pe_non fun σ H Q F ok q => q _ _ h _ F H (Same.refl _) rfl ok .non
theorem de_str {i : Str} {j} (h : C (.str i) ρ) : DE X T A ρ (.Constant (.str i) j pos) C := DE.of pe_str fun σ H Q F ok q => q _ _ h _ F H (Same.refl _) rfl ok (.str i)
/-- a def as a value -/
theorem de_fn {x : Str} {f : Addr} (hm : X.mg x = some (.ref f)) (hf : FnAt X.K f) (h : C (.fn f) ρ) (hg : Gl X x := by rfl) (hd : (x == ("__debug__" : Str)) = false := by decide) : DE X T A ρ (.Name x pos) C :=
  DE.of (pe_glob (v := .ref f) hg hm rfl hd) fun σ H Q F ok q => q _ _ h _ F H (Same.refl _) rfl ok (.fn hf)

/-! ### two-place operations -/
def Lk (X : Cx) (T : List (Addr × Str)) (A : Anc) (r : R2) (S : D → D → CD → Ev → Prop) : Prop := ∀ (d1 d2 : D) (C : CD) (F H : Hp) (σ : L2.St) (ρ : Ev) (x y : V) (Q : VK), S d1 d2 C ρ → Ok X.K T A F H σ ρ → R X.K F ρ.ws x d1 → R X.K F ρ.ws y d2 →
  (∀ d ρ', C d ρ' → ∀ v F' H', Same F F' → ρ'.ws = ρ.ws → Ok X.K T A F' H' σ ρ' → R X.K F' ρ'.ws v d → Q v H') → r x y H Q
theorem go2 {r : R2} {S : D → D → CD → Ev → Prop} (hS : Lk X T A r S) (h : DE X T A ρ a (fun d1 ρ1 => DE X T A ρ1 b (fun d2 ρ2 => S d1 d2 C ρ2))) (σ : L2.St) (H : Hp) (Q : VK) (F : Hp) (ok : Ok X.K T A F H σ ρ)
    (q : ∀ d ρ', C d ρ' → ∀ v F' H', Same F F' → ρ'.ws = ρ.ws → Ok X.K T A F' H' σ ρ' → R X.K F' ρ'.ws v d → Q v H') : tOp r (goE X T A a) (goE X T A b) σ H Q :=
  ⟨ρ, _, h, F, ok, fun d1 ρ1 h1 x F1 H1 s1 w1 ok1 r1 => ⟨ρ1, _, h1, F1, ok1, fun d2 ρ2 h2 y F2 H2 s2 w2 ok2 r2 => hS d1 d2 C F2 H2 σ ρ2 x y Q h2 ok2 (by rw [w2]; exact r1.mo s2) r2
    (fun d ρ' c v F' H' s' w' ok' r' => q d ρ' c v F' H' (s1.trans (s2.trans s')) (w'.trans (w2.trans w1)) ok' r')⟩⟩
theorem de_bin {op : Operator} {r : R2} {S : D → D → CD → Ev → Prop} (ho : OpR X (binaryOp op) r) (hS : Lk X T A r S) (h : DE X T A ρ a (fun d1 ρ1 => DE X T A ρ1 b (fun d2 ρ2 => S d1 d2 C ρ2))) : DE X T A ρ (.BinOp a op b pos) C :=
  DE.of (pe_op ho pe_go pe_go) (go2 hS h)
theorem de_cmp {op : CmpOp} {r : R2} {S : D → D → CD → Ev → Prop} (ho : OpR X (compareOp op) r) (hS : Lk X T A r S) (hm : behindInMarks op b = false) (h : DE X T A ρ a (fun d1 ρ1 => DE X T A ρ1 b (fun d2 ρ2 => S d1 d2 C ρ2))) : DE X T A ρ (.Compare a [op] [b] pos) C :=
  DE.of (pe_cmpR ho pe_go pe_go hm) (go2 hS h)
def asB (C : CB) : CD := fun d ρ => match d with
  | .bl k => C k ρ
  | _ => False
theorem dt_cmp {op : CmpOp} {r : R2} {S : D → D → CD → Ev → Prop} {C : CB} (ho : OpR X (compareOp op) r) (hS : Lk X T A r S) (hm : behindInMarks op b = false) (h : DE X T A ρ a (fun d1 ρ1 => DE X T A ρ1 b (fun d2 ρ2 => S d1 d2 (asB C) ρ2))) : DT X T A ρ (.Compare a [op] [b] pos) C :=
  DT.of (pt_cmpR ho pe_go pe_go hm) fun σ H Q F ok q => go2 hS h σ H _ F ok fun d ρ' c v F' H' s' w' ok' r' => by
    unfold asB at c
    split at c
    · cases r'
      exact ⟨_, rfl, q _ _ c F' H' s' w' ok'⟩
    · exact c.elim

def iiD (P : Int → Int → Prop) (g : Int → Int → D) : D → D → CD → Ev → Prop
  | .int i, .int j, C, ρ => P i j ∧ C (g i j) ρ
  | _, _, _, _ => False
def scalD : D → V
  | .int i => .int i
  | .bl b => .bl b
  | .str x => .str x
  | _ => .non
theorem lk_ii {P : Int → Int → Prop} {g : Int → Int → Int} : Lk X T A (rI P fun i j => .int (g i j)) (iiD P fun i j => .int (g i j)) := by
  intro d1 d2 C F H σ ρ x y Q h ok r1 r2 q
  unfold iiD at h
  split at h
  · cases r1
    cases r2
    exact ⟨_, _, rfl, rfl, h.1, q _ _ h.2 _ F H (Same.refl _) rfl ok (.int _)⟩
  · exact h.elim
theorem lk_ii0 {g : Int → Int → Int} : Lk X T A (rI0 fun i j => .int (g i j)) (iiD (fun _ _ => True) fun i j => .int (g i j)) := by
  intro d1 d2 C F H σ ρ x y Q h ok r1 r2 q
  unfold iiD at h
  split at h
  · cases r1
    cases r2
    exact ⟨_, _, rfl, rfl, q _ _ h.2 _ F H (Same.refl _) rfl ok (.int _)⟩
  · exact h.elim
theorem lk_iib {g : Int → Int → Bool} : Lk X T A (rI0 fun i j => .bl (g i j)) (iiD (fun _ _ => True) fun i j => .bl (g i j)) := by
  intro d1 d2 C F H σ ρ x y Q h ok r1 r2 q
  unfold iiD at h
  split at h
  · cases r1
    cases r2
    exact ⟨_, _, rfl, rfl, q _ _ h.2 _ F H (Same.refl _) rfl ok (.bl _)⟩
  · exact h.elim
/-- a + b -/
def addD : D → D → CD → Ev → Prop
  | .int i, .int j, C, ρ => C (.int (i + j)) ρ
  | .lst xs, .lst ys, C, ρ => xs.length + ys.length ≤ sizeLine ∧ C (.lst (xs ++ ys)) ρ
  | .str x, .str y, C, ρ => x.length + y.length ≤ sizeLine ∧ C (.str (x ++ y)) ρ
  | _, _, _, _ => False
theorem Ok.newL {K : PySem.W.Frag} {F H : Hp} {σ : L2.St} {vs : List V} {ds : List D} (ok : Ok K T A F H σ ρ) (r : Rs K F ρ.ws vs ds) {p : Addr} (h : H p = none) : ∃ F', Same F F' ∧ Ok K T A F' (upd H p (.lst vs)) σ ρ ∧ R K F' ρ.ws (.ref p) (.lst ds) := by
  obtain ⟨ok', s⟩ := ok.alloc (o := .lst vs) h
  exact ⟨_, s, ok', .lst upd_same (r.mo s)⟩
theorem Ok.newT {K : PySem.W.Frag} {F H : Hp} {σ : L2.St} {vs : List V} {ds : List D} (ok : Ok K T A F H σ ρ) (r : Rs K F ρ.ws vs ds) {p : Addr} (h : H p = none) : ∃ F', Same F F' ∧ Ok K T A F' (upd H p (.tup vs)) σ ρ ∧ R K F' ρ.ws (.ref p) (.tup ds) := by
  obtain ⟨ok', s⟩ := ok.alloc (o := .tup vs) h
  exact ⟨_, s, ok', .tup (.of upd_same) (r.mo s)⟩
theorem lk_add : Lk X T A (fun x y H Q => ((rI0 fun i j => .int (i + j)) x y H Q ∨ rCat x y H Q) ∨ ∃ i j, x = .str i ∧ y = .str j ∧ i.length + j.length ≤ sizeLine ∧ Q (.str (i ++ j)) H) addD := by
  intro d1 d2 C F H σ ρ x y Q h ok r1 r2 q
  unfold addD at h
  split at h
  · cases r1
    cases r2
    exact .inl (.inl ⟨_, _, rfl, rfl, q _ _ h _ F H (Same.refl _) rfl ok (.int _)⟩)
  · cases r1 with
    | lst h1 t1 =>
      cases r2 with
      | lst h2 t2 =>
        refine .inl (.inr ⟨_, _, _, _, rfl, rfl, ok.sub _ _ h1, ok.sub _ _ h2, by rw [t1.len, t2.len]; exact h.1, fun p hp => ?_⟩)
        obtain ⟨F', s, ok', r⟩ := ok.newL (t1.app t2) hp
        exact q _ _ h.2 _ F' _ s rfl ok' r
  · cases r1
    cases r2
    exact .inr ⟨_, _, rfl, rfl, h.1, q _ _ h.2 _ F H (Same.refl _) rfl ok (.str _)⟩
  · exact h.elim
theorem de_add (h : DE X T A ρ a (fun d1 ρ1 => DE X T A ρ1 b (fun d2 ρ2 => addD d1 d2 C ρ2))) : DE X T A ρ (.BinOp a .Add b pos) C := de_bin ((op_add.or op_cat).or op_add_str) lk_add h
def subD : D → D → CD → Ev → Prop
  | .int i, .int j, C, ρ => C (.int (i - j)) ρ
  | _, _, _, _ => False
theorem de_sub (h : DE X T A ρ a (fun d1 ρ1 => DE X T A ρ1 b (fun d2 ρ2 => subD d1 d2 C ρ2))) : DE X T A ρ (.BinOp a .Sub b pos) C := de_bin op_sub (by
  intro d1 d2 C F H σ ρ x y Q h ok r1 r2 q
  unfold subD at h
  split at h
  · cases r1
    cases r2
    exact ⟨_, _, rfl, rfl, q _ _ h _ F H (Same.refl _) rfl ok (.int _)⟩
  · exact h.elim) h
/-- the same item often -/
def mulD : D → D → CD → Ev → Prop
  | .int i, .int j, C, ρ => CMul i j ∧ C (.int (i * j)) ρ
  | .lst xs, .int k, C, ρ => -(2 ^ 63) ≤ k ∧ k < 2 ^ 63 ∧ xs.length * k.toNat ≤ sizeLine ∧ C (.lst (List.replicate k.toNat xs).flatten) ρ
  | _, _, _, _ => False
theorem Rs.reps {K : PySem.W.Frag} {F : Hp} {ws : List Addr} {vs : List V} {ds : List D} (r : Rs K F ws vs ds) : ∀ n : Nat, Rs K F ws (List.replicate n vs).flatten (List.replicate n ds).flatten
  | 0 => .nil
  | n + 1 => by
    rw [List.replicate_succ, List.replicate_succ, List.flatten_cons, List.flatten_cons]
    exact r.app (Rs.reps r n)
theorem de_mul (h : DE X T A ρ a (fun d1 ρ1 => DE X T A ρ1 b (fun d2 ρ2 => mulD d1 d2 C ρ2))) : DE X T A ρ (.BinOp a .Mult b pos) C := de_bin (op_mul.or op_rep) (by
  intro d1 d2 C F H σ ρ x y Q h ok r1 r2 q
  unfold mulD at h
  split at h
  · cases r1
    cases r2
    exact .inl ⟨_, _, rfl, rfl, h.1, q _ _ h.2 _ F H (Same.refl _) rfl ok (.int _)⟩
  · cases r2
    cases r1 with
    | lst h1 t1 =>
      obtain ⟨k1, k2, k3, k4⟩ := h
      refine .inr ⟨_, _, _, rfl, rfl, ok.sub _ _ h1, k1, k2, by rw [t1.len]; exact k3, fun p hp => ?_⟩
      obtain ⟨F', s, ok', r⟩ := ok.newL (t1.reps _) hp
      exact q _ _ k4 _ F' _ s rfl ok' r
  · exact h.elim) h
def fdivD : D → D → CD → Ev → Prop
  | .int i, .int j, C, ρ => (j ≠ 0 ∧ j.natAbs < 1073741824) ∧ C (.int (i.fdiv j)) ρ
  | _, _, _, _ => False
theorem de_fdiv (h : DE X T A ρ a (fun d1 ρ1 => DE X T A ρ1 b (fun d2 ρ2 => fdivD d1 d2 C ρ2))) : DE X T A ρ (.BinOp a .FloorDiv b pos) C := de_bin op_fdivN (by
  intro d1 d2 C F H σ ρ x y Q h ok r1 r2 q
  unfold fdivD at h
  split at h
  · cases r1
    cases r2
    exact ⟨_, _, rfl, rfl, h.1, q _ _ h.2 _ F H (Same.refl _) rfl ok (.int _)⟩
  · exact h.elim) h
def modD : D → D → CD → Ev → Prop
  | .int i, .int j, C, ρ => j ≠ 0 ∧ C (.int (i.fmod j)) ρ
  | _, _, _, _ => False
theorem de_mod (h : DE X T A ρ a (fun d1 ρ1 => DE X T A ρ1 b (fun d2 ρ2 => modD d1 d2 C ρ2))) : DE X T A ρ (.BinOp a .Mod b pos) C := de_bin op_modN (by
  intro d1 d2 C F H σ ρ x y Q h ok r1 r2 q
  unfold modD at h
  split at h
  · cases r1
    cases r2
    exact ⟨_, _, rfl, rfl, h.1, q _ _ h.2 _ F H (Same.refl _) rfl ok (.int _)⟩
  · exact h.elim) h
def powD : D → D → CD → Ev → Prop
  | .int i, .int j, C, ρ => CPow i j ∧ C (.int (i ^ j.toNat)) ρ
  | _, _, _, _ => False
theorem de_pow (h : DE X T A ρ a (fun d1 ρ1 => DE X T A ρ1 b (fun d2 ρ2 => powD d1 d2 C ρ2))) : DE X T A ρ (.BinOp a .Pow b pos) C := de_bin op_pow (by
  intro d1 d2 C F H σ ρ x y Q h ok r1 r2 q
  unfold powD at h
  split at h
  · cases r1
    cases r2
    exact ⟨_, _, rfl, rfl, h.1, q _ _ h.2 _ F H (Same.refl _) rfl ok (.int _)⟩
  · exact h.elim) h
def negD : D → CD → Ev → Prop
  | .int i, C, ρ => C (.int (-i)) ρ
  | _, _, _ => False
theorem de_neg (h : DE X T A ρ a (fun d ρ1 => negD d C ρ1)) : DE X T A ρ (.UnaryOp .USub a pos) C :=
  DE.of (pe_un un_neg pe_go) fun σ H Q F ok q => ⟨ρ, _, h, F, ok, fun d1 ρ1 h1 x F1 H1 s1 w1 ok1 r1 => by
    have h1 : negD d1 C ρ1 := h1
    unfold negD at h1
    split at h1
    · cases r1
      exact ⟨_, rfl, q _ _ h1 _ F1 H1 s1 w1 ok1 (.int _)⟩
    · exact h1.elim⟩

/-! ### comparisons -/
def ltD : D → D → CD → Ev → Prop
  | .int i, .int j, C, ρ => C (.bl (decide (i < j))) ρ
  | _, _, _, _ => False
def leD : D → D → CD → Ev → Prop
  | .int i, .int j, C, ρ => C (.bl (decide (i ≤ j))) ρ
  | _, _, _, _ => False
def gtD : D → D → CD → Ev → Prop
  | .int i, .int j, C, ρ => C (.bl (decide (j < i))) ρ
  | _, _, _, _ => False
def geD : D → D → CD → Ev → Prop
  | .int i, .int j, C, ρ => C (.bl (decide (j ≤ i))) ρ
  | _, _, _, _ => False
theorem lk_lt : Lk X T A (rI0 fun i j => .bl (decide (i < j))) ltD := by
  intro d1 d2 C F H σ ρ x y Q h ok r1 r2 q
  unfold ltD at h
  split at h
  · cases r1
    cases r2
    exact ⟨_, _, rfl, rfl, q _ _ h _ F H (Same.refl _) rfl ok (.bl _)⟩
  · exact h.elim
theorem lk_le : Lk X T A (rI0 fun i j => .bl (decide (i ≤ j))) leD := by
  intro d1 d2 C F H σ ρ x y Q h ok r1 r2 q
  unfold leD at h
  split at h
  · cases r1
    cases r2
    exact ⟨_, _, rfl, rfl, q _ _ h _ F H (Same.refl _) rfl ok (.bl _)⟩
  · exact h.elim
theorem lk_gt : Lk X T A (rI0 fun i j => .bl (decide (j < i))) gtD := by
  intro d1 d2 C F H σ ρ x y Q h ok r1 r2 q
  unfold gtD at h
  split at h
  · cases r1
    cases r2
    exact ⟨_, _, rfl, rfl, q _ _ h _ F H (Same.refl _) rfl ok (.bl _)⟩
  · exact h.elim
theorem lk_ge : Lk X T A (rI0 fun i j => .bl (decide (j ≤ i))) geD := by
  intro d1 d2 C F H σ ρ x y Q h ok r1 r2 q
  unfold geD at h
  split at h
  · cases r1
    cases r2
    exact ⟨_, _, rfl, rfl, q _ _ h _ F H (Same.refl _) rfl ok (.bl _)⟩
  · exact h.elim
/-- == and != -/
def eqP (d1 d2 : D) : Option Bool := match toPy d1, toPy d2 with
  | some x, some y => if SeqAt.shaped x && SeqAt.shaped y then some (PyData.eqv x y) else none
  | _, _ => none
def eqD (d1 d2 : D) (C : CD) (ρ : Ev) : Prop := ∃ k, eqP d1 d2 = some k ∧ C (.bl k) ρ
def neD (d1 d2 : D) (C : CD) (ρ : Ev) : Prop := ∃ k, eqP d1 d2 = some k ∧ C (.bl (!k)) ρ
theorem eqP_ok {d1 d2 : D} {k : Bool} (h : eqP d1 d2 = some k) : ∃ x y, toPy d1 = some x ∧ toPy d2 = some y ∧ SeqAt.shaped x = true ∧ SeqAt.shaped y = true ∧ PyData.eqv x y = k := by
  unfold eqP at h
  split at h
  · rename_i x y e1 e2
    split at h
    · rename_i e
      rw [Bool.and_eq_true] at e
      exact ⟨x, y, e1, e2, e.1, e.2, Option.some.inj h⟩
    · cases h
  · cases h
theorem lk_eq : Lk X T A (rEqD X.K) eqD := by
  intro d1 d2 C F H σ ρ x y Q ⟨k, h, hc⟩ ok r1 r2 q
  obtain ⟨p1, p2, e1, e2, s1, s2, rfl⟩ := eqP_ok h
  exact ⟨p1, p2, dp_of ok.sub _ _ _ r1 e1, dp_of ok.sub _ _ _ r2 e2, s1, s2, q _ _ hc _ F H (Same.refl _) rfl ok (.bl _)⟩
theorem lk_ne : Lk X T A (rNeD X.K) neD := by
  intro d1 d2 C F H σ ρ x y Q ⟨k, h, hc⟩ ok r1 r2 q
  obtain ⟨p1, p2, e1, e2, s1, s2, rfl⟩ := eqP_ok h
  exact ⟨p1, p2, dp_of ok.sub _ _ _ r1 e1, dp_of ok.sub _ _ _ r2 e2, s1, s2, q _ _ hc _ F H (Same.refl _) rfl ok (.bl _)⟩
/-- is None -/
def isD (d1 d2 : D) (C : CD) (ρ : Ev) : Prop := d2 = .non ∧ C (.bl (isN d1)) ρ
def isntD (d1 d2 : D) (C : CD) (ρ : Ev) : Prop := d2 = .non ∧ C (.bl (!isN d1)) ρ
theorem lk_is : Lk X T A (fun x y H Q => y = .non ∧ Q (.bl (decide (x = .non))) H) isD := by
  intro d1 d2 C F H σ ρ x y Q ⟨e, hc⟩ ok r1 r2 q
  subst e
  cases r2
  refine ⟨rfl, ?_⟩
  rw [isN_ok r1]
  exact q _ _ hc _ F H (Same.refl _) rfl ok (.bl _)
theorem lk_isnt : Lk X T A (fun x y H Q => y = .non ∧ Q (.bl (!decide (x = .non))) H) isntD := by
  intro d1 d2 C F H σ ρ x y Q ⟨e, hc⟩ ok r1 r2 q
  subst e
  cases r2
  refine ⟨rfl, ?_⟩
  rw [isN_ok r1]
  exact q _ _ hc _ F H (Same.refl _) rfl ok (.bl _)
abbrev In2 (X : Cx) (T : List (Addr × Str)) (A : Anc) (ρ : Ev) (a b : Expr) (S : D → D → CD → Ev → Prop) (C : CD) : Prop := DE X T A ρ a (fun d1 ρ1 => DE X T A ρ1 b (fun d2 ρ2 => S d1 d2 C ρ2))
theorem de_lt (h : In2 X T A ρ a b ltD C) : DE X T A ρ (.Compare a [.Lt] [b] pos) C := de_cmp op_lt lk_lt (nomark _) h
theorem de_le (h : In2 X T A ρ a b leD C) : DE X T A ρ (.Compare a [.LtE] [b] pos) C := de_cmp op_le lk_le (nomark _) h
theorem de_gt (h : In2 X T A ρ a b gtD C) : DE X T A ρ (.Compare a [.Gt] [b] pos) C := de_cmp op_gt lk_gt (nomark _) h
theorem de_ge (h : In2 X T A ρ a b geD C) : DE X T A ρ (.Compare a [.GtE] [b] pos) C := de_cmp op_ge lk_ge (nomark _) h
theorem de_eq (hu : X.A.units + 64 < cLine) (h : In2 X T A ρ a b eqD C) : DE X T A ρ (.Compare a [.Eq] [b] pos) C := de_cmp (op_eqD hu) lk_eq (nomark _) h
theorem de_ne (hu : X.A.units + 64 < cLine) (h : In2 X T A ρ a b neD C) : DE X T A ρ (.Compare a [.NotEq] [b] pos) C := de_cmp (op_neD hu) lk_ne (nomark _) h
theorem de_is (h : In2 X T A ρ a b isD C) : DE X T A ρ (.Compare a [.Is] [b] pos) C := de_cmp op_isN lk_is (nomark _) h
theorem de_isnt (h : In2 X T A ρ a b isntD C) : DE X T A ρ (.Compare a [.IsNot] [b] pos) C := de_cmp op_notN lk_isnt (nomark _) h
theorem dt_lt {C : CB} (h : In2 X T A ρ a b ltD (asB C)) : DT X T A ρ (.Compare a [.Lt] [b] pos) C := dt_cmp op_lt lk_lt (nomark _) h
theorem dt_le {C : CB} (h : In2 X T A ρ a b leD (asB C)) : DT X T A ρ (.Compare a [.LtE] [b] pos) C := dt_cmp op_le lk_le (nomark _) h
theorem dt_gt {C : CB} (h : In2 X T A ρ a b gtD (asB C)) : DT X T A ρ (.Compare a [.Gt] [b] pos) C := dt_cmp op_gt lk_gt (nomark _) h
theorem dt_ge {C : CB} (h : In2 X T A ρ a b geD (asB C)) : DT X T A ρ (.Compare a [.GtE] [b] pos) C := dt_cmp op_ge lk_ge (nomark _) h
theorem dt_eq {C : CB} (hu : X.A.units + 64 < cLine) (h : In2 X T A ρ a b eqD (asB C)) : DT X T A ρ (.Compare a [.Eq] [b] pos) C := dt_cmp (op_eqD hu) lk_eq (nomark _) h
theorem dt_ne {C : CB} (hu : X.A.units + 64 < cLine) (h : In2 X T A ρ a b neD (asB C)) : DT X T A ρ (.Compare a [.NotEq] [b] pos) C := dt_cmp (op_neD hu) lk_ne (nomark _) h
theorem dt_is {C : CB} (h : In2 X T A ρ a b isD (asB C)) : DT X T A ρ (.Compare a [.Is] [b] pos) C := dt_cmp op_isN lk_is (nomark _) h
theorem dt_isnt {C : CB} (h : In2 X T A ρ a b isntD (asB C)) : DT X T A ρ (.Compare a [.IsNot] [b] pos) C := dt_cmp op_notN lk_isnt (nomark _) h
/-- a op b op c, ints -/
def CmpI (X : Cx) (op : CmpOp) (g : Int → Int → Bool) : Prop := OpR X (compareOp op) (rI0 fun i j => .bl (g i j))
def chE (g' : Int → Int → Bool) (j : Int) (C : CD) : D → Ev → Prop
  | .int k, ρ => C (.bl (g' j k)) ρ
  | _, _ => False
def chD (X : Cx) (T : List (Addr × Str)) (A : Anc) (g g' : Int → Int → Bool) (c : Expr) (C : CD) : D → D → Ev → Prop
  | .int i, .int j, ρ => (g i j = true → DE X T A ρ c (fun d3 ρ3 => chE g' j C d3 ρ3)) ∧ (g i j = false → C (.bl false) ρ)
  | _, _, _ => False
theorem goC {op op' : CmpOp} {g g' : Int → Int → Bool} (h : DE X T A ρ a (fun d1 ρ1 => DE X T A ρ1 b (fun d2 ρ2 => chD X T A g g' c C d1 d2 ρ2))) (σ : L2.St) (H : Hp) (Q : VK) (F : Hp) (ok : Ok X.K T A F H σ ρ)
    (q : ∀ d ρ', C d ρ' → ∀ v F' H', Same F F' → ρ'.ws = ρ.ws → Ok X.K T A F' H' σ ρ' → R X.K F' ρ'.ws v d → Q v H') : tChain (rI0 fun i j => .bl (g i j)) (rI0 fun i j => .bl (g' i j)) (goE X T A a) (goE X T A b) (goE X T A c) σ H Q := by
  refine ⟨ρ, _, h, F, ok, fun d1 ρ1 h1 x F1 H1 s1 w1 ok1 r1 => ⟨ρ1, _, h1, F1, ok1, fun d2 ρ2 h2 y F2 H2 s2 w2 ok2 r2 => ?_⟩⟩
  replace h2 : chD X T A g g' c C d1 d2 ρ2 := h2
  unfold chD at h2
  split at h2
  · rename_i i j
    cases r1
    cases r2
    refine ⟨_, _, rfl, rfl, _, rfl, ?_⟩
    cases e : g i j with
    | true =>
      rw [if_pos rfl]
      refine ⟨ρ2, _, h2.1 e, F2, ok2, fun d3 ρ3 h3 z F3 H3 s3 w3 ok3 r3 => ?_⟩
      replace h3 : chE g' j C d3 ρ3 := h3
      unfold chE at h3
      split at h3
      · cases r3
        exact ⟨_, _, rfl, rfl, q _ _ h3 _ F3 H3 (s1.trans (s2.trans s3)) (w3.trans (w2.trans w1)) ok3 (.bl _)⟩
      · exact h3.elim
    | false =>
      rw [if_neg Bool.false_ne_true]
      exact q _ _ (h2.2 e) _ F2 H2 (s1.trans s2) (w2.trans w1) ok2 (.bl _)
  · exact h2.elim
theorem de_chain {op op' : CmpOp} {g g' : Int → Int → Bool} (ho : CmpI X op g) (ho' : CmpI X op' g') (h : DE X T A ρ a (fun d1 ρ1 => DE X T A ρ1 b (fun d2 ρ2 => chD X T A g g' c C d1 d2 ρ2)))
    (hm : lastMarks [op, op'] [b, c] = false := by with_unfolding_all rfl) : DE X T A ρ (.Compare a [op, op'] [b, c] pos) C :=
  DE.of (pe_chain ho ho' pe_go pe_go pe_go hm) (goC (op := op) (op' := op') h)
theorem dt_chain {op op' : CmpOp} {g g' : Int → Int → Bool} {C : CB} (ho : CmpI X op g) (ho' : CmpI X op' g') (h : DE X T A ρ a (fun d1 ρ1 => DE X T A ρ1 b (fun d2 ρ2 => chD X T A g g' c (asB C) d1 d2 ρ2)))
    (hm : lastMarks [op, op'] [b, c] = false := by with_unfolding_all rfl) : DT X T A ρ (.Compare a [op, op'] [b, c] pos) C :=
  DT.of (pt_chain ho ho' pe_go pe_go pe_go hm) fun σ H Q F ok q => goC (op := op) (op' := op') h σ H _ F ok fun d ρ' c v F' H' s' w' ok' r' => by
    unfold asB at c
    split at c
    · cases r'
      exact ⟨_, rfl, q _ _ c F' H' s' w' ok'⟩
    · exact c.elim
end rules
end DL
end

section
namespace DL
open PySem PySem.Spec L2
def tru : D → Option Bool
  | .non => some false
  | .bl k => some k
  | .int i => some (i != 0)
  | .lst ds => some (!ds.isEmpty)
  | .kl ds => some (!ds.isEmpty)
  | .tup ds => some (!ds.isEmpty)
  | .str x => if x.length ≤ sizeLine then some ((x.length : Int) != 0) else none
  | _ => none
theorem Rs.emp {K : PySem.W.Frag} {F : Hp} {ws : List Addr} {vs : List V} {ds : List D} (r : Rs K F ws vs ds) : vs.isEmpty = ds.isEmpty := by
  cases r <;> rfl
theorem tru_of {K : PySem.W.Frag} {F H : Hp} {ws : List Addr} {v : V} {d : D} {k : Bool} (s : Same F H) (r : R K F ws v d) (e1 : tru d = some k) : TruV K v H k := by
  cases r with
  | non => cases e1; exact rfl
  | bl b => cases e1; exact rfl
  | int i => cases e1; exact rfl
  | str x =>
    simp only [tru] at e1
    split at e1
    · cases e1; exact ⟨by assumption, rfl⟩
    · cases e1
  | lst h t => cases e1; exact .inl ⟨_, .of (s _ _ h), by rw [t.emp]⟩
  | kl h t => cases e1; exact .inl ⟨_, sqL_mono s h, by rw [t.emp]⟩
  | tup h t => cases e1; exact .inr (.inl ⟨_, sqT_mono s h, by rw [t.emp]⟩)
  | dK h t => cases e1
  | dT h t => cases e1
  | obj hc h t => cases e1
  | fn h => cases e1
  | strm h => cases e1
  | exc h t => cases e1
  | ref => cases e1
section rules
variable {X : Cx} {T : List (Addr × Str)} {A : Anc} {ρ : Ev} {a b c e : Expr} {es rest : List Expr} {pos p : Pos} {C : CD} {B : CB}
/-! ### tests, and, or, not, if -/
def truD (d : D) (B : CB) (ρ : Ev) : Prop := ∃ k, tru d = some k ∧ B k ρ
/-- any value, by its truth -/
theorem dt_tru (h : DE X T A ρ a (fun d ρ1 => truD d B ρ1)) (he : ∀ whole, isTrue a X.env whole = (do let v ← whole; standAt a.pos; holding [v] (truthy v)) := by intro _; rfl) : DT X T A ρ a B :=
  DT.of (pt_truth pe_go he) fun σ H Q F ok q => ⟨ρ, _, h, F, ok, fun d ρ1 ⟨k, e1, h1⟩ v F1 H1 s1 w1 ok1 r1 => ⟨k, tru_of ok1.sub r1 e1, q _ _ h1 F1 H1 s1 w1 ok1⟩⟩
def branch (P N : Prop) (k : Bool) : Prop := (k = true → P) ∧ (k = false → N)
theorem branch_at {P N : Prop} {k : Bool} (h : branch P N k) : if k = true then P else N := by
  cases k with
  | true => exact h.1 rfl
  | false => exact h.2 rfl
theorem dw_and1 (h : DT X T A ρ a B) : DW X T A ρ (.BoolOp .And [a] pos) B := DW.of (pw_and1 pt_go) fun σ H Q F ok q => ⟨ρ, B, h, F, ok, q⟩
theorem dw_or1 (h : DT X T A ρ a B) : DW X T A ρ (.BoolOp .Or [a] pos) B := DW.of (pw_or1 pt_go) fun σ H Q F ok q => ⟨ρ, B, h, F, ok, q⟩
theorem dw_and (h : DT X T A ρ a (fun k ρ1 => branch (DW X T A ρ1 (.BoolOp .And (b :: rest) pos) B) (B false ρ1) k)) : DW X T A ρ (.BoolOp .And (a :: b :: rest) pos) B :=
  DW.of (pw_and pt_go pw_go) fun σ H Q F ok q => ⟨ρ, _, h, F, ok, fun k ρ1 h1 F1 H1 s1 w1 ok1 => by
    cases k with
    | true => exact ⟨ρ1, _, h1.1 rfl, F1, ok1, fun k' ρ2 h2 F2 H2 s2 w2 ok2 => q _ _ h2 F2 H2 (s1.trans s2) (w2.trans w1) ok2⟩
    | false => exact q _ _ (h1.2 rfl) F1 H1 s1 w1 ok1⟩
theorem dw_or (h : DT X T A ρ a (fun k ρ1 => branch (B true ρ1) (DW X T A ρ1 (.BoolOp .Or (b :: rest) pos) B) k)) : DW X T A ρ (.BoolOp .Or (a :: b :: rest) pos) B :=
  DW.of (pw_or pt_go pw_go) fun σ H Q F ok q => ⟨ρ, _, h, F, ok, fun k ρ1 h1 F1 H1 s1 w1 ok1 => by
    cases k with
    | false => exact ⟨ρ1, _, h1.2 rfl, F1, ok1, fun k' ρ2 h2 F2 H2 s2 w2 ok2 => q _ _ h2 F2 H2 (s1.trans s2) (w2.trans w1) ok2⟩
    | true => exact q _ _ (h1.1 rfl) F1 H1 s1 w1 ok1⟩
theorem dt_bool {op} {vs : List Expr} (h : DW X T A ρ (.BoolOp op vs pos) B) : DT X T A ρ (.BoolOp op vs pos) B := ⟨h.pe.pt⟩
theorem dt_not (h : DT X T A ρ a (fun k ρ1 => B (!k) ρ1)) : DT X T A ρ (.UnaryOp .Not a pos) B :=
  DT.of (pt_not pt_go) fun σ H Q F ok q => ⟨ρ, _, h, F, ok, fun k ρ1 h1 F1 H1 s1 w1 ok1 => q _ _ h1 F1 H1 s1 w1 ok1⟩
def andD (P : Ev → Prop) (C : CD) : D → Ev → Prop
  | .bl k, ρ => branch (P ρ) (C (.bl false) ρ) k
  | _, _ => False
def orD (P : Ev → Prop) (C : CD) : D → Ev → Prop
  | .bl k, ρ => branch (C (.bl true) ρ) (P ρ) k
  | _, _ => False
theorem de_one {op} (h : DE X T A ρ a C) : DE X T A ρ (.BoolOp op [a] pos) C := DE.of (pe_one pe_go) fun σ H Q F ok q => ⟨ρ, C, h, F, ok, q⟩
theorem de_and (h : DE X T A ρ a (fun d ρ1 => andD (fun ρ2 => DE X T A ρ2 (.BoolOp .And (b :: rest) pos) C) C d ρ1)) : DE X T A ρ (.BoolOp .And (a :: b :: rest) pos) C :=
  DE.of (pe_and pe_go pe_go) fun σ H Q F ok q => ⟨ρ, _, h, F, ok, fun d ρ1 h1 v F1 H1 s1 w1 ok1 r1 => by
    replace h1 : andD _ C d ρ1 := h1
    unfold andD at h1
    split at h1
    · rename_i k
      cases r1
      refine ⟨k, rfl, ?_⟩
      cases k with
      | true => exact ⟨ρ1, _, h1.1 rfl, F1, ok1, fun d2 ρ2 h2 v2 F2 H2 s2 w2 ok2 r2 => q _ _ h2 v2 F2 H2 (s1.trans s2) (w2.trans w1) ok2 r2⟩
      | false => exact q _ _ (h1.2 rfl) _ F1 H1 s1 w1 ok1 (.bl _)
    · exact h1.elim⟩
theorem de_or (h : DE X T A ρ a (fun d ρ1 => orD (fun ρ2 => DE X T A ρ2 (.BoolOp .Or (b :: rest) pos) C) C d ρ1)) : DE X T A ρ (.BoolOp .Or (a :: b :: rest) pos) C :=
  DE.of (pe_or pe_go pe_go) fun σ H Q F ok q => ⟨ρ, _, h, F, ok, fun d ρ1 h1 v F1 H1 s1 w1 ok1 r1 => by
    replace h1 : orD _ C d ρ1 := h1
    unfold orD at h1
    split at h1
    · rename_i k
      cases r1
      refine ⟨k, rfl, ?_⟩
      cases k with
      | false => exact ⟨ρ1, _, h1.2 rfl, F1, ok1, fun d2 ρ2 h2 v2 F2 H2 s2 w2 ok2 r2 => q _ _ h2 v2 F2 H2 (s1.trans s2) (w2.trans w1) ok2 r2⟩
      | true => exact q _ _ (h1.1 rfl) _ F1 H1 s1 w1 ok1 (.bl _)
    · exact h1.elim⟩
def notD (C : CD) : D → Ev → Prop
  | .bl k, ρ => C (.bl (!k)) ρ
  | _, _ => False
theorem de_not (h : DE X T A ρ a (fun d ρ1 => notD C d ρ1)) : DE X T A ρ (.UnaryOp .Not a pos) C :=
  DE.of (pe_not pe_go) fun σ H Q F ok q => ⟨ρ, _, h, F, ok, fun d ρ1 h1 v F1 H1 s1 w1 ok1 r1 => by
    replace h1 : notD C d ρ1 := h1
    unfold notD at h1
    split at h1
    · cases r1
      exact ⟨_, rfl, q _ _ h1 _ F1 H1 s1 w1 ok1 (.bl _)⟩
    · exact h1.elim⟩
theorem de_if (h : DT X T A ρ c (fun k ρ1 => branch (DE X T A ρ1 a C) (DE X T A ρ1 b C) k)) : DE X T A ρ (.IfExp c a b pos) C :=
  DE.of (pe_ifExp pt_go pe_go pe_go) fun σ H Q F ok q => ⟨ρ, _, h, F, ok, fun k ρ1 h1 F1 H1 s1 w1 ok1 => by
    cases k with
    | true =>
      rw [if_pos rfl]
      exact ⟨ρ1, _, h1.1 rfl, F1, ok1, fun d2 ρ2 h2 v2 F2 H2 s2 w2 ok2 r2 => q _ _ h2 v2 F2 H2 (s1.trans s2) (w2.trans w1) ok2 r2⟩
    | false =>
      rw [if_neg Bool.false_ne_true]
      exact ⟨ρ1, _, h1.2 rfl, F1, ok1, fun d2 ρ2 h2 v2 F2 H2 s2 w2 ok2 r2 => q _ _ h2 v2 F2 H2 (s1.trans s2) (w2.trans w1) ok2 r2⟩⟩
/-! ### values of both kinds -/
theorem dv_de {C : CV} (h : DE X T A ρ e (fun d ρ1 => C (.v d) ρ1)) : DV X T A ρ e C := DV.of h.pe fun σ H Q F ok q => ⟨F, ok, fun d ρ1 h1 v F1 H1 s1 w1 ok1 r1 => q (.v d) ρ1 h1 v F1 H1 s1 w1 ok1 r1⟩
theorem de_dv (h : DV X T A ρ e (fun r ρ1 => C r.toD ρ1)) : DE X T A ρ e C := DE.of (pe_fz h.pe) fun σ H Q F ok q => ⟨F, ok, fun r ρ1 h1 v F1 H1 s1 w1 ok1 r1 => by
  have key : ∀ (a : Addr) (c : Con), C c.toD ρ1 → GvB X.K A F1 H1 ρ1 v a c → Q v H1 ∨ ∃ d u, H1 d = some u ∧ Mut (some u) ∧ ∀ od, Q v (upd H1 d (.frz od u)) := fun a c hc g => by
    obtain ⟨o, eo, ro⟩ := g.2.2.2.2.1
    refine fz_of eo ro fun o' z => ?_
    obtain ⟨s2, ok2, r2⟩ := ok1.thawB g eo z
    exact q _ ρ1 hc v _ _ (s1.trans s2) w1 ok2 r2
  cases r with
  | v d => exact .inl (q d ρ1 h1 v F1 H1 s1 w1 ok1 r1)
  | l a ds => exact key a (.lst ds) h1 r1
  | b a c => exact key a c h1 r1⟩
theorem dv_if {C : CV} (h : DT X T A ρ c (fun k ρ1 => branch (DV X T A ρ1 a C) (DV X T A ρ1 b C) k)) : DV X T A ρ (.IfExp c a b pos) C :=
  DV.of (pe_ifExp pt_go pv_go pv_go) fun σ H Q F ok q => ⟨ρ, _, h, F, ok, fun k ρ1 h1 F1 H1 s1 w1 ok1 => by
    cases k with
    | true =>
      rw [if_pos rfl]
      exact ⟨ρ1, _, h1.1 rfl, F1, ok1, fun d2 ρ2 h2 v2 F2 H2 s2 w2 ok2 r2 => q _ _ h2 v2 F2 H2 (s1.trans s2) (w2.trans w1) ok2 r2⟩
    | false =>
      rw [if_neg Bool.false_ne_true]
      exact ⟨ρ1, _, h1.2 rfl, F1, ok1, fun d2 ρ2 h2 v2 F2 H2 s2 w2 ok2 r2 => q _ _ h2 v2 F2 H2 (s1.trans s2) (w2.trans w1) ok2 r2⟩⟩
/-! ### argument lists, displays -/
theorem da_nil {C : CL} (h : C [] ρ) : DA X T A ρ [] C := DA.of pa_nil fun σ H Q F ok q => q [] ρ h [] F H (Same.refl _) rfl ok .nil
theorem da_cons {C : CL} (h : DE X T A ρ e (fun d ρ1 => DA X T A ρ1 es (fun ds ρ2 => C (d :: ds) ρ2))) (hs : starEach (e :: es) X.env = (false, eval e X.env) :: starEach es X.env := by rfl) : DA X T A ρ (e :: es) C :=
  DA.of (pa_cons pe_go pa_go hs) fun σ H Q F ok q => ⟨ρ, _, h, F, ok, fun d ρ1 h1 v F1 H1 s1 w1 ok1 r1 => ⟨ρ1, _, h1, F1, ok1, fun ds ρ2 h2 vs F2 H2 s2 w2 ok2 r2 =>
    q _ _ h2 (v :: vs) F2 H2 (s1.trans s2) (w2.trans w1) ok2 (.cons (by rw [w2]; exact r1.mo s2) r2)⟩⟩
theorem dv_list {C : CV} (h : DA X T A ρ es (fun ds ρ1 => ds.length ≤ sizeLine ∧ ∀ a, C (.l a ds) ρ1)) : DV X T A ρ (.List es pos) C :=
  DV.of (pe_lst pa_go) fun σ H Q F ok q => ⟨ρ, _, h, F, ok, fun ds ρ1 h1 vs F1 H1 s1 w1 ok1 r1 => ⟨by rw [r1.len]; exact h1.1, fun p hp => by
    obtain ⟨ok2, g⟩ := ok1.mine hp r1
    exact q _ _ (h1.2 p) _ F1 _ s1 w1 ok2 g⟩⟩
theorem de_tup {k} (h : DA X T A ρ es (fun ds ρ1 => ds.length ≤ sizeLine ∧ C (.tup ds) ρ1)) : DE X T A ρ (.Tuple es k pos) C :=
  DE.of (pe_tup pa_go) fun σ H Q F ok q => ⟨ρ, _, h, F, ok, fun ds ρ1 h1 vs F1 H1 s1 w1 ok1 r1 => ⟨by rw [r1.len]; exact h1.1, fun p hp => by
    obtain ⟨F2, s2, ok2, r2⟩ := ok1.newT r1 hp
    exact q _ _ h1.2 _ F2 _ (s1.trans s2) w1 ok2 r2⟩⟩
theorem dv_dict0 {C : CV} (h : ∀ a, C (.b a (.dK [])) ρ) : DV X T A ρ (.Dict [] [] pos) C :=
  DV.of pe_dnewK fun σ H Q F ok q => fun p hp => by
    obtain ⟨ok2, g⟩ := ok.mineB (c := .dK []) hp (.dK .nil)
    exact q _ _ (h p) _ _ _ (Same.refl _) rfl ok2 g
theorem dv_dictT {C : CV} (h : ∀ a, C (.b a (.dT [])) ρ) : DV X T A ρ (.Dict [] [] pos) C :=
  DV.of pe_dnewT fun σ H Q F ok q => fun p hp => by
    obtain ⟨ok2, g⟩ := ok.mineB (c := .dT []) hp (.dT .nil)
    exact q _ _ (h p) _ _ _ (Same.refl _) rfl ok2 g
theorem de_dict0 (h : C (.dK []) ρ) : DE X T A ρ (.Dict [] [] pos) C := de_dv (dv_dict0 fun _ => h)
/-! ### subscripts, slices -/
def ixD : D → D → CD → Ev → Prop
  | .str z, .int i, C, ρ => z.length ≤ sizeLine ∧ ∃ c, atI z.cps.toList i = some c ∧ C (.str ⟨#[c]⟩) ρ
  | d, .int i, C, ρ => ∃ ds e, seqD d = some ds ∧ atI ds i = some e ∧ C e ρ
  | _, _, _, _ => False
theorem atI_of {K : PySem.W.Frag} {F : Hp} {ws : List Addr} {vs : List V} {ds : List D} {i : Int} {d : D} (r : Rs K F ws vs ds) (h : atI ds i = some d) : ∃ v, atI vs i = some v ∧ R K F ws v d := by
  unfold atI at h ⊢
  rw [r.len]
  cases e : ixN ds.length i with
  | none => rw [e] at h; cases h
  | some j =>
    rw [e] at h
    exact r.get h
theorem lk_ix : Lk X T A (rIx X.K) ixD := by
  intro d1 d2 C F H σ ρ x y Q h ok r1 r2 q
  unfold ixD at h
  split at h
  · cases r1
    cases r2
    obtain ⟨h1, c, h2, h3⟩ := h
    exact .inr (.inr ⟨_, _, _, rfl, rfl, h1, h2, q _ _ h3 _ F H (Same.refl _) rfl ok (.str _)⟩)
  · cases r2
    obtain ⟨ds, d, e1, e2, h⟩ := h
    obtain ⟨p, xs, rfl, hs, t⟩ := seq_of ok.sub r1 e1
    obtain ⟨v, e3, r⟩ := atI_of t e2
    rcases hs with hs | hs
    · exact .inl ⟨p, xs, _, v, rfl, rfl, hs, e3, q _ _ h _ F H (Same.refl _) rfl ok r⟩
    · exact .inr (.inl ⟨p, xs, _, v, rfl, rfl, hs, e3, q _ _ h _ F H (Same.refl _) rfl ok r⟩)
  · exact h.elim
theorem de_ix (h : In2 X T A ρ a b ixD C) (hs : PlainIx b := by exact fun _ _ => rfl) : DE X T A ρ (.Subscript a b pos) C := DE.of (pe_ix ix_seq pe_go pe_go hs) (go2 lk_ix h)
def cutD (ds : List D) (lo hi : Option Int) : List D := (ds.drop (HT.sIx ds.length 0 lo)).take (HT.sIx ds.length ds.length hi - HT.sIx ds.length 0 lo)
theorem cut_of {K : PySem.W.Frag} {F : Hp} {ws : List Addr} {vs : List V} {ds : List D} (r : Rs K F ws vs ds) (lo hi : Option Int) : Rs K F ws (cutV vs lo hi) (cutD ds lo hi) := by
  unfold cutV cutD
  rw [r.len]
  exact (r.drop _).take _
def seqL : D → Option (List D)
  | .lst ds => some ds
  | .kl ds => some ds
  | _ => none
theorem seqL_of {K : PySem.W.Frag} {F H : Hp} {ws : List Addr} {v : V} {d : D} {ds : List D} (s : Same F H) (h : R K F ws v d) (e : seqL d = some ds) : ∃ a xs, v = .ref a ∧ SqL K H a xs ∧ Rs K F ws xs ds := by
  cases h with
  | lst h t => cases e; exact ⟨_, _, rfl, .of (s _ _ h), t⟩
  | kl h t => cases e; exact ⟨_, _, rfl, sqL_mono s h, t⟩
  | _ => cases e
/-- a part of a slice -/
structure DP (X : Cx) (T : List (Addr × Str)) (A : Anc) (ρ : Ev) (e : Option Expr) (C : Option Int → Ev → Prop) : Prop where
  pe : PO X e (fun σ H Q => ∃ F, Ok X.K T A F H σ ρ ∧ ∀ o ρ', C o ρ' → ∀ F' H', Same F F' → ρ'.ws = ρ.ws → Ok X.K T A F' H' σ ρ' → Q o H')
def goP (X : Cx) (T : List (Addr × Str)) (A : Anc) (e : Option Expr) : TO := fun σ H Q => ∃ ρ C, DP X T A ρ e C ∧ ∃ F, Ok X.K T A F H σ ρ ∧ ∀ o ρ', C o ρ' → ∀ F' H', Same F F' → ρ'.ws = ρ.ws → Ok X.K T A F' H' σ ρ' → Q o H'
theorem po_go {e : Option Expr} : PO X e (goP X T A e) := ⟨fun pins s σ H Q I ⟨_, _, h, q⟩ => h.pe.run pins s σ H Q I q⟩
theorem dp_none {C : Option Int → Ev → Prop} (h : C none ρ) : DP X T A ρ none C := ⟨⟨fun pins s σ H Q I ⟨F, ok, q⟩ => po_none.run pins s σ H Q I (q _ _ h F H (Same.refl _) rfl ok)⟩⟩
def partD (C : Option Int → Ev → Prop) : D → Ev → Prop
  | .int i, ρ => C (some i) ρ
  | _, _ => False
theorem dp_some {C : Option Int → Ev → Prop} (h : DE X T A ρ e (fun d ρ1 => partD C d ρ1)) : DP X T A ρ (some e) C := ⟨⟨fun pins s σ H Q I ⟨F, ok, q⟩ => (po_some (pe_go (T := T) (A := A))).run pins s σ H Q I ⟨ρ, _, h, F, ok, fun d ρ1 h1 v F1 H1 s1 w1 ok1 r1 => by
  replace h1 : partD C d ρ1 := h1
  unfold partD at h1
  split at h1
  · cases r1
    exact ⟨_, rfl, q _ _ h1 F1 H1 s1 w1 ok1⟩
  · exact h1.elim⟩⟩⟩
/-- xs[lo:hi], a list: a new one -/
theorem dv_slice {C : CV} {lo hi : Option Expr} {p2 : Pos} (h : DE X T A ρ e (fun d ρ1 => DP X T A ρ1 lo (fun l ρ2 => DP X T A ρ2 hi (fun u ρ3 => ∃ ds, seqL d = some ds ∧ ∀ a, C (.l a (cutD ds l u)) ρ3)))) : DV X T A ρ (.Subscript e (.Slice lo hi none p2) pos) C :=
  DV.of (pe_slice sl_list pe_go po_go po_go) fun σ H Q F ok q => ⟨ρ, _, h, F, ok, fun d ρ1 h1 v F1 H1 s1 w1 ok1 r1 => ⟨ρ1, _, h1, F1, ok1, fun l ρ2 h2 F2 H2 s2 w2 ok2 => ⟨ρ2, _, h2, F2, ok2, fun u ρ3 ⟨ds, e3, h3⟩ F3 H3 s3 w3 ok3 => by
    obtain ⟨a, xs, rfl, hs, t⟩ := seqL_of (s2.trans (s3.trans ok3.sub)) r1 e3
    refine ⟨a, xs, rfl, hs, fun p hp => ?_⟩
    have t3 : Rs X.K F3 ρ3.ws xs ds := by rw [w3, w2]; exact t.mo (s2.trans s3)
    obtain ⟨ok4, g⟩ := ok3.mine hp (cut_of t3 l u)
    exact q _ _ (h3 p) _ F3 _ (s1.trans (s2.trans s3)) (w3.trans (w2.trans w1)) ok4 g⟩⟩⟩
/-! ### calls of built-ins -/
def LkC (X : Cx) (T : List (Addr × Str)) (A : Anc) (r : List V → Hp → VK → Prop) (S : List D → CV → Ev → Prop) : Prop := ∀ (ds : List D) (C : CV) (F H : Hp) (σ : L2.St) (ρ : Ev) (xs : List V) (Q : VK), S ds C ρ → Ok X.K T A F H σ ρ → Rs X.K F ρ.ws xs ds →
  (∀ d ρ', C d ρ' → ∀ v F' H', Same F F' → ρ'.ws = ρ.ws → Ok X.K T A F' H' σ ρ' → Gv X.K A F' H' ρ' v d → Q v H') → r xs H Q
theorem dv_callB {C : CV} {x : Str} {id : String} {r : List V → Hp → VK → Prop} {S : List D → CV → Ev → Prop} (hc : CallR X (.builtin id) r) (hS : LkC X T A r S) (hm : X.mg x = none) (hv : bootBuiltins x = some (.builtin id)) (h : DA X T A ρ (e :: es) (fun ds ρ1 => S ds C ρ1))
    (hg : Gl X x := by rfl) (hn : x ≠ "__name__" := by decide) (hdb : (x == ("__debug__" : Str)) = false := by decide) (he : starEach (e :: es) X.env = (false, eval e X.env) :: starEach es X.env := by rfl) (hpl : (backTo pos (starEach es X.env)).any (·.1) = false := by rfl) : DV X T A ρ (.Call (.Name x p) (e :: es) [] pos) C :=
  DV.of (pe_callB hc hg hm hv pa_go hn hdb he hpl) fun σ H Q F ok q => ⟨ρ, _, h, F, ok, fun ds ρ1 h1 vs F1 H1 s1 w1 ok1 r1 => hS ds C F1 H1 σ ρ1 vs Q h1 ok1 r1 fun d ρ' c v F' H' s' w' ok' r' => q d ρ' c v F' H' (s1.trans s') (w'.trans w1) ok' r'⟩
theorem dv_callTy {C : CV} {x : Str} {id : String} {r : List V → Hp → VK → Prop} {S : List D → CV → Ev → Prop} (hc : CallR X (.type id) r) (hS : LkC X T A r S) (hm : X.mg x = none) (hv : bootBuiltins x = some (.type id)) (h : DA X T A ρ (e :: es) (fun ds ρ1 => S ds C ρ1))
    (hg : Gl X x := by rfl) (hn : x ≠ "__name__" := by decide) (hdb : (x == ("__debug__" : Str)) = false := by decide) (he : starEach (e :: es) X.env = (false, eval e X.env) :: starEach es X.env := by rfl) (hpl : (backTo pos (starEach es X.env)).any (·.1) = false := by rfl) : DV X T A ρ (.Call (.Name x p) (e :: es) [] pos) C :=
  DV.of (pe_callTy hc hg hm hv pa_go hn hdb he hpl) fun σ H Q F ok q => ⟨ρ, _, h, F, ok, fun ds ρ1 h1 vs F1 H1 s1 w1 ok1 r1 => hS ds C F1 H1 σ ρ1 vs Q h1 ok1 r1 fun d ρ' c v F' H' s' w' ok' r' => q d ρ' c v F' H' (s1.trans s') (w'.trans w1) ok' r'⟩
theorem Rs.one {K : PySem.W.Frag} {F : Hp} {ws : List Addr} {vs : List V} {d : D} (r : Rs K F ws vs [d]) : ∃ v, vs = [v] ∧ R K F ws v d := by
  cases r with
  | cons h t => cases t; exact ⟨_, rfl, h⟩
theorem Rs.two {K : PySem.W.Frag} {F : Hp} {ws : List Addr} {vs : List V} {d d2 : D} (r : Rs K F ws vs [d, d2]) : ∃ v u, vs = [v, u] ∧ R K F ws v d ∧ R K F ws u d2 := by
  cases r with
  | cons h t =>
    cases t with
    | cons h' t => cases t; exact ⟨_, _, rfl, h, h'⟩
theorem Rs.ints {K : PySem.W.Frag} {F : Hp} {ws : List Addr} : ∀ {ns : List Int} {vs : List V}, Rs K F ws vs (ns.map D.int) → vs = ns.map V.int
  | [], _, h => by cases h; rfl
  | n :: ns, _, h => by
    cases h with
    | cons h t =>
      cases h
      rw [Rs.ints t]
      rfl
theorem Rs.ofInts {K : PySem.W.Frag} {F : Hp} {ws : List Addr} : ∀ ns : List Int, Rs K F ws (ns.map V.int) (ns.map D.int)
  | [] => .nil
  | n :: ns => .cons (.int n) (Rs.ofInts ns)
theorem Rs.bls {K : PySem.W.Frag} {F : Hp} {ws : List Addr} : ∀ {ns : List Bool} {vs : List V}, Rs K F ws vs (ns.map D.bl) → vs = ns.map V.bl
  | [], _, h => by cases h; rfl
  | n :: ns, _, h => by
    cases h with
    | cons h t =>
      cases h
      rw [Rs.bls t]
      rfl
/-- len -/
def lenD : List D → CV → Ev → Prop
  | [.str z], C, ρ => z.length ≤ sizeLine ∧ C (.v (.int z.length)) ρ
  | [.dK kvs], C, ρ => C (.v (.int kvs.length)) ρ
  | [d], C, ρ => ∃ ds, seqD d = some ds ∧ C (.v (.int ds.length)) ρ
  | _, _, _ => False
theorem Rk.len {K : PySem.W.Frag} {F : Hp} {ws : List Addr} : ∀ {ds : List (Key × D)} {vs : List (Key × V)}, Rk K F ws vs ds → vs.length = ds.length
  | [], _, h => by cases h; rfl
  | _ :: _, _, h => by
    cases h with
    | cons h t => rw [List.length_cons, List.length_cons, Rk.len t]
end rules
end DL
end

section
namespace DL
open PySem PySem.Spec L2
/-! ### what a def promises -/
inductive Out where
  | ret (d : D) (g : Nat) | new (ds : List D) (g : Nat) | newB (c : Con) (g : Nat) | exc (C : Addr) (fs : List (Str × D)) (g : Nat)
abbrev DF := List D → Nat → (Out → Prop) → Prop
abbrev Ev.bare (ws : List Addr) (g : Nat) : Ev := ⟨[], [], ws, g⟩
def spD (K : PySem.W.Frag) (T : List (Addr × Str)) (N : DF) : Sp := fun vs H Q E => ∃ (F : Hp) (ws : List Addr) (ds : List D) (g : Nat) (C : Out → Prop), Ok K T ⟨F, H, ws⟩ F H [] (.bare ws g) ∧ Rs K F ws vs ds ∧ N ds g C ∧
  (∀ d g', C (.ret d g') → ∀ v F' H', Ok K T ⟨F, H, ws⟩ F' H' [] (.bare ws g') → R K F' ws v d → Q v H') ∧
  (∀ ds g', C (.new ds g') → ∀ a F' H', Ok K T ⟨F, H, ws⟩ F' H' [] (.bare ws g') → Gv K ⟨F, H, ws⟩ F' H' (.bare ws g') (.ref a) (.l a ds) → Q (.ref a) H') ∧
  (∀ c g', C (.newB c g') → ∀ a F' H', Ok K T ⟨F, H, ws⟩ F' H' [] (.bare ws g') → GvB K ⟨F, H, ws⟩ F' H' (.bare ws g') (.ref a) a c → Q (.ref a) H') ∧
  (∀ c fs g', C (.exc c fs g') → ∀ dx xs F' H', Ok K T ⟨F, H, ws⟩ F' H' [] (.bare ws g') → F' dx = some (.xd xs) → Rf K F' ws xs fs → E (.ref c) (some dx) H')
abbrev XC := Addr → List (Str × D) → Nat → Prop
/-- what an exception has to be, the def's own ground A -/
def WD (K : PySem.W.Frag) (T : List (Addr × Str)) (A : Anc) (xc : XC) : WX := fun cls d _ H => ∃ (c dx : Addr) (fs : List (Str × D)) (xs : List (Str × V)) (g : Nat) (F : Hp), cls = .ref c ∧ d = some dx ∧ Ok K T A F H [] (.bare A.ws g) ∧ F dx = some (.xd xs) ∧ Rf K F A.ws xs fs ∧ xc c fs g
section ok
variable {K : PySem.W.Frag} {T : List (Addr × Str)} {A : Anc} {F F' H H' : Hp} {σ : L2.St} {ρ : Ev} {g : Nat}
theorem at_bare {ws : List Addr} {p : Sum Nat Nat} : (Ev.bare ws g).at p = none := by
  cases p <;> rfl
theorem Ok.bare (ok : Ok K T A F H σ ρ) : Ok K T ⟨F, H, ρ.ws⟩ F H [] (.bare ρ.ws ρ.g) :=
  ⟨Same.refl _, ok.sub, fun _ _ e _ _ => e, fun _ _ n => n, fun _ h => h, ok.tabs, fun _ h => h, fun _ h => .inl h, ok.strm, fun i d e => (by simp at e), fun i a ds e => (by simp [ownOf] at e), fun p a ds e => (by rw [at_bare] at e; cases e), fun p q a ds es e => (by rw [at_bare] at e; cases e), Nat.le_refl _⟩
theorem Ok.back (ok : Ok K T A F H σ ρ) (ok' : Ok K T ⟨F, H, ρ.ws⟩ F' H' [] (.bare ρ.ws g)) : Ok K T A F' H' σ (ρ.gas g) := by
  have s : Same F F' := ok'.sub0
  have hk : ∀ a o, H a = some o → NoTbl o → a ∉ ρ.ws → H' a = some o := ok'.keep
  have ha : ∀ a, H a ≠ none → F a = none → F' a = none := ok'.apart
  have ht : ∀ a, H a ≠ none → H' a ≠ none := ok'.there
  refine ⟨ok.sub0.trans s, ok'.sub, fun a o e n w => hk a o (ok.keep a o e n w) n fun z => ?_, fun a h n => ha a (ok.there a h) (ok.apart a h n), fun a h => ht a (ok.there a h), ok'.tabs, ok.wsub, ok.wnew, ok'.strm, fun i d e => ?_, ok.ownS, fun p a ds e => ?_, ok.dist, ok.len⟩
  · rcases ok.wnew a z with q | q
    · exact w q
    · rw [e] at q; cases q
  · obtain ⟨v, e1, e2⟩ := ok.slots i d e
    exact ⟨v, e1, e2.mo s⟩
  · obtain ⟨h1, h2, h3, vs, h4, h5⟩ := ok.owns p a ds e
    exact ⟨ha a (by rw [h4]; simp) h1, h2, h3, vs, hk a _ h4 h5.noTbl h2, h5.mo s⟩
theorem Ok.backB (ok : Ok K T A F H σ ρ) {a : Addr} {c : Con} (ok' : Ok K T ⟨F, H, ρ.ws⟩ F' H' [] (.bare ρ.ws g)) (g' : GvB K ⟨F, H, ρ.ws⟩ F' H' (.bare ρ.ws g) (.ref a) a c) : GvB K A F' H' (ρ.gas g) (.ref a) a c := by
  obtain ⟨_, h1, h2, h3, h4, _⟩ := g'
  have hn : A.H a = none := ok.anone h3
  refine ⟨rfl, h1, h2, hn, h4, fun p ds' z => ?_⟩
  obtain ⟨_, _, _, us, e, _⟩ := ok.owns p a ds' z
  rw [show H a = none from h3] at e
  cases e
/-- all slots forgotten -/
theorem Ok.drop (ok : Ok K T A F H σ ρ) : Ok K T A F H [] (.bare A.ws ρ.g) := by
  refine ⟨ok.sub0, ok.sub, ok.keep, ok.apart, ok.there, ok.tabs, fun _ h => h, fun _ h => .inl h, ?_, fun i d e => (by simp at e), fun i a ds e => (by simp [ownOf] at e), fun p a ds e => (by rw [at_bare] at e; cases e), fun p q a ds es e => (by rw [at_bare] at e; cases e), Nat.le_refl _⟩
  exact fun a m => ok.strm a (ok.wsub a m)
theorem GvB.bare {v : V} {a : Addr} {c : Con} {ws : List Addr} (h : GvB K A F H ρ v a c) (e : ρ.ws = ws) : GvB K A F H (.bare ws g) v a c := by
  subst e
  obtain ⟨h1, h2, h3, h4, h5, _⟩ := h
  exact ⟨h1, h2, h3, h4, h5, fun p ds' => by rw [at_bare]; simp⟩
theorem Gv.bare {v : V} {r : RV} {ws : List Addr} (h : Gv K A F H ρ v r) (e : ρ.ws = ws) : Gv K A F H (.bare ws g) v r := by
  cases r with
  | v d => subst e; exact h
  | l a ds => exact GvB.bare h e
  | b a c => exact GvB.bare h e
end ok
section call
variable {X : Cx} {T : List (Addr × Str)} {A : Anc} {ρ : Ev} {a b c e : Expr} {es rest : List Expr} {pos p : Pos} {C : CD} {B : CB}
def outD (A : Anc) (xc : XC) (C : CV) (ρ : Ev) : Out → Prop
  | .ret d g => C (.v d) (ρ.gas g)
  | .new ds g => ∀ a, C (.l a ds) (ρ.gas g)
  | .newB c g => ∀ a, C (.b a c) (ρ.gas g)
  | .exc c fs g => ρ.ws = A.ws ∧ xc c fs g
/-- a def of the text that is known -/
structure Kn (P : Program) (w : World) (K : PySem.W.Frag) (mg : Str → Option Value) (base : Heap) (T : List (Addr × Str)) (x : Str) (k : Nat) (N : DF) : Prop where
  ex : ∃ (f : Addr) (fd : FuncData) (ps : List Str), FnOk P w K mg base (L2.CX P w) k f fd ps (spD K T N) ∧ mg x = some (.ref f) ∧ PySem.W.keepIn K (.ref f) = true ∧ Binds K fd ps []
/-- what a call asks, at the values -/
theorem call_sp {K : PySem.W.Frag} {N : DF} {F H : Hp} {σ : L2.St} {vs : List V} {ds : List D} {xc : XC} {C : CV} {Q : VK} {E : XK} (ok : Ok K T A F H σ ρ) (r : Rs K F ρ.ws vs ds) (h : N ds ρ.g (outD A xc C ρ))
    (q : ∀ d ρ', C d ρ' → ∀ v F' H', Same F F' → ρ'.ws = ρ.ws → Ok K T A F' H' σ ρ' → Gv K A F' H' ρ' v d → Q v H') (hE : ∀ cls d H', WD K T A xc cls d [] H' → E cls d H') : spD K T N vs H Q E := by
  refine ⟨F, ρ.ws, ds, ρ.g, _, ok.bare, r, h, fun d g c v F' H' ok' r' => ?_, fun es g c a F' H' ok' g' => ?_, fun cc g c a F' H' ok' g' => ?_, fun cl fs g c dx xs F' H' ok' hx rf => ?_⟩
  · exact q _ _ c v F' H' ok'.sub0 rfl (ok.back ok') r'
  · exact q _ _ (c a) (.ref a) F' H' ok'.sub0 rfl (ok.back ok') (ok.backB ok' g')
  · exact q _ _ (c a) (.ref a) F' H' ok'.sub0 rfl (ok.back ok') (ok.backB ok' g')
  · obtain ⟨e, c⟩ := c
    have ok2 := (ok.back ok').drop
    exact hE _ _ _ ⟨cl, dx, fs, xs, g, F', rfl, rfl, ok2, hx, by rw [← e]; exact rf, c⟩
theorem dv_call {C : CV} {x : Str} {k : Nat} {N : DF} {xc : XC} (F : Kn X.prog X.w X.K X.mg X.base T x k N) (hr : Room k X.A) (tk : Takes X (WD X.K T A xc)) (h : DA X T A ρ (e :: es) (fun ds ρ1 => N ds ρ1.g (outD A xc C ρ1)))
    (hg : Gl X x := by rfl) (hdb : (x == ("__debug__" : Str)) = false := by decide) (he : starEach (e :: es) X.env = (false, eval e X.env) :: starEach es X.env := by rfl) (hpl : (backTo pos (starEach es X.env)).any (·.1) = false := by rfl) : DV X T A ρ (.Call (.Name x p) (e :: es) [] pos) C := by
  obtain ⟨f, fd, ps, F, hm, hk, hb⟩ := F.ex
  refine DV.of (pe_call F hr hg hm hk hb .nil (E := fun cls d H => WD X.K T A xc cls d [] H) (passes_call tk fun _ _ _ _ z => z) pa_go hdb he hpl) fun σ H Q F ok q => ⟨ρ, _, h, F, ok, fun ds ρ1 h1 vs F1 H1 s1 w1 ok1 r1 => ?_⟩
  show spD X.K T N (vs ++ []) H1 Q _
  rw [List.append_nil]
  exact call_sp ok1 r1 h1 (fun d ρ' c v F' H' s' w' ok' r' => q d ρ' c v F' H' (s1.trans s') (w'.trans w1) ok' r') fun _ _ _ z => z
end call
/-! ### statements -/
section stm
variable {X : Cx} {T : List (Addr × Str)} {A : Anc} {ρ : Ev} {a b c e : Expr} {es rest : List Expr} {pos p : Pos} {O : DO} {st : Stmt} {sts tt : List Stmt}
theorem Goes.sub {F F' : Hp} {ws ws' : List Addr} {C : Ev → Prop} {Q : L2.St → Hp → Prop} (h : Goes X T A F ws C Q) (s : Same F F') (w : ∀ a ∈ ws, a ∈ ws') : Goes X T A F' ws' C Q :=
  fun ρ' c σ' F2 H2 s2 w2 ok => h ρ' c σ' F2 H2 (s.trans s2) (fun a m => w2 a (w a m)) ok
theorem tS_sub {E : Ends} {F F' H' : Hp} {σ' : L2.St} {ρ' : Ev} (hn : Goes X T A F ρ.ws O.nx E.nx) (hr : ∀ r ρ', O.rt r ρ' → ∀ v σ' F' H', Ok X.K T A F' H' σ' ρ' → Gv X.K A F' H' ρ' v r → E.rt v H')
    (hb : Goes X T A F ρ.ws O.bk E.bk) (hc : Goes X T A F ρ.ws O.ct E.ct) (s : Same F F') (w : ∀ a ∈ ρ.ws, a ∈ ρ'.ws) (ok : Ok X.K T A F' H' σ' ρ') : tS X T A ρ' O E σ' H' :=
  ⟨F', ok, hn.sub s w, hr, hb.sub s w, hc.sub s w⟩
theorem dss_nil (h : O.nx ρ) : DSs X T A ρ [] O := DSs.of pss_nil fun E σ H ⟨F, ok, hn, _⟩ => hn ρ h σ F H (Same.refl _) (fun _ z => z) ok
theorem dss_cons (h : DS X T A ρ st { O with nx := fun ρ' => DSs X T A ρ' sts O }) : DSs X T A ρ (st :: sts) O :=
  DSs.of (pss_cons ps_go pss_go) fun E σ H ⟨F, ok, hn, hr, hb, hc⟩ => ⟨ρ, _, h, F, ok, fun ρ' c σ' F' H' s w ok' => ⟨ρ', O, c, tS_sub hn hr hb hc s w ok'⟩, hr, hb, hc⟩
theorem ds_pass (h : O.nx ρ) : DS X T A ρ (.Pass pos) O := DS.of ps_pass fun E σ H ⟨F, ok, hn, _⟩ => hn ρ h σ F H (Same.refl _) (fun _ z => z) ok
theorem ds_break (h : O.bk ρ) : DS X T A ρ (.Break pos) O := DS.of ps_break fun E σ H ⟨F, ok, _, _, hb, _⟩ => hb ρ h σ F H (Same.refl _) (fun _ z => z) ok
theorem ds_continue (h : O.ct ρ) : DS X T A ρ (.Continue pos) O := DS.of ps_continue fun E σ H ⟨F, ok, _, _, _, hc⟩ => hc ρ h σ F H (Same.refl _) (fun _ z => z) ok
theorem mem_eq {ws ws' : List Addr} (e : ws' = ws) : ∀ a ∈ ws, a ∈ ws' := fun a m => by rw [e]; exact m
theorem ds_expr (h : DV X T A ρ e (fun _ ρ1 => O.nx ρ1)) (hs : swapsWith e none pos.line X.env = pure false := by rfl) : DS X T A ρ (.Expr e pos) O :=
  DS.of (ps_expr pv_go hs) fun E σ H ⟨F, ok, hn, _⟩ => ⟨ρ, _, h, F, ok, fun r ρ1 c v F1 H1 s1 w1 ok1 g1 => hn ρ1 c σ F1 H1 s1 (mem_eq w1) ok1⟩
theorem ds_ret (h : DV X T A ρ e O.rt) : DS X T A ρ (.Return (some e) pos) O :=
  DS.of (ps_ret pv_go) fun E σ H ⟨F, ok, _, hr, _⟩ => ⟨ρ, _, h, F, ok, fun r ρ1 c v F1 H1 s1 w1 ok1 g1 => hr r ρ1 c v σ F1 H1 ok1 g1⟩
theorem ds_retN (h : O.rt (.v .non) ρ) : DS X T A ρ (.Return none pos) O :=
  DS.of ps_retN fun E σ H ⟨F, ok, _, hr, _⟩ => hr _ ρ h .non σ F H ok .non
theorem ds_if (h : DT X T A ρ c (fun k ρ1 => branch (DSs X T A ρ1 sts O) (DSs X T A ρ1 tt O) k)) : DS X T A ρ (.If c sts tt pos) O :=
  DS.of (ps_if pt_go pss_go pss_go) fun E σ H ⟨F, ok, hn, hr, hb, hc⟩ => ⟨ρ, _, h, F, ok, fun k ρ1 h1 F1 H1 s1 w1 ok1 => by
    cases k with
    | true =>
      rw [if_pos rfl]
      exact ⟨ρ1, O, h1.1 rfl, tS_sub hn hr hb hc s1 (mem_eq w1) ok1⟩
    | false =>
      rw [if_neg Bool.false_ne_true]
      exact ⟨ρ1, O, h1.2 rfl, tS_sub hn hr hb hc s1 (mem_eq w1) ok1⟩⟩
theorem ds_set {x : Str} {i : Nat} {pos' : Pos} (hN : X.N.Nodup) (h : DV X T A ρ e (fun r ρ1 => O.nx (ρ1.put i (.of r)))) (hi : slotOf X.N x = some i := by rfl) (hx : Loc X.env.scope x := by first | exact Or.inl rfl | exact Or.inr rfl)
    (hs : swapsWith e (some (.Name x pos')) pos.line X.env = pure false := by rfl) (hf : X.fn x = true ∨ X.env.scope.names.lookup x = some .local := by first | exact .inl rfl | exact .inr rfl | assumption) : DS X T A ρ (.Assign [.Name x pos'] e pos) O :=
  DS.of (ps_set hN (slotOf_ok hi) hx pv_go hs hf) fun E σ H ⟨F, ok, hn, _⟩ => ⟨ρ, _, h, F, ok, fun r ρ1 c v F1 H1 s1 w1 ok1 g1 => hn _ c _ F1 H1 s1 (mem_eq w1) (ok1.put g1)⟩
/-! targets: vs are the slots that they may change -/
structure DG (X : Cx) (T : List (Addr × Str)) (A : Anc) (vs : List Nat) (ρ : Ev) (tg : Expr) (d : D) (C : Ev → Prop) : Prop where
  pe : PG X tg (fun v σ H Q => ∃ F, Ok X.K T A F H σ ρ ∧ R X.K F ρ.ws v d ∧ ∀ ρ', C ρ' → ∀ σ' F' H', Same F F' → ρ'.ws = ρ.ws → wipe σ' vs = wipe σ vs → Ok X.K T A F' H' σ' ρ' → Q σ' H')
structure DGs (X : Cx) (T : List (Addr × Str)) (A : Anc) (vs : List Nat) (ρ : Ev) (tgs : List Expr) (ds : List D) (C : Ev → Prop) : Prop where
  pe : PGs X tgs (fun us σ H Q => ∃ F, Ok X.K T A F H σ ρ ∧ Rs X.K F ρ.ws us ds ∧ ∀ ρ', C ρ' → ∀ σ' F' H', Same F F' → ρ'.ws = ρ.ws → wipe σ' vs = wipe σ vs → Ok X.K T A F' H' σ' ρ' → Q σ' H')
def goG (X : Cx) (T : List (Addr × Str)) (A : Anc) (tg : Expr) : TG := fun v σ H Q => ∃ vs ρ d C, DG X T A vs ρ tg d C ∧ ∃ F, Ok X.K T A F H σ ρ ∧ R X.K F ρ.ws v d ∧ ∀ ρ', C ρ' → ∀ σ' F' H', Same F F' → ρ'.ws = ρ.ws → wipe σ' vs = wipe σ vs → Ok X.K T A F' H' σ' ρ' → Q σ' H'
def goGs (X : Cx) (T : List (Addr × Str)) (A : Anc) (tgs : List Expr) : TGs := fun us σ H Q => ∃ vs ρ ds C, DGs X T A vs ρ tgs ds C ∧ ∃ F, Ok X.K T A F H σ ρ ∧ Rs X.K F ρ.ws us ds ∧ ∀ ρ', C ρ' → ∀ σ' F' H', Same F F' → ρ'.ws = ρ.ws → wipe σ' vs = wipe σ vs → Ok X.K T A F' H' σ' ρ' → Q σ' H'
theorem pg_go {tg : Expr} : PG X tg (goG X T A tg) := ⟨fun pins s σ H v u Q I r ⟨_, _, _, _, h, q⟩ => h.pe.run pins s σ H v u Q I r q⟩
theorem pgs_go {tgs : List Expr} : PGs X tgs (goGs X T A tgs) := ⟨fun pins s σ H v u Q I r ⟨_, _, _, _, h, q⟩ => h.pe.run pins s σ H v u Q I r q⟩
theorem wipe_set {σ : L2.St} {i : Nat} {v : V} : ∀ {vs : List Nat}, i ∈ vs → wipe (σ.set i (some v)) vs = wipe σ vs
  | j :: vs, h => by
    unfold wipe
    by_cases e : i ∈ vs
    · rw [wipe_set e]
    · have e2 : i = j := by
        rcases List.mem_cons.mp h with h | h
        · exact h
        · exact absurd h e
      subst e2
      apply List.ext_getElem?
      intro k
      by_cases hk : k = i
      · subst hk
        by_cases hl : k < σ.length
        · rw [List.getElem?_set_self (by rw [wipe_length, List.length_set]; exact hl), List.getElem?_set_self (by rw [wipe_length]; exact hl)]
        · rw [List.getElem?_eq_none (by rw [List.length_set, wipe_length, List.length_set]; omega), List.getElem?_eq_none (by rw [List.length_set, wipe_length]; omega)]
      · rw [List.getElem?_set_ne (Ne.symm hk), List.getElem?_set_ne (Ne.symm hk)]
        have aux : ∀ (us : List Nat), (wipe (σ.set i (some v)) us)[k]? = (wipe σ us)[k]? := by
          intro us
          induction us with
          | nil => exact List.getElem?_set_ne (Ne.symm hk)
          | cons u us ih =>
            unfold wipe
            by_cases hu : u = k
            · subst hu
              by_cases hl : u < σ.length
              · rw [List.getElem?_set_self (by rw [wipe_length, List.length_set]; exact hl), List.getElem?_set_self (by rw [wipe_length]; exact hl)]
              · rw [List.getElem?_eq_none (by rw [List.length_set, wipe_length, List.length_set]; omega), List.getElem?_eq_none (by rw [List.length_set, wipe_length]; omega)]
            · rw [List.getElem?_set_ne hu, List.getElem?_set_ne hu, ih]
        exact aux vs
theorem dg_name {vs : List Nat} {x : Str} {i : Nat} {d : D} {C : Ev → Prop} (hN : X.N.Nodup) (h : C (ρ.put i (.dat d))) (hv : i ∈ vs) (hi : slotOf X.N x = some i := by rfl) (hx : Loc X.env.scope x := by first | exact Or.inl rfl | exact Or.inr rfl)
    (hf : X.fn x = true ∨ X.env.scope.names.lookup x = some .local := by first | exact .inl rfl | exact .inr rfl | assumption) : DG X T A vs ρ (.Name x pos) d C :=
  ⟨⟨fun pins s σ H v u Q I r ⟨F, ok, rr, q⟩ => (pg_name hN (slotOf_ok hi) hx hf).run pins s σ H v u Q I r (q _ h _ F H (Same.refl _) rfl (wipe_set hv) (ok.put (r := .v d) rr))⟩⟩
theorem dgs_nil {vs : List Nat} {C : Ev → Prop} (h : C ρ) : DGs X T A vs ρ [] [] C :=
  ⟨⟨fun pins s σ H us ws Q I r ⟨F, ok, rr, q⟩ => pgs_nil.run pins s σ H us ws Q I r (by cases rr; exact ⟨rfl, q _ h _ F H (Same.refl _) rfl rfl ok⟩)⟩⟩
theorem dgs_cons {vs : List Nat} {tg : Expr} {tgs : List Expr} {d : D} {ds : List D} {C : Ev → Prop} (h : DG X T A vs ρ tg d (fun ρ1 => DGs X T A vs ρ1 tgs ds C)) (hs : (assignEach (tg :: tgs) X.env).map (·.2) = assign tg X.env :: (assignEach tgs X.env).map (·.2) := by rfl) : DGs X T A vs ρ (tg :: tgs) (d :: ds) C :=
  ⟨⟨fun pins s σ H us ws Q I r ⟨F, ok, rr, q⟩ => (pgs_cons pg_go pgs_go hs).run pins s σ H us ws Q I r (by
    cases rr with
    | cons r1 r2 =>
      exact ⟨_, _, rfl, vs, ρ, d, _, h, F, ok, r1, fun ρ1 h1 σ1 F1 H1 s1 w1 e1 ok1 => ⟨vs, ρ1, ds, C, h1, F1, ok1, by rw [w1]; exact r2.mo s1, fun ρ2 c σ2 F2 H2 s2 w2 e2 ok2 => q ρ2 c σ2 F2 H2 (s1.trans s2) (w2.trans w1) (e2.trans e1) ok2⟩⟩)⟩⟩
def tupG (X : Cx) (T : List (Addr × Str)) (A : Anc) (vs : List Nat) (ρ : Ev) (tgs : List Expr) (C : Ev → Prop) : D → Prop
  | .tup ds => ds.length = (assignEach tgs X.env).length ∧ DGs X T A vs ρ tgs ds C
  | _ => False
theorem dg_tup {vs : List Nat} {tgs : List Expr} {k : Nat} {d : D} {C : Ev → Prop} (hc : X.calm = true) (h : tupG X T A vs ρ tgs C d) (hst : (assignEach tgs X.env).findIdx? (·.1) = none := by rfl) : DG X T A vs ρ (.Tuple tgs k pos) d C :=
  ⟨⟨fun pins s σ H v u Q I r ⟨F, ok, rr, q⟩ => (pg_tup hc pgs_go rfl hst).run pins s σ H v u Q I r (by
    unfold tupG at h
    split at h
    · cases rr with
      | tup h1 t => exact ⟨_, _, rfl, sqT_mono ok.sub h1, by rw [t.len]; exact h.1, vs, ρ, _, C, h.2, F, ok, t, q⟩
    · exact h.elim)⟩⟩
/-- a, b = e -/
theorem ds_unp {tg : Expr} (h : DE X T A ρ e (fun d ρ1 => ∃ vs, DG X T A vs ρ1 tg d O.nx)) (hs : swapsWithSole [tg] e pos.line X.env = pure false := by rfl) (hw : swappedStores [tg] e X.env = pure none := by rfl)
    (h1 : (assignEach [tg] X.env).map (·.2) = [assign tg X.env] := by rfl) : DS X T A ρ (.Assign [tg] e pos) O :=
  DS.of (ps_asg pe_go pg_go hs hw h1) fun E σ H ⟨F, ok, hn, _⟩ => ⟨ρ, _, h, F, ok, fun d ρ1 ⟨vs, c⟩ v F1 H1 s1 w1 ok1 r1 => ⟨vs, ρ1, d, _, c, F1, ok1, r1, fun ρ2 c2 σ2 F2 H2 s2 w2 _ ok2 => hn ρ2 c2 σ2 F2 H2 (s1.trans s2) (mem_eq (w2.trans w1)) ok2⟩⟩
end stm
end DL
end

section
namespace DL
open PySem PySem.Spec L2
/-! ### hidden things, wiped slots -/
def wipeS (sl : List Sl) : List Nat → List Sl
  | [] => sl
  | v :: vs => (wipeS sl vs).set v .non
theorem wipeS_len (sl : List Sl) : ∀ vs : List Nat, (wipeS sl vs).length = sl.length
  | [] => rfl
  | v :: vs => by unfold wipeS; rw [List.length_set, wipeS_len sl vs]
theorem wipeS_get {sl : List Sl} {i : Nat} : ∀ {vs : List Nat}, i ∉ vs → (wipeS sl vs)[i]? = sl[i]?
  | [], _ => rfl
  | v :: vs, h => by
    unfold wipeS
    rw [List.getElem?_set_ne (fun z => h (by rw [z]; exact List.mem_cons_self)), wipeS_get fun z => h (List.mem_cons_of_mem _ z)]
theorem wipeS_in {sl : List Sl} {i : Nat} {s : Sl} : ∀ {vs : List Nat}, i ∈ vs → (wipeS sl vs)[i]? = some s → s = .non
  | v :: vs, h, e => by
    unfold wipeS at e
    rcases put_get e with ⟨_, e, _⟩ | ⟨n, e⟩
    · exact e
    · rcases List.mem_cons.mp h with h | h
      · exact absurd h n
      · exact wipeS_in h e
def noOwn (sl : List Sl) (vs : List Nat) : Bool := vs.all fun i => match sl[i]? with
  | some (.own _ _) => false
  | some (.box _ _) => false
  | _ => true
theorem noOwn_bx {sl : List Sl} {vs : List Nat} (h : noOwn sl vs = true) {i : Nat} (m : i ∈ vs) {x : Addr × Con} : ownOf sl[i]? ≠ some x := by
  intro e
  obtain ⟨s, e1, e2⟩ := ownOf_bx (a := x.1) (c := x.2) e
  have := List.all_eq_true.mp h i m
  rw [e1] at this
  cases s with
  | non => cases e2
  | dat d => cases e2
  | own a ds => cases this
  | box a c => cases this
theorem noOwn_at {sl : List Sl} {vs : List Nat} (h : noOwn sl vs = true) {i : Nat} (m : i ∈ vs) {a : Addr} {ds : List D} : sl[i]? ≠ some (.own a ds) := fun e => noOwn_bx h m (ownOf_of e rfl)
abbrev Ev.inB (ρ : Ev) (vs : List Nat) (D0 : Addr) (acc : List D) (g : Nat) : Ev := ⟨wipeS ρ.sl vs, (D0, acc) :: ρ.hid, ρ.ws, g⟩
section ok
variable {K : PySem.W.Frag} {T : List (Addr × Str)} {A : Anc} {F F' H H' : Hp} {σ σ' : L2.St} {ρ : Ev} {g : Nat} {D0 : Addr} {acc : List D} {vs : List Nat}
theorem at_hide {ρ : Ev} {x : Addr × Con} {y : Addr × Con} {p : Sum Nat Nat} (h : ({ ρ with hid := x :: ρ.hid } : Ev).at p = some y) : (p = .inr 0 ∧ y = x) ∨ ∃ q, ρ.at q = some y ∧ (∀ i, q = .inl i → p = .inl i) ∧ (∀ j, q = .inr j → p = .inr (j + 1)) := by
  cases p with
  | inl i => exact .inr ⟨.inl i, h, fun j e => (by cases e; rfl), fun j e => (by cases e)⟩
  | inr j =>
    cases j with
    | zero => exact .inl ⟨rfl, (Option.some.inj h).symm⟩
    | succ j => exact .inr ⟨.inr j, h, fun i e => (by cases e), fun i e => (by cases e; rfl)⟩
theorem at_up {ρ : Ev} {x y : Addr × Con} {q : Sum Nat Nat} (h : ρ.at q = some y) : ∃ p, ({ ρ with hid := x :: ρ.hid } : Ev).at p = some y ∧ p ≠ .inr 0 := by
  cases q with
  | inl i => exact ⟨.inl i, h, by simp⟩
  | inr j => exact ⟨.inr (j + 1), h, by simp⟩
/-- a new thing of one's own is kept aside -/
theorem Ok.hideB (ok : Ok K T A F H σ ρ) {v : V} {a : Addr} {c : Con} (gv : GvB K A F H ρ v a c) : Ok K T A F H σ { ρ with hid := (a, c) :: ρ.hid } := by
  obtain ⟨_, h1, h2, h3, h4, h5⟩ := gv
  refine ⟨ok.sub0, ok.sub, ok.keep, ok.apart, ok.there, ok.tabs, ok.wsub, ok.wnew, ok.strm, ok.slots, ok.ownS, fun p b es e => ?_, fun p q b es es' e1 e2 => ?_, ok.len⟩
  · rcases at_hide e with ⟨_, e⟩ | ⟨q, e, _⟩
    · cases e
      exact ⟨h1, h2, h3, h4⟩
    · exact ok.owns q b es e
  · rcases at_hide e1 with ⟨rfl, z1⟩ | ⟨q1, e1, i1, j1⟩
    · rcases at_hide e2 with ⟨rfl, z2⟩ | ⟨q2, e2, _⟩
      · rfl
      · cases z1
        exact absurd e2 (h5 _ _)
    · rcases at_hide e2 with ⟨rfl, z2⟩ | ⟨q2, e2, i2, j2⟩
      · cases z2
        exact absurd e1 (h5 _ _)
      · have := ok.dist q1 q2 b es es' e1 e2
        subst this
        cases q1 with
        | inl i => rw [i1 i rfl, i2 i rfl]
        | inr j => rw [j1 j rfl, j2 j rfl]
theorem Ok.hide (ok : Ok K T A F H σ ρ) {v : V} {a : Addr} {ds : List D} (gv : Gv K A F H ρ v (.l a ds)) : Ok K T A F H σ { ρ with hid := (a, .lst ds) :: ρ.hid } := ok.hideB gv
theorem Ok.unhideB {a : Addr} {ds : Con} {r : List (Addr × Con)} {sl : List Sl} {ws : List Addr} (ok : Ok K T A F H σ ⟨sl, (a, ds) :: r, ws, g⟩) : Ok K T A F H σ ⟨sl, r, ws, g⟩ ∧ GvB K A F H ⟨sl, r, ws, g⟩ (.ref a) a ds := by
  have up : ∀ {p : Sum Nat Nat} {y : Addr × Con}, (⟨sl, r, ws, g⟩ : Ev).at p = some y → ∃ q, (⟨sl, (a, ds) :: r, ws, g⟩ : Ev).at q = some y ∧ q ≠ .inr 0 := fun {p y} h => at_up (ρ := ⟨sl, r, ws, g⟩) h
  obtain ⟨h1, h2, h3, h4⟩ := ok.owns (.inr 0) a ds rfl
  refine ⟨⟨ok.sub0, ok.sub, ok.keep, ok.apart, ok.there, ok.tabs, ok.wsub, ok.wnew, ok.strm, ok.slots, ok.ownS, fun p b es e => ?_, fun p q b es es' e1 e2 => ?_, ok.len⟩, rfl, h1, h2, h3, h4, fun p es e => ?_⟩
  · obtain ⟨q, e, _⟩ := up e
    exact ok.owns q b es e
  · cases p with
    | inl i =>
      cases q with
      | inl j => exact ok.dist (.inl i) (.inl j) b es es' e1 e2
      | inr j => exact absurd (ok.dist (.inl i) (.inr (j + 1)) b es es' e1 e2) (by simp)
    | inr i =>
      cases q with
      | inl j => exact absurd (ok.dist (.inr (i + 1)) (.inl j) b es es' e1 e2) (by simp)
      | inr j =>
        have := ok.dist (.inr (i + 1)) (.inr (j + 1)) b es es' e1 e2
        simpa using this
  · obtain ⟨q, e, n⟩ := up e
    exact n (ok.dist q (.inr 0) a es ds e rfl)
theorem Ok.unhide {a : Addr} {ds : List D} {r : List (Addr × Con)} {sl : List Sl} {ws : List Addr} (ok : Ok K T A F H σ ⟨sl, (a, .lst ds) :: r, ws, g⟩) : Ok K T A F H σ ⟨sl, r, ws, g⟩ ∧ Gv K A F H ⟨sl, r, ws, g⟩ (.ref a) (.l a ds) := ok.unhideB
/-- the hidden thing at the front holds something else -/
theorem Ok.hidChg {r : List (Addr × Con)} {sl : List Sl} {ws : List Addr} {c c2 : Con} {o : HO} (ok : Ok K T A F H σ ⟨sl, (D0, c) :: r, ws, g⟩) (rd : RC K F ws o c2) : Ok K T A F (upd H D0 o) σ ⟨sl, (D0, c2) :: r, ws, g⟩ := by
  refine ok.chg (p0 := .inr 0) (a := D0) (c := c) rfl rd rfl rfl (Nat.le_refl _) (fun _ _ z => z) (fun p x q => ?_)
  cases p with
  | inl i => exact .inr ⟨by simp, q⟩
  | inr j =>
    cases j with
    | zero => exact .inl ⟨rfl, (Option.some.inj q).symm⟩
    | succ j => exact .inr ⟨by simp, q⟩
theorem Ok.hidApp {r : List (Addr × Con)} {sl : List Sl} {ws : List Addr} {d : D} {v : V} {xs : List V} (ok : Ok K T A F H σ ⟨sl, (D0, .lst acc) :: r, ws, g⟩) (e0 : H D0 = some (.lst xs)) (rd : R K F ws v d) : Ok K T A F (upd H D0 (.lst (xs ++ [v]))) σ ⟨sl, (D0, .lst (acc ++ [d])) :: r, ws, g⟩ := by
  obtain ⟨h1, h2, h3, o, h4, h5⟩ := ok.owns (.inr 0) D0 _ rfl
  rw [e0] at h4
  cases h4
  cases h5 with
  | lst t => exact ok.hidChg (.lst (t.app (.cons rd .nil)))
theorem wipe_none {σ : L2.St} {i : Nat} {v : V} {vs : List Nat} (h : i ∉ vs) (e : σ[i]? = some (some v)) : (wipe σ vs)[i]? = some (some v) := by
  rw [wipe_out h]; exact e
theorem at_wipe {sl : List Sl} {h : List (Addr × Con)} {ws : List Addr} {x : Addr × Con} {p : Sum Nat Nat} (e : (⟨wipeS sl vs, h, ws, g⟩ : Ev).at p = some x) : (⟨sl, h, ws, g⟩ : Ev).at p = some x ∧ ∀ i, p = .inl i → i ∉ vs := by
  cases p with
  | inr j => exact ⟨e, fun i z => by cases z⟩
  | inl i =>
    obtain ⟨a, c⟩ := x
    obtain ⟨s, e1, e2⟩ := at_inl (ρ := ⟨wipeS sl vs, h, ws, g⟩) e
    by_cases m : i ∈ vs
    · rw [wipeS_in m e1] at e2
      cases e2
    · rw [show (⟨wipeS sl vs, h, ws, g⟩ : Ev).sl = wipeS sl vs from rfl, wipeS_get m] at e1
      exact ⟨at_ofB (ρ := ⟨sl, h, ws, g⟩) e1 e2, fun j z => by cases z; exact m⟩
theorem Ok.wiped {sl : List Sl} {h : List (Addr × Con)} {ws : List Addr} (ok : Ok K T A F H σ ⟨sl, h, ws, g⟩) : Ok K T A F H (wipe σ vs) ⟨wipeS sl vs, h, ws, g⟩ := by
  refine ⟨ok.sub0, ok.sub, ok.keep, ok.apart, ok.there, ok.tabs, ok.wsub, ok.wnew, ok.strm, fun i d e => ?_, fun i a ds e => ?_, fun p a ds e => ok.owns p a ds (at_wipe e).1, fun p q a ds es e1 e2 => ok.dist p q a ds es (at_wipe e1).1 (at_wipe e2).1, ?_⟩
  · by_cases m : i ∈ vs
    · cases wipeS_in m e
    · rw [show (⟨wipeS sl vs, h, ws, g⟩ : Ev).sl = wipeS sl vs from rfl, wipeS_get m] at e
      obtain ⟨v, e1, r⟩ := ok.slots i d e
      exact ⟨v, wipe_none m e1, r⟩
  · obtain ⟨s, e, eb⟩ := ownOf_bx e
    by_cases m : i ∈ vs
    · rw [wipeS_in m e] at eb
      cases eb
    · rw [show (⟨wipeS sl vs, h, ws, g⟩ : Ev).sl = wipeS sl vs from rfl, wipeS_get m] at e
      exact wipe_none m (ok.ownS i a ds (ownOf_of e eb))
  · show (wipeS sl vs).length ≤ _
    rw [wipeS_len, wipe_length]
    exact ok.len
/-- behind a block's turn: the outer slots as they were -/
theorem Ok.unwiped {sl sl' : List Sl} {h : List (Addr × Con)} {ws : List Addr} {g' : Nat} (ok : Ok K T A F H σ ⟨sl, h, ws, g⟩) (s : Same F F') (ok' : Ok K T A F' H' σ' ⟨sl', h, ws, g'⟩) (e : wipeS sl' vs = wipeS sl vs) (no : noOwn sl vs = true) : Ok K T A F' H' σ ⟨sl, h, ws, g'⟩ := by
  have tr : ∀ {p : Sum Nat Nat} {x : Addr × Con}, (⟨sl, h, ws, g'⟩ : Ev).at p = some x → (⟨sl', h, ws, g'⟩ : Ev).at p = some x := fun {p x} q => by
    cases p with
    | inr j => exact q
    | inl i =>
      have m : i ∉ vs := fun m => noOwn_bx no m q
      show ownOf sl'[i]? = _
      rw [← wipeS_get m, e, wipeS_get m]
      exact q
  refine ⟨ok'.sub0, ok'.sub, ok'.keep, ok'.apart, ok'.there, ok'.tabs, ok'.wsub, ok'.wnew, ok'.strm, fun i d q => ?_, ok.ownS, fun p a ds q => ok'.owns p a ds (tr q), fun p q a ds es e1 e2 => ok'.dist p q a ds es (tr e1) (tr e2), ok.len⟩
  obtain ⟨v, e1, r⟩ := ok.slots i d q
  exact ⟨v, e1, r.mo s⟩
end ok
/-! ### what is walked -/
def Yields (X : Cx) (T : List (Addr × Str)) (A : Anc) (J : It) (F : Hp) (ws : List Addr) (ds : List D) : Prop :=
  (∀ i F1 H1, Same F F1 → Same F1 H1 → i < ds.length → J.go i H1) ∧ (∀ i F1 H1, Same F F1 → Same F1 H1 → ds.length = i → J.stop i H1) ∧
  (∀ i d F1 H1 σ ρ x H2, ds[i]? = some d → Same F F1 → Ok X.K T A F1 H1 σ ρ → (∀ a ∈ ws, a ∈ ρ.ws) → J.yld i H1 x H2 → ∃ F2, Same F1 F2 ∧ Ok X.K T A F2 H2 σ ρ ∧ R X.K F2 ρ.ws x d)
structure DI (X : Cx) (T : List (Addr × Str)) (A : Anc) (ρ : Ev) (tg iter : Expr) (C : CL) : Prop where
  pe : PI X tg iter (fun σ H R => ∃ F, Ok X.K T A F H σ ρ ∧ ∀ ds ρ', C ds ρ' → ∀ J F' H', Same F F' → ρ'.ws = ρ.ws → Ok X.K T A F' H' σ ρ' → Yields X T A J F' ρ'.ws ds → R J H')
def goI (X : Cx) (T : List (Addr × Str)) (A : Anc) (tg iter : Expr) : TI := fun σ H R => ∃ ρ C, DI X T A ρ tg iter C ∧ ∃ F, Ok X.K T A F H σ ρ ∧ ∀ ds ρ', C ds ρ' → ∀ J F' H', Same F F' → ρ'.ws = ρ.ws → Ok X.K T A F' H' σ ρ' → Yields X T A J F' ρ'.ws ds → R J H'
section loops
variable {X : Cx} {T : List (Addr × Str)} {A : Anc} {ρ : Ev} {a b c e tg iter elt : Expr} {es rest ifs : List Expr} {pos p : Pos} {O : DO} {body : List Stmt}
theorem pi_go : PI X tg iter (goI X T A tg iter) := ⟨fun pins s σ H R I ⟨_, _, h, q⟩ => h.pe.run pins s σ H R I q⟩
theorem yields_list {K : PySem.W.Frag} (hK : X.K = K) {F : Hp} {ws : List Addr} {p : Addr} {xs : List V} {ds : List D} (h : SqL X.K F p xs) (t : Rs X.K F ws xs ds) : Yields X T A (Itl X.K p) F ws ds := by
  refine ⟨fun i F1 H1 s1 s2 l => ?_, fun i F1 H1 s1 s2 l => ?_, fun i d F1 H1 σ ρ x H2 e s1 ok w y => ?_⟩
  · have hl : i < xs.length := by rw [t.len]; exact l
    exact ⟨xs, xs[i], sqL_mono (s1.trans s2) h, List.getElem?_eq_getElem hl⟩
  · exact ⟨xs, sqL_mono (s1.trans s2) h, by rw [t.len]; exact Nat.le_of_eq l⟩
  · obtain ⟨rfl, y⟩ := y
    obtain ⟨v, e1, r⟩ := t.get e
    have e2 := y xs (sqL_mono (s1.trans ok.sub) h)
    rw [e1] at e2
    cases e2
    exact ⟨F1, Same.refl _, ok, R.mono s1 w d _ r⟩
theorem yields_tup {F : Hp} {ws : List Addr} {p : Addr} {xs : List V} {ds : List D} (h : SqT X.K F p xs) (t : Rs X.K F ws xs ds) : Yields X T A (Itt X.K p) F ws ds := by
  refine ⟨fun i F1 H1 s1 s2 l => ?_, fun i F1 H1 s1 s2 l => ?_, fun i d F1 H1 σ ρ x H2 e s1 ok w y => ?_⟩
  · have hl : i < xs.length := by rw [t.len]; exact l
    exact ⟨xs, xs[i], sqT_mono (s1.trans s2) h, List.getElem?_eq_getElem hl⟩
  · exact ⟨xs, sqT_mono (s1.trans s2) h, by rw [t.len]; exact Nat.le_of_eq l⟩
  · obtain ⟨rfl, y⟩ := y
    obtain ⟨v, e1, r⟩ := t.get e
    have e2 := y xs (sqT_mono (s1.trans ok.sub) h)
    rw [e1] at e2
    cases e2
    exact ⟨F1, Same.refl _, ok, R.mono s1 w d _ r⟩
/-- a list or a tuple, walked -/
def iSeq (K : PySem.W.Frag) (tl : TE) : TI := fun σ H R => tl σ H fun x H1 => ∃ a, x = .ref a ∧ (((∃ xs, SqL K H1 a xs) ∧ R (Itl K a) H1) ∨ ((∃ xs, SqT K H1 a xs) ∧ R (Itt K a) H1))
theorem pi_seq {tl : TE} (hl : PE X iter tl) : PI X tg iter (iSeq X.K tl) := by
  refine ⟨fun pins s σ H R I h => ?_⟩
  refine thn (hl.run pins s σ H _ I h) fun v s1 ⟨x, H1, I1, r1, q1⟩ => ?_
  obtain ⟨a, rfl, q⟩ := q1
  cases r1
  rcases q with ⟨⟨xs, hq⟩, q⟩ | ⟨⟨xs, hq⟩, q⟩
  · obtain ⟨its, rv, p, hz⟩ := I1.list hq
    refine wpAny_pyIter_list p.isList ⟨s1.heap.objs.size, [s1.heap.objs.size], _, _, H1, rfl, I1.kept (t' := s1.toks) fun b o e => Heap.get?_push_of_some _ e, turn_list a _, ⟨_, Heap.get?_push_size _ rfl, rfl, rfl⟩, fun b hb => ?_, q⟩
    cases List.mem_singleton.mp hb
    exact I1.fpOk (Nat.le_refl _) (I1.hok.fresh (Nat.le_refl _))
  · obtain ⟨its, rv, p, hz⟩ := I1.tuple hq
    refine wpAny_pyIter_tuple (show s1.heap.IsTuple a its.toArray from p) ⟨s1.heap.objs.size, [s1.heap.objs.size], _, _, H1, rfl, I1.kept (t' := s1.toks) fun b o e => Heap.get?_push_of_some _ e, turn_tuple a _, ⟨_, Heap.get?_push_size _ rfl, rfl, rfl⟩, fun b hb => ?_, q⟩
    cases List.mem_singleton.mp hb
    exact I1.fpOk (Nat.le_refl _) (I1.hok.fresh (Nat.le_refl _))
theorem di_seq {C : CL} (h : DE X T A ρ iter (fun d ρ1 => ∃ ds, seqD d = some ds ∧ C ds ρ1)) : DI X T A ρ tg iter C :=
  ⟨⟨fun pins s σ H R I ⟨F, ok, q⟩ => (pi_seq (pe_go (T := T) (A := A))).run pins s σ H R I ⟨ρ, _, h, F, ok, fun d ρ1 ⟨ds, e1, c⟩ v F1 H1 s1 w1 ok1 r1 => by
    cases r1 with
    | lst h t => cases e1; exact ⟨_, rfl, .inl ⟨⟨_, .of (ok1.sub _ _ h)⟩, q _ _ c _ F1 H1 s1 w1 ok1 (yields_list rfl (.of h) t)⟩⟩
    | kl h t => cases e1; exact ⟨_, rfl, .inl ⟨⟨_, sqL_mono ok1.sub h⟩, q _ _ c _ F1 H1 s1 w1 ok1 (yields_list rfl h t)⟩⟩
    | tup h t => cases e1; exact ⟨_, rfl, .inr ⟨⟨_, sqT_mono ok1.sub h⟩, q _ _ c _ F1 H1 s1 w1 ok1 (yields_tup h t)⟩⟩
    | _ => cases e1⟩⟩⟩
def rngD (lo : Int) (n : Nat) : List D := (List.range n).map fun (k : Nat) => D.int (lo + (k : Int))
theorem yields_rng {F : Hp} {ws : List Addr} {lo : Int} {n : Nat} : Yields X T A (Itr lo n) F ws (rngD lo n) := by
  have hl : (rngD lo n).length = n := by unfold rngD; rw [List.length_map, List.length_range]
  refine ⟨fun i F1 H1 s1 s2 l => ?_, fun i F1 H1 s1 s2 l => ?_, fun i d F1 H1 σ ρ x H2 e s1 ok w y => ?_⟩
  · rw [hl] at l; exact l
  · rw [hl] at l; exact Nat.le_of_eq l
  · obtain ⟨rfl, rfl⟩ := y
    have e1 : d = .int (lo + i) := by
      unfold rngD at e
      rw [List.getElem?_map] at e
      obtain ⟨k, e2, rfl⟩ := Option.map_eq_some_iff.mp e
      obtain ⟨l, e3⟩ := List.getElem?_eq_some_iff.mp e2
      rw [List.getElem_range] at e3
      rw [e3]
    subst e1
    exact ⟨F1, Same.refl _, ok, .int _⟩
def rng1D (C : CL) : List D → Ev → Prop
  | [.int j], ρ => -(2 ^ 62) ≤ j ∧ j < 2 ^ 62 ∧ C (rngD 0 j.toNat) ρ
  | _, _ => False
theorem di_rng1 {C : CL} (hm : X.mg "range" = none) (h : DA X T A ρ [a] (fun ds ρ1 => rng1D C ds ρ1)) (hg : Gl X "range" := by rfl) (hs : starEach [a] X.env = [(false, eval a X.env)] := by rfl) : DI X T A ρ tg (.Call (.Name "range" p) [a] [] pos) C :=
  ⟨⟨fun pins s σ H R I ⟨F, ok, q⟩ => (pi_range1 hg hm (pa_go (T := T) (A := A)) hs).run pins s σ H R I ⟨ρ, _, h, F, ok, fun ds ρ1 c vs F1 H1 s1 w1 ok1 r1 => by
    replace c : rng1D C ds ρ1 := c
    unfold rng1D at c
    split at c
    · obtain ⟨v, rfl, r⟩ := r1.one
      cases r
      exact ⟨_, rfl, c.1, c.2.1, q _ _ c.2.2 _ F1 H1 s1 w1 ok1 yields_rng⟩
    · exact c.elim⟩⟩⟩
def rng2D (C : CL) : List D → Ev → Prop
  | [.int i, .int j], ρ => (-(2 ^ 62) ≤ i ∧ i < 2 ^ 62 ∧ -(2 ^ 62) ≤ j ∧ j < 2 ^ 62) ∧ C (rngD i (j - i).toNat) ρ
  | _, _ => False
theorem di_rng2 {C : CL} (hm : X.mg "range" = none) (h : DA X T A ρ [a, b] (fun ds ρ1 => rng2D C ds ρ1)) (hg : Gl X "range" := by rfl) (hs : starEach [a, b] X.env = [(false, eval a X.env), (false, eval b X.env)] := by rfl) (hs2 : starEach [b] X.env = [(false, eval b X.env)] := by rfl) : DI X T A ρ tg (.Call (.Name "range" p) [a, b] [] pos) C :=
  ⟨⟨fun pins s σ H R I ⟨F, ok, q⟩ => (pi_range2 hg hm (pa_go (T := T) (A := A)) hs hs2).run pins s σ H R I ⟨ρ, _, h, F, ok, fun ds ρ1 c vs F1 H1 s1 w1 ok1 r1 => by
    replace c : rng2D C ds ρ1 := c
    unfold rng2D at c
    split at c
    · obtain ⟨v, u, rfl, r, r'⟩ := r1.two
      cases r
      cases r'
      exact ⟨_, _, rfl, c.1, q _ _ c.2 _ F1 H1 s1 w1 ok1 yields_rng⟩
    · exact c.elim⟩⟩⟩
/-! ### for, while -/
theorem ds_for (hp : PassesOwn (model X.prog X.w) X.A X.env X.xe) (hc : X.calm = true)
    (h : DI X T A ρ tg iter (fun ds ρ1 => ∃ I : Nat → Ev → Prop, I 0 ρ1 ∧ (∀ i d ρ2, ds[i]? = some d → I i ρ2 → ∃ vs, DG X T A vs ρ2 tg d (fun ρ3 => DSs X T A ρ3 body { O with nx := I (i + 1), ct := I (i + 1), bk := O.nx })) ∧ (∀ ρ2, I ds.length ρ2 → O.nx ρ2)))
    (hs : ∀ x, foldedSetIterable iter X.env x = pure x := by intro _; rfl) : DS X T A ρ (.For tg iter body [] pos) O :=
  DS.of (ps_for hp hc pi_go pg_go pss_go hs) fun E σ H ⟨F, ok, hn, hr, _, _⟩ => ⟨ρ, _, h, F, ok, fun ds ρ1 ⟨I, i0, it, ie⟩ J F1 H1 s1 w1 ok1 y => by
    refine ⟨fun i m σ2 H2 => m = ds.length - i ∧ i ≤ ds.length ∧ ∃ F2 ρ2, Same F1 F2 ∧ (∀ a ∈ ρ1.ws, a ∈ ρ2.ws) ∧ Ok X.K T A F2 H2 σ2 ρ2 ∧ I i ρ2, ⟨_, rfl, Nat.zero_le _, F1, ρ1, Same.refl _, fun _ z => z, ok1, i0⟩, ?_⟩
    rintro i m σ2 H2 ⟨rfl, hi, F2, ρ2, s2, w2, ok2, i2⟩
    have w0 : ∀ a ∈ ρ.ws, a ∈ ρ2.ws := fun a m => w2 a (mem_eq w1 a m)
    by_cases hl : i < ds.length
    · refine .inr ⟨y.1 i F2 H2 s2 ok2.sub hl, fun σ3 H3 => ∃ F3 ρ3, Same F2 F3 ∧ (∀ a ∈ ρ2.ws, a ∈ ρ3.ws) ∧ Ok X.K T A F3 H3 σ3 ρ3 ∧ I (i + 1) ρ3, fun σ3 H3 ⟨F3, ρ3, s3, w3, ok3, i3⟩ => ⟨ds.length - (i + 1), by omega, rfl, hl, F3, ρ3, s2.trans s3, fun a m => w3 a (w2 a m), ok3, i3⟩, fun x H3 hy => ?_⟩
      have ed : ds[i]? = some ds[i] := List.getElem?_eq_getElem hl
      obtain ⟨F3, s3, ok3, r3⟩ := y.2.2 i _ F2 H2 σ2 ρ2 x H3 ed s2 ok2 w2 hy
      obtain ⟨vs, g⟩ := it i _ ρ2 ed i2
      refine ⟨vs, ρ2, _, _, g, F3, ok3, r3, fun ρ4 c4 σ4 F4 H4 s4 w4 _ ok4 => ?_⟩
      refine ⟨ρ4, _, c4, F4, ok4, fun ρ5 c5 σ5 F5 H5 s5 w5 ok5 => ?_, fun r ρ5 c5 v σ5 F5 H5 ok5 g5 => ?_, fun ρ5 c5 σ5 F5 H5 s5 w5 ok5 => ?_, fun ρ5 c5 σ5 F5 H5 s5 w5 ok5 => ?_⟩
      · exact ⟨F5, ρ5, s3.trans (s4.trans s5), fun a m => w5 a (mem_eq w4 a m), ok5, c5⟩
      · exact hr r ρ5 c5 v σ5 F5 H5 ok5 g5
      · exact hn ρ5 c5 σ5 F5 H5 (s1.trans (s2.trans (s3.trans (s4.trans s5)))) (fun a m => w5 a (mem_eq w4 a (w0 a m))) ok5
      · exact ⟨F5, ρ5, s3.trans (s4.trans s5), fun a m => w5 a (mem_eq w4 a m), ok5, c5⟩
    · have ei : i = ds.length := by omega
      subst ei
      exact .inl ⟨y.2.1 _ F2 H2 s2 ok2.sub rfl, hn ρ2 (ie ρ2 i2) σ2 F2 H2 (s1.trans s2) w0 ok2⟩⟩
theorem ds_while (hp : PassesOwn (model X.prog X.w) X.A X.env X.xe) (I : Nat → Ev → Prop) (h0 : ∃ m, I m ρ)
    (h : ∀ m ρ1, I m ρ1 → DT X T A ρ1 c (fun k ρ2 => branch (DSs X T A ρ2 body { O with nx := fun ρ3 => ∃ m', m' < m ∧ I m' ρ3, ct := fun ρ3 => ∃ m', m' < m ∧ I m' ρ3, bk := O.nx }) (O.nx ρ2) k)) : DS X T A ρ (.While c body [] pos) O :=
  DS.of (ps_while hp (pt_go (T := T) (A := A)) (pss_go (T := T) (A := A))) fun E σ H ⟨F, ok, hn, hr, _, _⟩ => by
    obtain ⟨m0, i0⟩ := h0
    refine ⟨fun m σ2 H2 => ∃ F2 ρ2, Same F F2 ∧ (∀ a ∈ ρ.ws, a ∈ ρ2.ws) ∧ Ok X.K T A F2 H2 σ2 ρ2 ∧ I m ρ2, ⟨m0, F, ρ, Same.refl _, fun _ z => z, ok, i0⟩, ?_⟩
    rintro m σ2 H2 ⟨F2, ρ2, s2, w2, ok2, i2⟩
    refine ⟨ρ2, _, h m ρ2 i2, F2, ok2, fun k ρ3 c3 F3 H3 s3 w3 ok3 => ?_⟩
    have w0 : ∀ a ∈ ρ.ws, a ∈ ρ3.ws := fun a m => mem_eq w3 a (w2 a m)
    cases k with
    | false =>
      dsimp only
      rw [if_neg Bool.false_ne_true]
      exact hn ρ3 (c3.2 rfl) σ2 F3 H3 (s2.trans s3) w0 ok3
    | true =>
      dsimp only
      rw [if_pos rfl]
      refine ⟨fun σ4 H4 => ∃ m', m' < m ∧ ∃ F4 ρ4, Same F F4 ∧ (∀ a ∈ ρ.ws, a ∈ ρ4.ws) ∧ Ok X.K T A F4 H4 σ4 ρ4 ∧ I m' ρ4, fun _ _ z => z, ρ3, _, c3.1 rfl, F3, ok3, fun ρ5 ⟨m', hm, c5⟩ σ5 F5 H5 s5 w5 ok5 => ?_, fun r ρ5 c5 v σ5 F5 H5 ok5 g5 => ?_, fun ρ5 c5 σ5 F5 H5 s5 w5 ok5 => ?_, fun ρ5 ⟨m', hm, c5⟩ σ5 F5 H5 s5 w5 ok5 => ?_⟩
      · exact ⟨m', hm, F5, ρ5, s2.trans (s3.trans s5), fun a m => w5 a (w0 a m), ok5, c5⟩
      · exact hr r ρ5 c5 v σ5 F5 H5 ok5 g5
      · exact hn ρ5 c5 σ5 F5 H5 (s2.trans (s3.trans s5)) (fun a m => w5 a (w0 a m)) ok5
      · exact ⟨m', hm, F5, ρ5, s2.trans (s3.trans s5), fun a m => w5 a (w0 a m), ok5, c5⟩
end loops
end DL
end

section
namespace DL
open PySem PySem.Spec L2
/-! ### comprehensions -/
structure DTs (X : Cx) (T : List (Addr × Str)) (A : Anc) (ρ : Ev) (ifs : List Expr) (C : CB) : Prop where pe : PTs X ifs (tT X T A ρ C)
theorem wipe_id {W : L2.St} : ∀ us : List Nat, (∀ u ∈ us, ∀ x, W[u]? ≠ some (some x)) → wipe W us = W
  | [], _ => rfl
  | u :: us, h => by
    have ih := wipe_id us fun z m => h z (List.mem_cons_of_mem _ m)
    show (wipe W us).set u none = W
    rw [ih]
    apply List.ext_getElem?
    intro k
    by_cases hk : u = k
    · subst hk
      by_cases hl : u < W.length
      · rw [List.getElem?_set_self hl]
        cases q : W[u]? with
        | none =>
          rw [List.getElem?_eq_none_iff] at q
          omega
        | some z =>
          cases z with
          | none => rfl
          | some z => exact absurd q (h u List.mem_cons_self z)
      · rw [List.getElem?_eq_none (by rw [List.length_set]; omega), List.getElem?_eq_none (by omega)]
    · rw [List.getElem?_set_ne hk]
section comp
variable {X : Cx} {T : List (Addr × Str)} {A : Anc} {ρ : Ev} {a b c e tg iter elt : Expr} {es rest ifs : List Expr} {pos p : Pos} {scope : Scope}
theorem dts_nil {B : CB} (h : B true ρ) : DTs X T A ρ [] B := ⟨⟨fun pins s σ H Q I ⟨F, ok, q⟩ => pts_nil.run pins s σ H Q I (q _ _ h F H (Same.refl _) rfl ok)⟩⟩
theorem dts_one {B : CB} (h : DT X T A ρ c B) : DTs X T A ρ [c] B := ⟨pts_one h.pe⟩
/-- in every block of the scope -/
abbrev Blk (X : Cx) (scope : Scope) (P : Cx → Prop) : Prop := ∀ (s : Shared) (H : Hp) (Cc : Addr) (cl : List (Str × Addr)) (fp : List Addr), P (X.blk s H scope (compEnvC scope cl Cc X.env) fp)
def goGB (X : Cx) (T : List (Addr × Str)) (A : Anc) (scope : Scope) (tg : Expr) : TG := fun v σ H Q => ∃ vs ρ d C, (Blk X scope fun X' => DG X' T A vs ρ tg d C) ∧ ∃ F, Ok X.K T A F H σ ρ ∧ R X.K F ρ.ws v d ∧ ∀ ρ', C ρ' → ∀ σ' F' H', Same F F' → ρ'.ws = ρ.ws → wipe σ' vs = wipe σ vs → Ok X.K T A F' H' σ' ρ' → Q σ' H'
def goTB (X : Cx) (T : List (Addr × Str)) (A : Anc) (scope : Scope) (ifs : List Expr) : TT := fun σ H Q => ∃ ρ C, (Blk X scope fun X' => DTs X' T A ρ ifs C) ∧ tT X T A ρ C σ H Q
def goEB (X : Cx) (T : List (Addr × Str)) (A : Anc) (scope : Scope) (e : Expr) : TE := fun σ H Q => ∃ ρ C, (Blk X scope fun X' => DE X' T A ρ e C) ∧ tD X T A ρ C σ H Q
/-- a turn's element: what is known behind it -/
def Kept (ρ : Ev) (own : List (Str × Nat)) (D0 : Addr) (acc : List D) (I : List D → Nat → Prop) (acc' : List D) (ρ5 : Ev) : Prop :=
  ρ5.hid = (D0, .lst acc) :: ρ.hid ∧ wipeS ρ5.sl (own.map (·.2)) = wipeS ρ.sl (own.map (·.2)) ∧ I acc' ρ5.g
def LcD (X : Cx) (T : List (Addr × Str)) (A : Anc) (scope : Scope) (own : List (Str × Nat)) (tg elt : Expr) (ifs : List Expr) (C : CV) (ds : List D) (ρ1 : Ev) : Prop :=
  ∃ I : Nat → List D → Nat → Prop, noOwn ρ1.sl (own.map (·.2)) = true ∧ I 0 [] ρ1.g ∧ ds.length < sizeLine ∧
    (∀ i d (acc : List D) g D0, ds[i]? = some d → acc.length ≤ i → I i acc g → Blk X scope fun X' => DG X' T A (own.map (·.2)) (ρ1.inB (own.map (·.2)) D0 acc g) tg d (fun ρ3 => Blk X scope fun X' => DTs X' T A ρ3 ifs (fun k ρ4 =>
      branch (Blk X scope fun X' => DE X' T A ρ4 elt (fun y ρ5 => Kept ρ1 own D0 acc (I (i + 1)) (acc ++ [y]) ρ5)) (Kept ρ1 own D0 acc (I (i + 1)) acc ρ4) k))) ∧
    (∀ acc g, I ds.length acc g → ∀ a, C (.l a acc) (ρ1.gas g))
theorem lc_read {own : List (Str × Nat)} {C : CV} (h : DI X T A ρ tg iter (fun ds ρ1 => LcD X T A scope own tg elt ifs C ds ρ1)) (σ : L2.St) (H : Hp) (Q : VK) (F : Hp) (ok : Ok X.K T A F H σ ρ)
    (q : ∀ r ρ', C r ρ' → ∀ v F' H', Same F F' → ρ'.ws = ρ.ws → Ok X.K T A F' H' σ ρ' → Gv X.K A F' H' ρ' v r → Q v H') : tLc (goI X T A tg iter) (goGB X T A scope tg) (goTB X T A scope ifs) (goEB X T A scope elt) (own.map (·.2)) σ H Q := by
  refine ⟨ρ, _, h, F, ok, fun ds ρ1 ⟨I, no, i0, hz, it, ie⟩ J F1 H1 s1 w1 ok1 y D0 hD => ?_⟩
  obtain ⟨okD, gD⟩ := ok1.mine hD (ds := []) .nil
  have ok0 := okD.hide gD
  refine ⟨fun i m H2 => m = ds.length - i ∧ i ≤ ds.length ∧ ∃ (F2 : Hp) (acc : List D) (g : Nat), Same F1 F2 ∧ acc.length ≤ i ∧ Ok X.K T A F2 H2 σ ⟨ρ1.sl, (D0, acc) :: ρ1.hid, ρ1.ws, g⟩ ∧ I i acc g, ⟨_, rfl, Nat.zero_le _, F1, [], ρ1.g, Same.refl _, Nat.le_refl _, ok0, i0⟩, ?_⟩
  rintro i m H2 ⟨rfl, hi, F2, acc, g, s2, ha, ok2, i2⟩
  by_cases hl : i < ds.length
  · refine .inr ⟨y.1 i F2 H2 s2 ok2.sub hl, fun H3 => ∃ (F3 : Hp) (acc : List D) (g : Nat), Same F1 F3 ∧ acc.length ≤ i + 1 ∧ Ok X.K T A F3 H3 σ ⟨ρ1.sl, (D0, acc) :: ρ1.hid, ρ1.ws, g⟩ ∧ I (i + 1) acc g, fun H3 ⟨F3, acc', g', s3, ha', ok3, i3⟩ => ⟨ds.length - (i + 1), by omega, rfl, hl, F3, acc', g', s3, ha', ok3, i3⟩, fun x H3 hy => ?_⟩
    have ed : ds[i]? = some ds[i] := List.getElem?_eq_getElem hl
    obtain ⟨F3, s3, ok3, r3⟩ := y.2.2 i _ F2 H2 σ _ x H3 ed s2 ok2 (fun _ z => z) hy
    have okB : Ok X.K T A F3 H3 (wipe σ (own.map (·.2))) (ρ1.inB (own.map (·.2)) D0 acc g) := ok3.wiped
    have gg := it i _ acc g D0 ed ha i2
    refine ⟨own.map (·.2), _, _, _, gg, F3, okB, r3, fun ρ4 c4 σ4 F4 H4 s4 w4 e4 ok4 => ⟨?_, ?_⟩⟩
    · rw [e4]
      exact wipe_id _ fun u m x e => absurd m (wipe_some e).2
    · have hw4 : ρ4.ws = ρ1.ws := w4
      refine ⟨ρ4, _, c4, F4, ok4, fun k ρ5 c5 F5 H5 s5 w5 ok5 => ?_⟩
      have hw5 : ρ5.ws = ρ1.ws := w5.trans hw4
      cases k with
      | false =>
        dsimp only
        rw [if_neg Bool.false_ne_true]
        obtain ⟨e1, e2, e3⟩ := c5.2 rfl
        obtain ⟨sl5, hid5, ws5, g5⟩ := ρ5
        cases e1
        cases hw5
        exact ⟨F5, acc, g5, s2.trans (s3.trans (s4.trans s5)), by omega, ok3.unwiped (s4.trans s5) ok5 e2 no, e3⟩
      | true =>
        dsimp only
        rw [if_pos rfl]
        refine ⟨ρ5, _, c5.1 rfl, F5, ok5, fun d ρ6 ⟨e1, e2, e3⟩ v F6 H6 s6 w6 ok6 r6 => ?_⟩
        obtain ⟨sl6, hid6, ws6, g6⟩ := ρ6
        cases e1
        have hw6 : ws6 = ρ1.ws := w6.trans hw5
        subst hw6
        have ok7 := ok3.unwiped (s4.trans (s5.trans s6)) ok6 e2 no
        obtain ⟨_, _, _, o4, e4, r4⟩ := ok7.owns (.inr 0) D0 (.lst acc) rfl
        obtain ⟨xs, rfl, t4⟩ := r4.list
        have l4 := t4.len
        refine ⟨xs, e4, by omega, F6, acc ++ [d], g6, s2.trans (s3.trans (s4.trans (s5.trans s6))), by rw [List.length_append, List.length_singleton]; omega, ok7.hidApp e4 r6, e3⟩
  · have ei : i = ds.length := by omega
    subst ei
    obtain ⟨ok3, gv⟩ := ok2.unhide
    exact .inl ⟨y.2.1 _ F2 H2 s2 ok2.sub rfl, q _ _ (ie acc g i2 D0) _ F2 H2 (s1.trans s2) w1 ok3 gv⟩
theorem dv_lc {own : List (Str × Nat)} {C : CV} (hc : X.calm = true) (hN : X.N.Nodup) (ok : BlkOk X.N X.env.scope scope own) (h : DI X T A ρ tg iter (fun ds ρ1 => LcD X T A scope own tg elt ifs C ds ρ1))
    (hs : ∀ x, foldedSetIterable iter X.env x = pure x := by intro _; rfl) : DV X T A ρ (.ListComp elt [⟨tg, iter, ifs, 0⟩] scope pos) C :=
  DV.of (pe_lc (g := goGB X T A scope tg) (tt := goTB X T A scope ifs) (te := goEB X T A scope elt) hc hN pi_go ok
    (fun s H Cc cl fp => ⟨fun pins s' σ H' v u Q I r ⟨_, _, _, _, h, q⟩ => (h s H Cc cl fp).pe.run pins s' σ H' v u Q I r q⟩)
    (fun s H Cc cl fp => ⟨fun pins s' σ H' Q I ⟨_, _, h, q⟩ => (h s H Cc cl fp).pe.run pins s' σ H' Q I q⟩)
    (fun s H Cc cl fp => ⟨fun pins s' σ H' Q I ⟨_, _, h, q⟩ => (h s H Cc cl fp).pe.run pins s' σ H' Q I q⟩) hs) (lc_read h)
/-- name = [..], the name a local -/
theorem ds_setLc {own : List (Str × Nat)} {O : DO} {y : Str} {py spos : Pos} {i : Nat} (hc : X.calm = true) (hN : X.N.Nodup) (ok : BlkOk X.N X.env.scope scope own) (hyl : X.env.scope.names.lookup y = some .local)
    (hsw : swapsWith (.ListComp elt [⟨tg, iter, ifs, 0⟩] scope pos) (some (.Name y py)) spos.line X.env = pure true)
    (h : DI X T A ρ tg iter (fun ds ρ1 => LcD X T A scope own tg elt ifs (fun r ρ2 => O.nx (ρ2.put i (.of r))) ds ρ1)) (hi : slotOf X.N y = some i := by rfl)
    (hs : ∀ x, foldedSetIterable iter X.env x = pure x := by intro _; rfl) : DS X T A ρ (.Assign [.Name y py] (.ListComp elt [⟨tg, iter, ifs, 0⟩] scope pos) spos) O :=
  DS.of (ps_setLc (g := goGB X T A scope tg) (tt := goTB X T A scope ifs) (te := goEB X T A scope elt) hc hN (slotOf_ok hi) hyl hsw pi_go ok
    (fun s H Cc cl fp => ⟨fun pins s' σ H' v u Q I r ⟨_, _, _, _, h, q⟩ => (h s H Cc cl fp).pe.run pins s' σ H' v u Q I r q⟩)
    (fun s H Cc cl fp => ⟨fun pins s' σ H' Q I ⟨_, _, h, q⟩ => (h s H Cc cl fp).pe.run pins s' σ H' Q I q⟩)
    (fun s H Cc cl fp => ⟨fun pins s' σ H' Q I ⟨_, _, h, q⟩ => (h s H Cc cl fp).pe.run pins s' σ H' Q I q⟩) hs) fun E σ H ⟨F, ok, hn, _⟩ => by
    have := lc_read h σ H (fun v H' => E.nx (σ.set i (some v)) H') F ok fun r ρ' c v F' H' s w ok' gv => hn _ c _ F' H' s (mem_eq w) (ok'.put gv)
    exact this
end comp
end DL
end

section
namespace DL
open PySem PySem.Spec L2
/-! ### one's own list at a slot -/
section own
variable {X : Cx} {T : List (Addr × Str)} {A : Anc} {ρ : Ev} {a b c e : Expr} {es rest : List Expr} {pos p : Pos} {O : DO} {C : CD} {x : Str} {i : Nat}
def ownAt (ρ : Ev) (i : Nat) (P : Addr → List D → Prop) : Prop := match ρ.sl[i]? with
  | some (.own a ds) => P a ds
  | _ => False
theorem ownAt_ok {ρ : Ev} {P : Addr → List D → Prop} (h : ownAt ρ i P) : ∃ a ds, ρ.sl[i]? = some (.own a ds) ∧ P a ds := by
  unfold ownAt at h
  split at h
  · exact ⟨_, _, by assumption, h⟩
  · exact h.elim
theorem pvS {x : Str} {i : Nat} {pos : Pos} (hi : slotOf X.N x = some i := by rfl) (hv : Vis X.env.scope x := by first | exact Or.inl rfl | exact Or.inr (Or.inl rfl) | exact Or.inr (Or.inr rfl)) (hd : (x == ("__debug__" : Str)) = false := by decide) (hcd : (x == ("__classdict__" : Str)) = false := by decide) : PE X (.Name x pos) (tVar i) := pe_var (slotOf_ok hi) hv hd hcd
/-- x.append(e): hm by pe_bm -/
theorem ds_append {call : Expr} {spos : Pos} (hm : ∀ t, PA X [e] t → PE X call (tBM X.K "list" rAppend (tVar i) t)) (hst : starEach [e] X.env = (false, eval e X.env) :: starEach [] X.env) (hs : swapsWith call none spos.line X.env = pure false)
    (h0 : ownAt ρ i fun _ _ => True) (h : DE X T A ρ e (fun d ρ1 => ownAt ρ1 i fun a ds => ds.length < sizeLine ∧ O.nx (ρ1.put i (.own a (ds ++ [d]))))) : DS X T A ρ (.Expr call spos) O :=
  DS.of (ps_expr (hm _ (pa_cons pe_go pa_nil hst)) hs) fun E σ H ⟨F, ok, hn, _⟩ => by
    obtain ⟨a0, ds0, e0, _⟩ := ownAt_ok h0
    obtain ⟨f1, f2, f3, vs, f4, f5⟩ := ok.ownL e0
    refine ⟨.ref a0, ok.ownSL e0, .inl ⟨rfl, _, .of f4⟩, ρ, _, h, F, ok, fun d ρ1 h1 v F1 H1 s1 w1 ok1 r1 => ?_⟩
    obtain ⟨a, ds, e1, hz, c⟩ := ownAt_ok h1
    have e2 := ok1.ownSL e1
    rw [ok.ownSL e0] at e2
    cases e2
    obtain ⟨g1, g2, g3, us, g4, g5⟩ := ok1.ownL e1
    exact ⟨a0, us, v, rfl, rfl, g4, by rw [g5.len]; exact hz, hn _ c σ F1 _ s1 (mem_eq w1) (ok1.ownUpd e1 (g5.app (.cons r1 .nil)))⟩
/-- x.extend(e), e a list -/
theorem ds_extend {call : Expr} {spos : Pos} (hm : ∀ t, PA X [e] t → PE X call (tBM X.K "list" rExtend (tVar i) t)) (hst : starEach [e] X.env = (false, eval e X.env) :: starEach [] X.env) (hs : swapsWith call none spos.line X.env = pure false)
    (h0 : ownAt ρ i fun _ _ => True) (h : DE X T A ρ e (fun d ρ1 => ownAt ρ1 i fun a ds => ∃ fs, d = .lst fs ∧ ds.length + fs.length ≤ sizeLine ∧ O.nx (ρ1.put i (.own a (ds ++ fs))))) : DS X T A ρ (.Expr call spos) O :=
  DS.of (ps_expr (hm _ (pa_cons pe_go pa_nil hst)) hs) fun E σ H ⟨F, ok, hn, _⟩ => by
    obtain ⟨a0, ds0, e0, _⟩ := ownAt_ok h0
    obtain ⟨f1, f2, f3, vs, f4, f5⟩ := ok.ownL e0
    refine ⟨.ref a0, ok.ownSL e0, .inl ⟨rfl, _, .of f4⟩, ρ, _, h, F, ok, fun d ρ1 h1 v F1 H1 s1 w1 ok1 r1 => ?_⟩
    obtain ⟨a, ds, e1, fs, rfl, hz, c⟩ := ownAt_ok h1
    have e2 := ok1.ownSL e1
    rw [ok.ownSL e0] at e2
    cases e2
    obtain ⟨g1, g2, g3, us, g4, g5⟩ := ok1.ownL e1
    cases r1 with
    | lst hb t =>
      exact ⟨a0, _, us, _, rfl, rfl, g4, ok1.sub _ _ hb, by rw [g5.len, t.len]; exact hz, hn _ c σ F1 _ s1 (mem_eq w1) (ok1.ownUpd e1 (g5.app t))⟩
/-- x[k] read, x one's own list: an item -/
theorem de_ixOwn (h0 : ownAt ρ i fun _ _ => True) (h : DE X T A ρ b (fun d ρ1 => ownAt ρ1 i fun _ ds => ∃ k e, d = .int k ∧ atI ds k = some e ∧ C e ρ1)) (hi : slotOf X.N x = some i := by rfl)
    (hv : Vis X.env.scope x := by first | exact Or.inl rfl | exact Or.inr (Or.inl rfl) | exact Or.inr (Or.inr rfl)) (hd : (x == ("__debug__" : Str)) = false := by decide) (hcd : (x == ("__classdict__" : Str)) = false := by decide)
    (hs : PlainIx b := by exact fun _ _ => rfl) : DE X T A ρ (.Subscript (.Name x p) b pos) C :=
  DE.of (pe_ix ix_list (pe_var (slotOf_ok hi) hv hd hcd) pe_go hs) fun σ H Q F ok q => by
    obtain ⟨a0, ds0, e0, _⟩ := ownAt_ok h0
    refine ⟨.ref a0, ok.ownSL e0, ρ, _, h, F, ok, fun d ρ1 h1 v F1 H1 s1 w1 ok1 r1 => ?_⟩
    obtain ⟨a, ds, e1, k, el, rfl, e3, c⟩ := ownAt_ok h1
    have e2 := ok1.ownSL e1
    rw [ok.ownSL e0] at e2
    cases e2
    obtain ⟨g1, g2, g3, us, g4, g5⟩ := ok1.ownL e1
    cases r1
    obtain ⟨u, e4, r4⟩ := atI_of g5 e3
    exact ⟨a0, us, k, u, rfl, rfl, .of g4, e4, q _ _ c u F1 H1 s1 w1 ok1 r4⟩
/-- x[k] as a target, x one's own list -/
theorem dg_own {vs : List Nat} {d : D} {C : Ev → Prop} (h0 : ownAt ρ i fun _ _ => True) (h : DE X T A ρ b (fun d2 ρ1 => ownAt ρ1 i fun a ds => ∃ k j, d2 = .int k ∧ ixN ds.length k = some j ∧ C (ρ1.put i (.own a (ds.set j d))))) (hi : slotOf X.N x = some i := by rfl)
    (hv : Vis X.env.scope x := by first | exact Or.inl rfl | exact Or.inr (Or.inl rfl) | exact Or.inr (Or.inr rfl)) (hd : (x == ("__debug__" : Str)) = false := by decide) (hcd : (x == ("__classdict__" : Str)) = false := by decide)
    (ha : ∀ v, assign (.Subscript (.Name x p) b pos) X.env v = (do
      let ov ← holding [v] (eval (.Name x p) X.env)
      let iv ← holding [v, ov] (eval b X.env)
      standAt pos
      holding [v, ov, iv] (setItem ov iv v)
      release [v, ov, iv] []) := by intro _; rfl) : DG X T A vs ρ (.Subscript (.Name x p) b pos) d C :=
  ⟨⟨fun pins s σ H v u Q I r ⟨F, ok, rr, q⟩ => (pg_sub (pe_var (slotOf_ok hi) hv hd hcd) (pe_go (T := T) (A := A)) set_list ha).run pins s σ H v u Q I r (by
    obtain ⟨a0, ds0, e0, _⟩ := ownAt_ok h0
    refine ⟨.ref a0, ok.ownSL e0, ρ, _, h, F, ok, fun d2 ρ1 h1 v2 F1 H1 s1 w1 ok1 r1 => ?_⟩
    obtain ⟨a, ds, e1, k, j, rfl, e3, c⟩ := ownAt_ok h1
    have e2 := ok1.ownSL e1
    rw [ok.ownSL e0] at e2
    cases e2
    obtain ⟨g1, g2, g3, us, g4, g5⟩ := ok1.ownL e1
    cases r1
    refine ⟨a0, us, k, j, rfl, rfl, g4, by rw [g5.len]; exact e3, q _ c σ F1 _ s1 w1 rfl (ok1.ownUpd e1 (g5.set (by rw [w1]; exact rr.mo s1) j))⟩)⟩⟩
/-- x[k] = e -/
theorem ds_store {tg : Expr} (h : DE X T A ρ e (fun d ρ1 => DG X T A [] ρ1 tg d O.nx)) (hs : swapsWithSole [tg] e pos.line X.env = pure false := by rfl) (hw : swappedStores [tg] e X.env = pure none := by rfl)
    (h1 : (assignEach [tg] X.env).map (·.2) = [assign tg X.env] := by rfl) : DS X T A ρ (.Assign [tg] e pos) O :=
  ds_unp (DE.of h.pe fun σ H Q F ok q => ⟨F, ok, fun d ρ1 c v F' H' s w ok' r => q d ρ1 ⟨[], c⟩ v F' H' s w ok' r⟩) hs hw h1
/-- a, b = e1, e2, both plain local names -/
theorem ds_par {y : Str} {j : Nat} {px py pt : Pos} {kt k2 pt2} (hc : X.calm = true) (hN : X.N.Nodup) (h : DV X T A ρ a (fun r1 ρ1 => ∃ d1, r1 = .v d1 ∧ DE X T A ρ1 b (fun d2 ρ2 => O.nx ((ρ2.put i (.dat d1)).put j (.dat d2))))) (hi : slotOf X.N x = some i := by rfl) (hj : slotOf X.N y = some j := by rfl) (hij : i ≠ j := by decide)
    (hx : X.env.scope.names.lookup x = some .local := by rfl) (hy : X.env.scope.names.lookup y = some .local := by rfl) (hst : starEach [a, b] X.env = (false, eval a X.env) :: starEach [b] X.env := by rfl) (hst2 : starEach [b] X.env = (false, eval b X.env) :: starEach [] X.env := by rfl)
    (hw : swappedStores [.Tuple [.Name x px, .Name y py] kt pt] (.Tuple [a, b] k2 pt2) X.env = pure (some [x, y]) := by rfl)
    (hs : swapsWithSole [.Tuple [.Name x px, .Name y py] kt pt] (.Tuple [a, b] k2 pt2) pos.line X.env = pure false := by rfl) :
    DS X T A ρ (.Assign [.Tuple [.Name x px, .Name y py] kt pt] (.Tuple [a, b] k2 pt2) pos) O :=
  DS.of (ps_par hc hN (slotOf_ok hi) (slotOf_ok hj) hij hx hy (pa_cons pv_go (pa_cons pe_go pa_nil hst2) hst) hw hs) fun E σ H ⟨F, ok, hn, _⟩ =>
    ⟨ρ, _, h, F, ok, fun r1 ρ1 ⟨d1, e1, h1⟩ v1 F1 H1 s1 w1 ok1 g1 => ⟨ρ1, _, h1, F1, ok1, fun d2 ρ2 h2 v2 F2 H2 s2 w2 ok2 r2 => ⟨_, _, rfl, by
      subst e1
      have r1 : R X.K F1 ρ1.ws v1 d1 := g1
      have ok3 := ok2.put (i := i) (v := v1) (r := .v d1) (show R X.K F2 ρ2.ws v1 d1 by rw [w2]; exact r1.mo s2)
      have ok4 := ok3.put (i := j) (v := v2) (r := .v d2) r2
      exact hn _ h2 _ F2 H2 (s1.trans s2) (mem_eq (w2.trans w1)) ok4⟩⟩⟩
end own
/-! ### streams of drawn numbers -/
section strm
variable {X : Cx} {T : List (Addr × Str)} {A : Anc} {ρ : Ev} {a b c e : Expr} {pos p : Pos} {O : DO} {C : CD} {x : Str} {i : Nat}
/-- what each place of a stream may hold -/
def StP (g : Nat) (k : Int) (n : Int) : Prop := 0 ≤ n ∧ (k = 1 → n < (big : Int)) ∧ (k = 2 → n + (g : Int) ≤ (big : Int))
def strmD : D → D → CD → Ev → Prop
  | .strm, .int k, C, ρ => (k = 0 ∨ k = 1 ∨ k = 2) ∧ ∀ n, StP ρ.g k n → C (.int n) ρ
  | _, _, _, _ => False
theorem lk_strm : Lk X T A (rIx X.K) strmD := by
  intro d1 d2 C F H σ ρ x y Q h ok r1 r2 q
  unfold strmD at h
  split at h
  · cases r2
    cases r1 with
    | strm m =>
      obtain ⟨hk, h⟩ := h
      obtain ⟨⟨c, m1, n, e, h1, h2, h3, h4, h5⟩, _⟩ := ok.strm _ m
      rcases hk with rfl | rfl | rfl
      · exact .inl ⟨_, _, _, .int c, rfl, rfl, .of e, rfl, q _ _ (h c ⟨h1, by omega, by omega⟩) _ F H (Same.refl _) rfl ok (.int _)⟩
      · exact .inl ⟨_, _, _, .int m1, rfl, rfl, .of e, rfl, q _ _ (h m1 ⟨h2, by omega, by omega⟩) _ F H (Same.refl _) rfl ok (.int _)⟩
      · exact .inl ⟨_, _, _, .int n, rfl, rfl, .of e, rfl, q _ _ (h n ⟨h4, by omega, by omega⟩) _ F H (Same.refl _) rfl ok (.int _)⟩
  · exact h.elim
theorem de_strm (h : In2 X T A ρ a b strmD C) (hs : PlainIx b := by exact fun _ _ => rfl) : DE X T A ρ (.Subscript a b pos) C := DE.of (pe_ix ix_seq pe_go pe_go hs) (go2 lk_strm h)
/-- the stream at ad is written: fuel g' is left -/
theorem Ok.strmUpd {K : PySem.W.Frag} {F H : Hp} {σ : L2.St} {ad : Addr} {xs : List V} {g' : Nat} (ok : Ok K T A F H σ ρ) (m : ad ∈ ρ.ws) (hg : g' ≤ ρ.g) (e0 : ∃ ys, H ad = some (.lst ys)) (st : Strm (upd H ad (.lst xs)) g' ad) : Ok K T A F (upd H ad (.lst xs)) σ (ρ.gas g') := by
  obtain ⟨ys, e0⟩ := e0
  have hF := (ok.strm ad m).2
  refine ⟨ok.sub0, fun b x q => ?_, fun b o q n w => ?_, ok.apart, fun b n => ?_, ⟨fun p hp => ?_, ok.tabs.2⟩, ok.wsub, ok.wnew, fun b w => ?_, ok.slots, ok.ownS, fun p b bs q => ?_, ok.dist, ok.len⟩
  · rw [upd_ne (ne_of_none q hF)]
    exact ok.sub _ _ q
  · have hb : b ≠ ad := fun z => by
      rcases ok.wnew ad m with h | h
      · exact w (by rw [z]; exact h)
      · rw [z, h] at q; cases q
    rw [upd_ne hb]
    exact ok.keep b o q n w
  · by_cases hb : b = ad
    · rw [hb, upd_same]; simp
    · rw [upd_ne hb]; exact ok.there b n
  · obtain ⟨ps, e1, e2, e3⟩ := ok.tabs.1 p hp
    refine ⟨ps, ?_, e2, fun pos cv q => ?_⟩
    · rw [upd_ne (ne_of e1 e0 (by intro z; cases z))]
      exact e1
    · obtain ⟨c, e4, e5⟩ := e3 pos cv q
      refine ⟨c, e4, ?_⟩
      rw [upd_ne (ne_of e5 e0 (by intro z; cases z))]
      exact e5
  · by_cases hb : b = ad
    · rw [hb]
      exact ⟨st, hF⟩
    · obtain ⟨⟨c, m1, n, q, z1, z2, z3, z4, z5⟩, n2⟩ := ok.strm b w
      refine ⟨⟨c, m1, n, ?_, z1, z2, z3, z4, ?_⟩, n2⟩
      · rw [upd_ne hb]; exact q
      · show n + (g' : Int) ≤ _
        omega
  · obtain ⟨q1, q2, q3, us, q4, q5⟩ := ok.owns p b bs q
    refine ⟨q1, q2, q3, us, ?_, q5⟩
    rw [upd_ne (fun z : b = ad => q2 (by rw [z]; exact m))]
    exact q4
/-- stream[k] = a number -/
def stGo (C : Ev → Prop) (d : D) : D → Ev → Prop
  | .int k, ρ => ∃ n g', d = .int n ∧ (k = 0 ∨ k = 1 ∨ k = 2) ∧ g' ≤ ρ.g ∧ StP g' k n ∧ C (ρ.gas g')
  | _, _ => False
theorem dg_strm {vs : List Nat} {d : D} {C : Ev → Prop} (h : DE X T A ρ a (fun d1 ρ1 => d1 = .strm ∧ DE X T A ρ1 b (fun d2 ρ2 => stGo C d d2 ρ2)))
    (ha : ∀ v, assign (.Subscript a b pos) X.env v = (do
      let ov ← holding [v] (eval a X.env)
      let iv ← holding [v, ov] (eval b X.env)
      standAt pos
      holding [v, ov, iv] (setItem ov iv v)
      release [v, ov, iv] []) := by intro _; rfl) : DG X T A vs ρ (.Subscript a b pos) d C :=
  ⟨⟨fun pins s σ H v u Q I r ⟨F, ok, rr, q⟩ => (pg_sub (pe_go (T := T) (A := A)) (pe_go (T := T) (A := A)) set_list ha).run pins s σ H v u Q I r (by
    refine ⟨ρ, _, h, F, ok, fun d1 ρ1 ⟨e1, h1⟩ v1 F1 H1 s1 w1 ok1 r1 => ⟨ρ1, _, h1, F1, ok1, fun d2 ρ2 h2 v2 F2 H2 s2 w2 ok2 r2 => ?_⟩⟩
    subst e1
    cases r1 with
    | strm m =>
      rename_i ad
      replace h2 : stGo C d d2 ρ2 := h2
      unfold stGo at h2
      split at h2
      · cases r2
        rename_i k
        obtain ⟨n, g', rfl, hk, hg, sp, c⟩ := h2
        cases rr
        have m2 : ad ∈ ρ2.ws := by rw [w2]; exact m
        obtain ⟨⟨c0, m1, n1, e, h1, h2, h3, h4, h5⟩, _⟩ := ok2.strm ad m2
        obtain ⟨p1, p2, p3⟩ := sp
        rcases hk with rfl | rfl | rfl
        · refine ⟨ad, _, 0, 0, rfl, rfl, e, rfl, q _ c σ F2 _ (s1.trans s2) (w2.trans w1) rfl (ok2.strmUpd m2 hg ⟨_, e⟩ ⟨n, m1, n1, upd_same, p1, h2, h3, h4, by omega⟩)⟩
        · refine ⟨ad, _, 1, 1, rfl, rfl, e, rfl, q _ c σ F2 _ (s1.trans s2) (w2.trans w1) rfl (ok2.strmUpd m2 hg ⟨_, e⟩ ⟨c0, n, n1, upd_same, h1, p1, p2 rfl, h4, by omega⟩)⟩
        · refine ⟨ad, _, 2, 2, rfl, rfl, e, rfl, q _ c σ F2 _ (s1.trans s2) (w2.trans w1) rfl (ok2.strmUpd m2 hg ⟨_, e⟩ ⟨c0, m1, n, upd_same, h1, h2, h3, p1, p3 rfl⟩)⟩
      · exact h2.elim)⟩⟩
end strm
/-! ### a def, by its body -/
def bodyO (ws : List Addr) (C : Out → Prop) : DO where
  nx := fun ρ => C (.ret .non ρ.g)
  rt := fun r ρ => match r with
    | .v d => (ρ.ws = ws ∨ ∃ b, d = .bl b) ∧ C (.ret d ρ.g)
    | .l _ ds => ρ.ws = ws ∧ C (.new ds ρ.g)
    | .b _ c => ρ.ws = ws ∧ C (.newB c ρ.g)
def excO (C : Out → Prop) : XC := fun c fs g => C (.exc c fs g)
def pad (ds : List D) (n : Nat) : List Sl := ds.map .dat ++ List.replicate n .non
theorem pad_slots {K : PySem.W.Frag} {F : Hp} {ws : List Addr} {vs : List V} {ds : List D} (r : Rs K F ws vs ds) {i : Nat} {d : D} {n : Nat} {l : L2.St} (h : (pad ds n)[i]? = some (.dat d)) : ∃ v, (vs.map some ++ l)[i]? = some (some v) ∧ R K F ws v d := by
  unfold pad at h
  by_cases hi : i < ds.length
  · rw [List.getElem?_append_left (by rw [List.length_map]; exact hi), List.getElem?_map] at h
    obtain ⟨d', e, q⟩ := Option.map_eq_some_iff.mp h
    cases q
    obtain ⟨v, e1, r1⟩ := r.get e
    refine ⟨v, ?_, r1⟩
    rw [List.getElem?_append_left (by rw [List.length_map, r.len]; exact hi), List.getElem?_map, e1]
    rfl
  · rw [List.getElem?_append_right (by rw [List.length_map]; omega), List.getElem?_replicate] at h
    split at h <;> cases h
theorem pad_own {ds : List D} {i n : Nat} {a : Addr} {es : List D} : (pad ds n)[i]? ≠ some (.own a es) := by
  intro h
  unfold pad at h
  by_cases hi : i < ds.length
  · rw [List.getElem?_append_left (by rw [List.length_map]; exact hi), List.getElem?_map] at h
    obtain ⟨d', e, q⟩ := Option.map_eq_some_iff.mp h
    cases q
  · rw [List.getElem?_append_right (by rw [List.length_map]; omega), List.getElem?_replicate] at h
    split at h <;> cases h
theorem pad_bx {ds : List D} {i n : Nat} {x : Addr × Con} : ownOf (pad ds n)[i]? ≠ some x := by
  intro h
  obtain ⟨s, h, e⟩ := ownOf_bx (a := x.1) (c := x.2) h
  unfold pad at h
  by_cases hi : i < ds.length
  · rw [List.getElem?_append_left (by rw [List.length_map]; exact hi), List.getElem?_map] at h
    obtain ⟨d', e', q⟩ := Option.map_eq_some_iff.mp h
    cases q
    cases e
  · rw [List.getElem?_append_right (by rw [List.length_map]; omega), List.getElem?_replicate] at h
    split at h
    · cases h
      cases e
    · cases h
theorem pad_len {K : PySem.W.Frag} {F : Hp} {ws : List Addr} {vs : List V} {ds : List D} {N : List Str} (r : Rs K F ws vs ds) : (pad ds (N.length - ds.length)).length ≤ (L2.start N vs).length := by
  have := r.len
  unfold pad L2.start
  rw [List.length_append, List.length_append, List.length_map, List.length_map, List.length_replicate, List.length_replicate]
  omega
theorem Ok.padded {K : PySem.W.Frag} {T : List (Addr × Str)} {A : Anc} {F H : Hp} {ws : List Addr} {g : Nat} {vs : List V} {ds : List D} {N : List Str} (ok : Ok K T A F H [] (.bare ws g)) (r : Rs K F ws vs ds) : Ok K T A F H (L2.start N vs) ⟨pad ds (N.length - ds.length), [], ws, g⟩ := by
  refine ⟨ok.sub0, ok.sub, ok.keep, ok.apart, ok.there, ok.tabs, ok.wsub, ok.wnew, ok.strm, fun i d e => pad_slots r e, fun i a c e => absurd e pad_bx, fun p a es e => ?_, fun p q a es es' e => ?_, pad_len r⟩
  · cases p with
    | inl i => exact absurd e pad_bx
    | inr j => cases e
  · cases p with
    | inl i => exact absurd e pad_bx
    | inr j => cases e
section okd
variable {P : Program} {w : World} {K : PySem.W.Frag} {mg : Str → Option Value} {base : Heap} {T : List (Addr × Str)}
abbrev bodyCx (P : Program) (w : World) (K : PySem.W.Frag) (mg : Str → Option Value) (base : Heap) (N : List Str) (qual : Str) (st : Stmt) (f : Addr) (cdv : Value) (A : Around) (outer : List Env) (s : Shared) (H : Hp) (E : XK) : Cx :=
  cxOf (L2.CX P w) P w K mg base N qual (defScope st) f cdv A outer s H E
theorem okD {x qual : Str} {st : Stmt} {f : Addr} {fd : FuncData} {N ps : List Str} {k : Nat} {M : DF} (F : Fun K x qual st f fd) (S : FnScope N ps (defScope st)) (len : ∀ ds g C, M ds g C → ds.length = ps.length)
    (hbody : ∀ (cdv : Value) (A : Around) (outer : List Env) (s : Shared) (H : Hp) (E : XK) (An : Anc) (ds : List D) (g : Nat) (C : Out → Prop), Room k (A.deeper (PyProof.Rows.envOfC qual (defScope st) s.heap.objs.size f cdv)) →
      Takes (bodyCx P w K mg base N qual st f cdv A outer s H E) (WD K T An (excO C)) → M ds g C →
      DSs (bodyCx P w K mg base N qual st f cdv A outer s H E) T An ⟨pad ds (N.length - ds.length), [], An.ws, g⟩ (defBody st) (bodyO An.ws C)) : FnOk P w K mg base (L2.CX P w) (k + 1) f fd ps (spD K T M) := by
  refine F.okX S (fun vs H Q E h => ?_) (fun cdv A outer s H vs Q E hr h => ?_)
  · obtain ⟨F', ws, ds, g, C, ok, r, h, _⟩ := h
    rw [r.len]
    exact len _ _ _ h
  · obtain ⟨F', ws, ds, g, C, ok, r, h, h1, h2, h2b, h3⟩ := h
    have tk : Takes (bodyCx P w K mg base N qual st f cdv A outer s H E) (WD K T ⟨F', H, ws⟩ (excO C)) :=
      (takes_of rfl rfl rfl rfl).imp fun cls d σ H' ⟨c, dx, fs, xs, g', F2, e1, e2, ok2, hx, rf, hc⟩ => by
        subst e1
        subst e2
        exact h3 c fs g' hc dx xs F2 H' ok2 hx rf
    have hb := hbody cdv A outer s H E ⟨F', H, ws⟩ ds g C hr tk h
    refine ⟨_, hb.pe, F', ?_, fun ρ' c σ' F2 H2 s2 w2 ok2 => ?_, fun rv ρ' c v σ' F2 H2 ok2 gv => ?_, fun ρ' c => c.elim, fun ρ' c => c.elim⟩
    · exact ok.padded r
    · exact h1 _ _ c .non F2 H2 ok2.drop .non
    · cases rv with
      | v d =>
        obtain ⟨hw, c⟩ := c
        refine h1 _ _ c v F2 H2 ok2.drop ?_
        rcases hw with hw | ⟨b, rfl⟩
        · have gv' : R K F2 ρ'.ws v d := gv
          rw [hw] at gv'
          exact gv'
        · cases (show R K F2 ρ'.ws v (.bl b) from gv)
          exact .bl _
      | l a es =>
        obtain ⟨hw, c⟩ := c
        obtain ⟨rfl, _⟩ := id gv
        exact h2 _ _ c a F2 H2 ok2.drop (gv.bare hw)
      | b a cc =>
        obtain ⟨hw, c⟩ := c
        obtain ⟨rfl, _⟩ := id gv
        exact h2b _ _ c a F2 H2 ok2.drop (gv.bare hw)
end okd
end DL
end

section
/-! isinstance of a function of the text. -/
namespace PySem
open Sem (wp)
namespace FnT
theorem slot_ga : Slot "function" "__getattribute__" "object.__getattribute__" :=
  .of (owner := "object") (n := "__getattribute__") (by rw [typeLookup_type, builtinLookup_eq_fast]; kernel_rfl) (by decide +kernel) (by decide +kernel) (by decide +kernel)
    (by first | exact .inl (by decide +kernel) | exact .inr (by decide +kernel)) (by rw [isSubtype_type]; kernel_rfl)
theorem lk_class : typeLookup (.type "function") "__class__" = pure (some (.builtin "object.__class__")) := by rw [typeLookup_type, builtinLookup_eq_fast]; kernel_rfl
theorem sub_class_owner : isSubtype (.type "function") (.type (".".intercalate ("object.__class__".cutAt '.').dropLast)) = pure true := by
  rw [F.owner_object_class, isSubtype_type]; kernel_rfl
section
variable {prog : Program} {w : World} {A : Around} {E : Value → Shared → Prop} {h : Heap} {g : Array GenState} {d : Drawn} {t : Nat} {os : OsState} {a : Addr} {o : Obj}
theorem class_get {R : Result → Shared → Prop} (hx : h.get? a = some o) (hc : o.cls = .type "function") (hq : R (.ok (.ret (.type "function"))) ⟨h, g, d, t, os⟩) :
    codeAny (model prog w) A (.call (.builtin "getset_descriptor.__get__") ⟨[.builtin "object.__class__", .ref a, .type "function"], []⟩) R ⟨h, g, d, t, os⟩ := by
  have hT : (⟨h, g, d, t, os⟩ : Shared).TypeIs (.ref a) "function" := ⟨_, hx, hc⟩
  have hT5 : (⟨h, g, d, t, os⟩ : Shared).TypeIs (.builtin "object.__class__") "getset_descriptor" := F.typeOf_object_class
  have f8 := sub_class_owner
  refine codeAny_call_builtin F.slot_gs_get.plain F.entry_gs_get (F.slot_gs_get.check _ _ _ _ _ _ _ _ hT5 (F.args_gs_get _ _ _) ?_)
  repeat (any_goals (first | assumption | wp_step))
  refine ⟨Code.quiet_builtin _ (by decide +kernel), codeAny_builtin F.entry_object_class ?_⟩
  repeat (any_goals (first | assumption | wp_step))
theorem class_entry {tk : Tok} {Q : Fin → Shared → Prop} (hx : h.get? a = some o) (hc : o.cls = .type "function") (hq : Q (.done (.ret (.type "function"))) ⟨h, g, d, t, os⟩) :
    wpAny (model prog w) A (Builtin.«object.__getattribute__» ⟨[.ref a, .str "__class__" tk], []⟩) Q E ⟨h, g, d, t, os⟩ := by
  have hT : (⟨h, g, d, t, os⟩ : Shared).TypeIs (.ref a) "function" := ⟨_, hx, hc⟩
  have hT5 : (⟨h, g, d, t, os⟩ : Shared).TypeIs (.builtin "object.__class__") "getset_descriptor" := F.typeOf_object_class
  have f4 := lk_class
  have f5 := F.typeOf_object_class
  have f6 := F.slot_gs_get.lookup
  have f7 := F.slot_gs_set.lookup
  repeat (any_goals (first | assumption | wp_step))
  refine class_get hx hc ?_
  repeat (any_goals (first | assumption | wp_step))
theorem class_call {tk : Tok} {R : Result → Shared → Prop} (hx : h.get? a = some o) (hc : o.cls = .type "function") (hq : R (.ok (.ret (.type "function"))) ⟨h, g, d, t, os⟩) :
    codeAny (model prog w) A (.call (.builtin "object.__getattribute__") ⟨[.ref a, .str "__class__" tk], []⟩) R ⟨h, g, d, t, os⟩ :=
  codeAny_call_builtin slot_ga.plain F.entry_object_getattribute (slot_ga.check _ _ _ _ _ _ _ _ (show (⟨h, g, d, t, os⟩ : Shared).TypeIs (.ref a) "function" from ⟨_, hx, hc⟩) (F.args_object_getattribute_2 _ _) (class_entry hx hc hq))
theorem class_by {tk : Tok} {Q : Value → Shared → Prop} (hx : h.get? a = some o) (hc : o.cls = .type "function") (hq : Q (.type "function") ⟨h, g, d, t, os⟩) : wpAny (model prog w) A (getAttrBy (.ref a) (.str "__class__" tk) false) Q E ⟨h, g, d, t, os⟩ := by
  have hT : (⟨h, g, d, t, os⟩ : Shared).TypeIs (.ref a) "function" := ⟨_, hx, hc⟩
  have f2 := slot_ga.lookup
  have f3 := slot_ga.bind (.ref a)
  repeat (any_goals (first | assumption | wp_step))
  refine class_call hx hc ?_
  repeat (any_goals (first | assumption | wp_step))
theorem class_attr {Q : Option Value → Shared → Prop} (hx : h.get? a = some o) (hc : o.cls = .type "function") (hq : Q (some (.type "function")) ⟨h, g, d, t + 1, os⟩) : wpAny (model prog w) A (getAttr? (.ref a) "__class__") Q E ⟨h, g, d, t, os⟩ := by
  unfold getAttr? getAttrBy?
  repeat (any_goals (first | assumption | with_reducible apply class_by hx hc | wp_step))
end
theorem kitx_fn {K : W.Frag} {a : Addr} : W.KitX K (.ref a) (.type "function") (W.KitAt a "function") := W.kitx_of W.kitAt_ty (fun {_ _ _ _ _ s} p k => by obtain ⟨h, g, d, t, os⟩ := s; obtain ⟨o, h1, h2⟩ := p; exact class_attr h1 h2 k)
end FnT
end PySem

namespace DL
open PySem PySem.Spec L2
/-- a value's type, functions of the text too -/
def TyZ (K : PySem.W.Frag) (H : Hp) (x : V) (t : Value) : Prop := TyX K H x t ∨ ∃ (a : Addr) (o : Obj), x = .ref a ∧ t = .type "function" ∧ K.lookup a = some o ∧ o.cls = .type "function"
theorem kit_ofZ {X : Cx} {pins : List (Addr × Obj)} {σ : L2.St} {H : Hp} {s : Shared} {x : V} {u t : Value} (I : Inv X pins σ H s) (rx : RelV x u) (ty : TyZ X.K H x t) : ∃ P : Heap → Prop, PySem.W.KitX X.K u t P ∧ P s.heap ∧ u ≠ .builtin "__main__.__loader__#opaque" := by
  rcases ty with ty | ⟨a, o, rfl, rfl, e, c⟩
  · exact kit_of I rx ty
  · obtain rfl : u = Value.ref a := rx
    exact ⟨_, PySem.FnT.kitx_fn, ⟨o, I.kIn a o e, c⟩, fun z => nomatch z⟩
def rIsiZ (K : PySem.W.Frag) : List V → Hp → VK → Prop := fun xs H Q => ∃ (x c : V) (t u : Value) (b : Bool), xs = [x, c] ∧ ClsV c u ∧ TyZ K H x t ∧ PySem.W.kitOne K t u = some b ∧ Q (.bl b) H
def rIsiTZ (K : PySem.W.Frag) : List V → Hp → VK → Prop := fun xs H Q => ∃ (x : V) (tp : Addr) (cs : List V) (t : Value) (us : List Value) (b : Bool), xs = [x, .ref tp] ∧ H tp = some (.tup cs) ∧ Paired ClsV cs us ∧ TyZ K H x t ∧ PySem.W.kitAny K t us = some b ∧ Q (.bl b) H
theorem call_isiZ {X : Cx} : CallR X (.builtin "isinstance") (rIsiZ X.K) := by
  intro pins s σ H xs us Q I r h
  obtain ⟨x, c, t, u, b, rfl, k, ty, e, q⟩ := h
  obtain ⟨u1, u2, rfl, r1, r2⟩ := vals2 r
  have e2 := k.eq r2
  subst e2
  obtain ⟨P, Z, p, hx⟩ := kit_ofZ I r1 ty
  exact PySem.W.kia_one Z I.kIn p e hx fun tk => ⟨.bl b, H, I.tok tk, rfl, q⟩
theorem call_isiTZ {X : Cx} : CallR X (.builtin "isinstance") (rIsiTZ X.K) := by
  intro pins s σ H xs us Q I r h
  obtain ⟨x, tp, cs, t, ws, b, rfl, hT, k, ty, e, q⟩ := h
  obtain ⟨u1, u2, rfl, r1, r2⟩ := vals2 r
  cases (show u2 = Value.ref tp from r2)
  obtain ⟨P, Z, p, hx⟩ := kit_ofZ I r1 ty
  obtain ⟨_, its, rv, o, h1, h2, n, h3⟩ := (show ObjOk X.prog X.w H s.heap tp (.tup cs) from I.hok tp _ hT)
  have e3 := ClsV.all k rv
  subst e3
  obtain ⟨oc, od, dt, sl⟩ := o
  simp only at h2 h3
  subst h2 h3
  exact PySem.W.kia_tup Z I.kIn p h1 e hx fun tk => ⟨.bl b, H, I.tok tk, rfl, q⟩
end DL
end

section
namespace DL
open PySem PySem.Spec L2
section blt
variable {X : Cx} {T : List (Addr × Str)} {A : Anc} {ρ : Ev} {a b c e : Expr} {es rest : List Expr} {pos p : Pos} {C : CV}
/-- len of a dict, locked or not -/
theorem call_lenR : CallR X (.builtin "len") (fun xs H Q => ∃ a kvs, xs = [V.ref a] ∧ Rd H a (.dK kvs) ∧ Q (.int kvs.length) H) := by
  intro pins s σ H xs us Q I r h
  obtain ⟨a, kvs, rfl, ha, q⟩ := h
  obtain ⟨u, rfl, ru⟩ := vals1 r
  cases ru
  exact d_len I ha fun t s' I' => ⟨.int kvs.length, H, I', ⟨t, rfl⟩, q⟩
theorem lkc_len : LkC X T A (fun xs H Q => (∃ x n, xs = [x] ∧ LenV X.K x H n ∧ Q (.int n) H) ∨ ∃ a kvs, xs = [V.ref a] ∧ Rd H a (.dK kvs) ∧ Q (.int kvs.length) H) lenD := by
  intro ds C F H σ ρ xs Q h ok r0 q
  unfold lenD at h
  split at h
  · obtain ⟨v, rfl, r⟩ := r0.one
    cases r
    exact .inl ⟨_, _, rfl, ⟨h.1, rfl⟩, q _ _ h.2 _ F H (Same.refl _) rfl ok (.int _)⟩
  · obtain ⟨v, rfl, r⟩ := r0.one
    cases r with
    | dK h1 t => exact .inr ⟨_, _, rfl, .inr ⟨_, ok.sub _ _ h1⟩, q _ _ h _ F H (Same.refl _) rfl ok (by rw [t.len]; exact .int _)⟩
  · obtain ⟨v, rfl, r⟩ := r0.one
    obtain ⟨ds, e, h⟩ := h
    obtain ⟨p, us, rfl, hs, t⟩ := seq_of ok.sub r e
    rcases hs with hs | hs
    · exact .inl ⟨_, us.length, rfl, .inl ⟨us, hs, rfl⟩, q _ _ h _ F H (Same.refl _) rfl ok (by rw [t.len]; exact .int _)⟩
    · exact .inl ⟨_, us.length, rfl, .inr ⟨us, hs, rfl⟩, q _ _ h _ F H (Same.refl _) rfl ok (by rw [t.len]; exact .int _)⟩
  · exact h.elim
theorem dv_len (hm : X.mg "len" = none) (h : DA X T A ρ (e :: es) (fun ds ρ1 => lenD ds C ρ1)) (hg : Gl X "len" := by rfl) (he : starEach (e :: es) X.env = (false, eval e X.env) :: starEach es X.env := by rfl) (hpl : (backTo pos (starEach es X.env)).any (·.1) = false := by rfl) : DV X T A ρ (.Call (.Name "len" p) (e :: es) [] pos) C :=
  dv_callB (call_len.or call_lenR) lkc_len hm PySem.boot_len h hg (by decide) (by decide) he hpl
def absD : List D → CV → Ev → Prop
  | [.int i], C, ρ => C (.v (.int (if i < 0 then -i else i))) ρ
  | _, _, _ => False
theorem dv_abs (hm : X.mg "abs" = none) (h : DA X T A ρ (e :: es) (fun ds ρ1 => absD ds C ρ1)) (hg : Gl X "abs" := by rfl) (he : starEach (e :: es) X.env = (false, eval e X.env) :: starEach es X.env := by rfl) (hpl : (backTo pos (starEach es X.env)).any (·.1) = false := by rfl) : DV X T A ρ (.Call (.Name "abs" p) (e :: es) [] pos) C :=
  dv_callB call_abs (by
    intro ds C F H σ ρ xs Q h ok r0 q
    unfold absD at h
    split at h
    · obtain ⟨v, rfl, r⟩ := r0.one
      cases r
      exact ⟨_, rfl, q _ _ h _ F H (Same.refl _) rfl ok (.int _)⟩
    · exact h.elim) hm (by decide +kernel) h hg (by decide) (by decide) he hpl
def intD : List D → CV → Ev → Prop
  | [.int i], C, ρ => C (.v (.int i)) ρ
  | [.bl k], C, ρ => C (.v (.int (if k then 1 else 0))) ρ
  | _, _, _ => False
theorem dv_int (hm : X.mg "int" = none) (h : DA X T A ρ (e :: es) (fun ds ρ1 => intD ds C ρ1)) (hg : Gl X "int" := by rfl) (he : starEach (e :: es) X.env = (false, eval e X.env) :: starEach es X.env := by rfl) (hpl : (backTo pos (starEach es X.env)).any (·.1) = false := by rfl) : DV X T A ρ (.Call (.Name "int" p) (e :: es) [] pos) C :=
  dv_callTy call_int1 (by
    intro ds C F H σ ρ xs Q h ok r0 q
    unfold intD at h
    split at h
    · obtain ⟨v, rfl, r⟩ := r0.one
      cases r
      exact .inl ⟨_, rfl, q _ _ h _ F H (Same.refl _) rfl ok (.int _)⟩
    · obtain ⟨v, rfl, r⟩ := r0.one
      cases r
      exact .inr ⟨_, rfl, q _ _ h _ F H (Same.refl _) rfl ok (.int _)⟩
    · exact h.elim) hm (by decide +kernel) h hg (by decide) (by decide) he hpl
def boolD : List D → CV → Ev → Prop
  | [.int i], C, ρ => C (.v (.bl (i != 0))) ρ
  | [.bl k], C, ρ => C (.v (.bl k)) ρ
  | _, _, _ => False
theorem dv_bool (hm : X.mg "bool" = none) (h : DA X T A ρ (e :: es) (fun ds ρ1 => boolD ds C ρ1)) (hg : Gl X "bool" := by rfl) (he : starEach (e :: es) X.env = (false, eval e X.env) :: starEach es X.env := by rfl) (hpl : (backTo pos (starEach es X.env)).any (·.1) = false := by rfl) : DV X T A ρ (.Call (.Name "bool" p) (e :: es) [] pos) C :=
  dv_callTy call_bool1 (by
    intro ds C F H σ ρ xs Q h ok r0 q
    unfold boolD at h
    split at h
    · obtain ⟨v, rfl, r⟩ := r0.one
      cases r
      exact .inl ⟨_, rfl, q _ _ h _ F H (Same.refl _) rfl ok (.bl _)⟩
    · obtain ⟨v, rfl, r⟩ := r0.one
      cases r
      exact .inr ⟨_, rfl, q _ _ h _ F H (Same.refl _) rfl ok (.bl _)⟩
    · exact h.elim) hm (by decide +kernel) h hg (by decide) (by decide) he hpl
/-- max, min: of two ints, of a list of ints -/
def maxD : List D → CV → Ev → Prop
  | [.int i, .int j], C, ρ => C (.v (.int (if j > i then j else i))) ρ
  | [d], C, ρ => ∃ ns : List Int, seqL d = some (ns.map D.int) ∧ 0 < ns.length ∧ ∀ m, m ∈ ns → (∀ y, y ∈ ns → y ≤ m) → C (.v (.int m)) ρ
  | _, _, _ => False
def minD : List D → CV → Ev → Prop
  | [.int i, .int j], C, ρ => C (.v (.int (if j < i then j else i))) ρ
  | [d], C, ρ => ∃ ns : List Int, seqL d = some (ns.map D.int) ∧ 0 < ns.length ∧ ∀ m, m ∈ ns → (∀ y, y ∈ ns → m ≤ y) → C (.v (.int m)) ρ
  | _, _, _ => False
theorem dv_max (hc : X.calm = true) (hm : X.mg "max" = none) (h : DA X T A ρ (e :: es) (fun ds ρ1 => maxD ds C ρ1)) (hg : Gl X "max" := by rfl) (he : starEach (e :: es) X.env = (false, eval e X.env) :: starEach es X.env := by rfl) (hpl : (backTo pos (starEach es X.env)).any (·.1) = false := by rfl) : DV X T A ρ (.Call (.Name "max" p) (e :: es) [] pos) C :=
  dv_callB ((call_max2 hc).or (cr_max hc)) (by
    intro ds C F H σ ρ xs Q h ok r0 q
    unfold maxD at h
    split at h
    · obtain ⟨v, u, rfl, r1, r2⟩ := r0.two
      cases r1
      cases r2
      exact .inl ⟨_, _, rfl, q _ _ h _ F H (Same.refl _) rfl ok (.int _)⟩
    · obtain ⟨v, rfl, r⟩ := r0.one
      obtain ⟨ns, e, h1, h2⟩ := h
      obtain ⟨p, us, rfl, hs, t⟩ := seqL_of ok.sub r e
      have e2 := t.ints
      subst e2
      exact .inr ⟨p, ns, rfl, hs, h1, fun m m1 m2 => q _ _ (h2 m m1 m2) _ F H (Same.refl _) rfl ok (.int _)⟩
    · exact h.elim) hm (by decide +kernel) h hg (by decide) (by decide) he hpl
theorem dv_min (hc : X.calm = true) (hm : X.mg "min" = none) (h : DA X T A ρ (e :: es) (fun ds ρ1 => minD ds C ρ1)) (hg : Gl X "min" := by rfl) (he : starEach (e :: es) X.env = (false, eval e X.env) :: starEach es X.env := by rfl) (hpl : (backTo pos (starEach es X.env)).any (·.1) = false := by rfl) : DV X T A ρ (.Call (.Name "min" p) (e :: es) [] pos) C :=
  dv_callB ((call_min2 hc).or (cr_min hc)) (by
    intro ds C F H σ ρ xs Q h ok r0 q
    unfold minD at h
    split at h
    · obtain ⟨v, u, rfl, r1, r2⟩ := r0.two
      cases r1
      cases r2
      exact .inl ⟨_, _, rfl, q _ _ h _ F H (Same.refl _) rfl ok (.int _)⟩
    · obtain ⟨v, rfl, r⟩ := r0.one
      obtain ⟨ns, e, h1, h2⟩ := h
      obtain ⟨p, us, rfl, hs, t⟩ := seqL_of ok.sub r e
      have e2 := t.ints
      subst e2
      exact .inr ⟨p, ns, rfl, hs, h1, fun m m1 m2 => q _ _ (h2 m m1 m2) _ F H (Same.refl _) rfl ok (.int _)⟩
    · exact h.elim) hm (by decide +kernel) h hg (by decide) (by decide) he hpl
def sumD : List D → CV → Ev → Prop
  | [d], C, ρ => ∃ ns : List Int, seqL d = some (ns.map D.int) ∧ C (.v (.int ns.sum)) ρ
  | _, _, _ => False
theorem dv_sum (hc : X.calm = true) (hm : X.mg "sum" = none) (h : DA X T A ρ (e :: es) (fun ds ρ1 => sumD ds C ρ1)) (hg : Gl X "sum" := by rfl) (he : starEach (e :: es) X.env = (false, eval e X.env) :: starEach es X.env := by rfl) (hpl : (backTo pos (starEach es X.env)).any (·.1) = false := by rfl) : DV X T A ρ (.Call (.Name "sum" p) (e :: es) [] pos) C :=
  dv_callB (cr_sum hc) (by
    intro ds C F H σ ρ xs Q h ok r0 q
    unfold sumD at h
    split at h
    · obtain ⟨v, rfl, r⟩ := r0.one
      obtain ⟨ns, e, h2⟩ := h
      obtain ⟨p, us, rfl, hs, t⟩ := seqL_of ok.sub r e
      have e2 := t.ints
      subst e2
      exact ⟨p, ns, rfl, hs, q _ _ h2 _ F H (Same.refl _) rfl ok (.int _)⟩
    · exact h.elim) hm (by decide +kernel) h hg (by decide) (by decide) he hpl
def allD : List D → CV → Ev → Prop
  | [d], C, ρ => ∃ bs : List Bool, seqL d = some (bs.map D.bl) ∧ C (.v (.bl (bs.all id))) ρ
  | _, _, _ => False
def anyD : List D → CV → Ev → Prop
  | [d], C, ρ => ∃ bs : List Bool, seqL d = some (bs.map D.bl) ∧ C (.v (.bl (bs.any id))) ρ
  | _, _, _ => False
theorem dv_all (hc : X.calm = true) (hm : X.mg "all" = none) (h : DA X T A ρ (e :: es) (fun ds ρ1 => allD ds C ρ1)) (hg : Gl X "all" := by rfl) (he : starEach (e :: es) X.env = (false, eval e X.env) :: starEach es X.env := by rfl) (hpl : (backTo pos (starEach es X.env)).any (·.1) = false := by rfl) : DV X T A ρ (.Call (.Name "all" p) (e :: es) [] pos) C :=
  dv_callB (cr_all hc) (by
    intro ds C F H σ ρ xs Q h ok r0 q
    unfold allD at h
    split at h
    · obtain ⟨v, rfl, r⟩ := r0.one
      obtain ⟨ns, e, h2⟩ := h
      obtain ⟨p, us, rfl, hs, t⟩ := seqL_of ok.sub r e
      have e2 := t.bls
      subst e2
      exact ⟨p, ns, rfl, hs, q _ _ h2 _ F H (Same.refl _) rfl ok (.bl _)⟩
    · exact h.elim) hm (by decide +kernel) h hg (by decide) (by decide) he hpl
theorem dv_any (hc : X.calm = true) (hm : X.mg "any" = none) (h : DA X T A ρ (e :: es) (fun ds ρ1 => anyD ds C ρ1)) (hg : Gl X "any" := by rfl) (he : starEach (e :: es) X.env = (false, eval e X.env) :: starEach es X.env := by rfl) (hpl : (backTo pos (starEach es X.env)).any (·.1) = false := by rfl) : DV X T A ρ (.Call (.Name "any" p) (e :: es) [] pos) C :=
  dv_callB (cr_any hc) (by
    intro ds C F H σ ρ xs Q h ok r0 q
    unfold anyD at h
    split at h
    · obtain ⟨v, rfl, r⟩ := r0.one
      obtain ⟨ns, e, h2⟩ := h
      obtain ⟨p, us, rfl, hs, t⟩ := seqL_of ok.sub r e
      have e2 := t.bls
      subst e2
      exact ⟨p, ns, rfl, hs, q _ _ h2 _ F H (Same.refl _) rfl ok (.bl _)⟩
    · exact h.elim) hm (by decide +kernel) h hg (by decide) (by decide) he hpl
/-- tuple(xs), list(xs) -/
def tupD : List D → CV → Ev → Prop
  | [d], C, ρ => ∃ ds, seqD d = some ds ∧ C (.v (.tup ds)) ρ
  | _, _, _ => False
def lstD : List D → CV → Ev → Prop
  | [d], C, ρ => ∃ ds, seqD d = some ds ∧ ∀ a, C (.l a ds) ρ
  | _, _, _ => False
theorem dv_tuple (hm : X.mg "tuple" = none) (h : DA X T A ρ (e :: es) (fun ds ρ1 => tupD ds C ρ1)) (hg : Gl X "tuple" := by rfl) (he : starEach (e :: es) X.env = (false, eval e X.env) :: starEach es X.env := by rfl) (hpl : (backTo pos (starEach es X.env)).any (·.1) = false := by rfl) : DV X T A ρ (.Call (.Name "tuple" p) (e :: es) [] pos) C :=
  dv_callTy call_tuple_of (by
    intro ds C F H σ ρ xs Q h ok r0 q
    unfold tupD at h
    split at h
    · obtain ⟨v, rfl, r⟩ := r0.one
      obtain ⟨ds, e, h2⟩ := h
      cases r with
      | lst h t =>
        cases e
        refine ⟨_, _, rfl, .inl ⟨.of (ok.sub _ _ h), fun l hl => ?_⟩⟩
        obtain ⟨F2, s2, ok2, r2⟩ := ok.newT t hl
        exact q _ _ h2 _ F2 _ s2 rfl ok2 r2
      | kl h t =>
        cases e
        refine ⟨_, _, rfl, .inl ⟨sqL_mono ok.sub h, fun l hl => ?_⟩⟩
        obtain ⟨F2, s2, ok2, r2⟩ := ok.newT t hl
        exact q _ _ h2 _ F2 _ s2 rfl ok2 r2
      | tup h t => cases e; exact ⟨_, _, rfl, .inr ⟨sqT_mono ok.sub h, q _ _ h2 _ F H (Same.refl _) rfl ok (.tup h t)⟩⟩
      | _ => cases e
    · exact h.elim) hm (by decide +kernel) h hg (by decide) (by decide) he hpl
theorem dv_lst (hm : X.mg "list" = none) (h : DA X T A ρ (e :: es) (fun ds ρ1 => lstD ds C ρ1)) (hg : Gl X "list" := by rfl) (he : starEach (e :: es) X.env = (false, eval e X.env) :: starEach es X.env := by rfl) (hpl : (backTo pos (starEach es X.env)).any (·.1) = false := by rfl) : DV X T A ρ (.Call (.Name "list" p) (e :: es) [] pos) C :=
  dv_callTy call_list_of (by
    intro ds C F H σ ρ xs Q h ok r0 q
    unfold lstD at h
    split at h
    · obtain ⟨v, rfl, r⟩ := r0.one
      obtain ⟨ds, e, h2⟩ := h
      obtain ⟨p, us, rfl, hs, t⟩ := seq_of ok.sub r e
      refine ⟨p, us, rfl, hs, fun l hl => ?_⟩
      obtain ⟨ok2, g2⟩ := ok.mine hl t
      exact q _ _ (h2 l) _ F _ (Same.refl _) rfl ok2 g2
    · exact h.elim) hm (by decide +kernel) h hg (by decide) (by decide) he hpl
/-! ### isinstance -/
def tyN : D → Option String
  | .non => some "NoneType"
  | .bl _ => some "bool"
  | .int _ => some "int"
  | .str _ => some "str"
  | .lst _ => some "list"
  | .kl _ => some "list"
  | .tup _ => some "tuple"
  | .dK _ => some "dict"
  | .fn _ => some "function"
  | .obj _ _ => some "object"
  | _ => none
theorem kitB_obj : ∀ n ∈ blts, kitB "object" n = some false := by decide +kernel
theorem ty_of {K : PySem.W.Frag} {F H : Hp} {ws : List Addr} {v : V} {d : D} {m : String} (s : Same F H) (r : R K F ws v d) (e : tyN d = some m) : ∃ t, TyZ K H v t ∧ ∀ n b, n ∈ blts → kitB m n = some b → PySem.W.kitOne K t (.type n) = some b := by
  have ty : ∀ {m : String}, TyZ K H v (.type m) → ∃ t, TyZ K H v t ∧ ∀ n b, n ∈ blts → kitB m n = some b → PySem.W.kitOne K t (.type n) = some b := fun {m} h => ⟨_, h, fun n b _ e => kit_ty e⟩
  cases r with
  | non => cases e; exact ty <| .inl <| .base .non
  | bl b => cases e; exact ty <| .inl <| .base (.bl _)
  | int i => cases e; exact ty <| .inl <| .base (.int _)
  | str x => cases e; exact ty <| .inl <| .base (.str _)
  | lst h t => cases e; exact ty <| .inl <| .base (.lst (s _ _ h))
  | kl h t =>
    cases e
    rcases h with (h | ⟨o, h⟩) | ⟨o, its, n, h1, h2, h3⟩
    · exact ty <| .inl <| .base (.lst (s _ _ h))
    · exact ty <| .inl <| .base (.frz (s _ _ h))
    · exact ty <| .inl (.kList h1 h2)
  | tup h t =>
    cases e
    rcases h with (h | ⟨o, h⟩) | ⟨o, its, n, h1, h2, h3⟩
    · exact ty <| .inl <| .base (.tup (s _ _ h))
    · exact ty <| .inl (.fTuple (s _ _ h))
    · exact ty <| .inl (.kTuple h1 h2)
  | dK h t => cases e; exact ty <| .inl (.fDict (s _ _ h))
  | dT h t => cases e
  | obj hc h t =>
    cases e
    refine ⟨_, .inl (.base (.ins (s _ _ h) hc.cl hc.ha hc.hn hc.htk hc.hm)), fun n b hn e => ?_⟩
    rw [kitB_obj n hn] at e
    cases e
    exact hc.no n hn
  | @fn a h =>
    cases e
    have h1 : (K.lookup a).map (·.cls) = some (.type "function") := beq_iff_eq.mp h.1
    obtain ⟨o, h2, h3⟩ := Option.map_eq_some_iff.mp h1
    exact ty <| .inr ⟨a, o, rfl, rfl, h2, h3⟩
  | strm h => cases e
  | exc h t => cases e
  | ref => cases e
def isTy (d : D) (n : String) : Option Bool := (tyN d).bind fun m => kitB m n
def isTys (d : D) : List String → Option Bool
  | [] => some false
  | n :: ns => match isTy d n with
    | some true => some true
    | some false => isTys d ns
    | none => none
theorem isTy_kit {K : PySem.W.Frag} {d : D} {m n : String} {b : Bool} {t : Value} (h : isTy d n = some b) (e : tyN d = some m) (hn : n ∈ blts) (ht : ∀ n b, n ∈ blts → kitB m n = some b → PySem.W.kitOne K t (.type n) = some b) : PySem.W.kitOne K t (.type n) = some b := by
  unfold isTy at h
  rw [e] at h
  exact ht n b hn h
theorem isTys_kit {K : PySem.W.Frag} {d : D} {m : String} {t : Value} (e : tyN d = some m) (ht : ∀ n b, n ∈ blts → kitB m n = some b → PySem.W.kitOne K t (.type n) = some b) : ∀ {ns : List String} {b : Bool}, (∀ n ∈ ns, n ∈ blts) → isTys d ns = some b → PySem.W.kitAny K t (ns.map Value.type) = some b
  | [], b, _, h => by cases h; exact kitAny_nil
  | n :: ns, b, hn, h => by
    have h0 := hn n (List.mem_cons_self ..)
    have h1 : ∀ n ∈ ns, n ∈ blts := fun x m => hn x (List.mem_cons_of_mem _ m)
    unfold isTys at h
    split at h
    · cases h
      exact kitAny_cons (isTy_kit (by assumption) e h0 ht) (fun z => by cases z) fun _ => rfl
    · exact kitAny_cons (isTy_kit (by assumption) e h0 ht) (fun _ => isTys_kit e ht h1 h) fun z => by cases z
    · cases h
/-- the names of built-in types -/
inductive TyEs (X : Cx) : List Expr → List String → Prop where
  | nil : TyEs X [] []
  | cons {x : Str} {n : String} {p : Pos} {es : List Expr} {ns : List String} (hg : Gl X x) (hm : X.mg x = none) (hv : bootBuiltins x = some (.type n)) (hn : x ≠ "__name__") (hd : (x == ("__debug__" : Str)) = false) (hs : starEach (.Name x p :: es) X.env = (false, eval (.Name x p) X.env) :: starEach es X.env) (t : TyEs X es ns) : TyEs X (.Name x p :: es) (n :: ns)
theorem TyEs.pa : ∀ {es : List Expr} {ns : List String}, TyEs X es ns → PA X es (fun _ H Q => Q (ns.map V.ty) H)
  | _, _, .nil => pa_nil
  | _, _, .cons hg hm hv hn hd hs t => pa_cons (pe_bltn (v := .ty _) hg hm hv rfl hn hd) (TyEs.pa t) hs
theorem cls_all : ∀ ns : List String, Paired ClsV (ns.map V.ty) (ns.map Value.type)
  | [] => .nil
  | n :: ns => .cons (.ty n) (cls_all ns)
def isD1 (n : String) (C : CD) (d : D) (ρ : Ev) : Prop := ∃ b, isTy d n = some b ∧ C (.bl b) ρ
def isDs (ns : List String) (C : CD) (d : D) (ρ : Ev) : Prop := ∃ b, isTys d ns = some b ∧ C (.bl b) ρ
variable {D' : CD}
theorem tyN_of {d : D} {n : String} {b : Bool} (h : isTy d n = some b) : ∃ m, tyN d = some m := by
  unfold isTy at h
  cases e : tyN d with
  | none => rw [e] at h; cases h
  | some m => exact ⟨m, rfl⟩
theorem bt_int : bootBuiltins "int" = some (.type "int") := by decide +kernel
theorem bt_bool : bootBuiltins "bool" = some (.type "bool") := by decide +kernel
theorem bt_str : bootBuiltins "str" = some (.type "str") := by decide +kernel
theorem bt_list : bootBuiltins "list" = some (.type "list") := by decide +kernel
theorem bt_tuple : bootBuiltins "tuple" = some (.type "tuple") := by decide +kernel
theorem bt_dict : bootBuiltins "dict" = some (.type "dict") := by decide +kernel
theorem de_isi {x : Str} {n : String} {p1 : Pos} (hv : bootBuiltins x = some (.type n)) (hmi : X.mg "isinstance" = none) (hm : X.mg x = none) (h : DE X T A ρ e (fun d ρ1 => isD1 n D' d ρ1)) (hg : Gl X x := by rfl) (hgi : Gl X "isinstance" := by rfl) (hn : x ≠ "__name__" := by decide) (hd : (x == ("__debug__" : Str)) = false := by decide) (hbl : n ∈ blts := by decide)
    (he : starEach [e, .Name x p1] X.env = (false, eval e X.env) :: starEach [.Name x p1] X.env := by rfl) (he2 : starEach [.Name x p1] X.env = (false, eval (.Name x p1) X.env) :: starEach [] X.env := by rfl) (hpl : (backTo pos (starEach [.Name x p1] X.env)).any (·.1) = false := by rfl) : DE X T A ρ (.Call (.Name "isinstance" p) [e, .Name x p1] [] pos) D' :=
  DE.of (pe_callB call_isiZ hgi hmi (by decide +kernel) (pa_cons pe_go (pa_cons (pe_bltn (v := .ty n) hg hm hv rfl hn hd) pa_nil he2) he) (by decide) (by decide) he hpl) fun σ H Q F ok q => ⟨ρ, _, h, F, ok, fun d ρ1 ⟨b, e1, c⟩ v F1 H1 s1 w1 ok1 r1 => by
    obtain ⟨m, e2⟩ := tyN_of e1
    obtain ⟨t, h1, h2⟩ := ty_of ok1.sub r1 e2
    exact ⟨v, .ty n, t, .type n, b, rfl, .ty n, h1, isTy_kit e1 e2 hbl h2, q _ _ c _ F1 H1 s1 w1 ok1 (.bl _)⟩⟩
theorem de_isis {tys : List Expr} {ns : List String} {k : Nat} {p1 : Pos} (hmi : X.mg "isinstance" = none) (ht : TyEs X tys ns) (hz : ns.length ≤ sizeLine) (hne : ns ≠ []) (h : DE X T A ρ e (fun d ρ1 => isDs ns D' d ρ1)) (hgi : Gl X "isinstance" := by rfl) (hbl : ∀ n ∈ ns, n ∈ blts := by decide)
    (he : starEach [e, .Tuple tys k p1] X.env = (false, eval e X.env) :: starEach [.Tuple tys k p1] X.env := by rfl) (he2 : starEach [.Tuple tys k p1] X.env = (false, eval (.Tuple tys k p1) X.env) :: starEach [] X.env := by rfl) (hpl : (backTo pos (starEach [.Tuple tys k p1] X.env)).any (·.1) = false := by rfl) : DE X T A ρ (.Call (.Name "isinstance" p) [e, .Tuple tys k p1] [] pos) D' :=
  DE.of (pe_callB call_isiTZ hgi hmi (by decide +kernel) (pa_cons pe_go (pa_cons (pe_tup ht.pa) pa_nil he2) he) (by decide) (by decide) he hpl) fun σ H Q F ok q => ⟨ρ, _, h, F, ok, fun d ρ1 ⟨b, e1, c⟩ v F1 H1 s1 w1 ok1 r1 => ⟨by rw [List.length_map]; exact hz, fun tp htp => by
    have e2 : ∃ m, tyN d = some m := by
      cases ns with
      | nil => exact absurd rfl hne
      | cons n ns =>
        unfold isTys at e1
        split at e1
        · exact tyN_of (by assumption)
        · exact tyN_of (by assumption)
        · cases e1
    obtain ⟨m, e2⟩ := e2
    have ok2 := ok1.grow (same_upd (o := .tup (ns.map V.ty)) htp)
    obtain ⟨t, h1, h2⟩ := ty_of (fun b o z => same_upd (o := .tup (ns.map V.ty)) htp _ _ (ok1.sub _ _ z)) r1 e2
    exact ⟨v, tp, ns.map V.ty, t, ns.map Value.type, b, rfl, upd_same, cls_all ns, h1, isTys_kit e2 h2 hbl e1, q _ _ c _ F1 _ s1 w1 ok2 (.bl _)⟩⟩⟩
/-! ### calls of a def that a slot holds; calls with keywords -/
structure KnA (P : Program) (w : World) (K : PySem.W.Frag) (mg : Str → Option Value) (base : Heap) (T : List (Addr × Str)) (f : Addr) (k : Nat) (N : DF) : Prop where
  ex : ∃ (fd : FuncData) (ps : List Str), FnOk P w K mg base (L2.CX P w) k f fd ps (spD K T N) ∧ PySem.W.keepIn K (.ref f) = true ∧ Binds K fd ps []
theorem dv_callL {x : Str} {i k : Nat} {N : DF} {xc : XC} {f : Addr} (F : KnA X.prog X.w X.K X.mg X.base T f k N) (e0 : ρ.sl[i]? = some (.dat (.fn f))) (hr : Room k X.A) (tk : Takes X (WD X.K T A xc)) (h : DA X T A ρ (e :: es) (fun ds ρ1 => N ds ρ1.g (outD A xc C ρ1)))
    (hi : slotOf X.N x = some i := by rfl) (hv : Vis X.env.scope x := by first | exact Or.inl rfl | exact Or.inr (Or.inl rfl) | exact Or.inr (Or.inr rfl)) (hdb : (x == ("__debug__" : Str)) = false := by decide) (hcd : (x == ("__classdict__" : Str)) = false := by decide)
    (he : starEach (e :: es) X.env = (false, eval e X.env) :: starEach es X.env := by rfl) (hpl : (backTo pos (starEach es X.env)).any (·.1) = false := by rfl) : DV X T A ρ (.Call (.Name x p) (e :: es) [] pos) C := by
  obtain ⟨fd, ps, F, hk, hb⟩ := F.ex
  refine DV.of (pe_callL F hr (slotOf_ok hi) hv hk hb .nil (E := fun cls d H => WD X.K T A xc cls d [] H) (passes_call tk fun _ _ _ _ z => z) pa_go hdb hcd he hpl) fun σ H Q F ok q => ⟨?_, ρ, _, h, F, ok, fun ds ρ1 h1 vs F1 H1 s1 w1 ok1 r1 => ?_⟩
  · obtain ⟨v, e1, r⟩ := ok.slots i _ e0
    cases r
    exact e1
  · show spD X.K T N (vs ++ []) H1 Q _
    rw [List.append_nil]
    exact call_sp ok1 r1 h1 (fun d ρ' c v F' H' s' w' ok' r' => q d ρ' c v F' H' (s1.trans s') (w'.trans w1) ok' r') fun _ _ _ z => z
end blt
/-- names of built-ins that the text leaves as they are -/
structure Bi (mg : Str → Option Value) : Prop where
  isinstance : mg "isinstance" = none
  len : mg "len" = none
  all : mg "all" = none
  any : mg "any" = none
  int : mg "int" = none
  bool : mg "bool" = none
  str : mg "str" = none
  list : mg "list" = none
  tuple : mg "tuple" = none
  dict : mg "dict" = none
  abs : mg "abs" = none
  max : mg "max" = none
  min : mg "min" = none
  sum : mg "sum" = none
  range : mg "range" = none
  enumerate : mg "enumerate" = none
  zip : mg "zip" = none
  sorted : mg "sorted" = none
  set : mg "set" = none
  repr : mg "repr" = none
end DL
end

section
/-! enumerate of a tuple -/
namespace DL
open PySem
theorem new_enumT (t : Addr) (items : Array Value) : Meets (Builtin.«enumerate.__new__» ⟨[.type "enumerate", .ref t], []⟩) (fun _ R s => s.heap.IsTuple t items ∧
      R (.ok (.ret (.ref (s.heap.push { cls := .type "tuple_iterator", data := .fields #[.ref t, .int 0 0] }).objs.size)))
        { s with heap := (s.heap.push { cls := .type "tuple_iterator", data := .fields #[.ref t, .int 0 0] }).push { cls := .type "enumerate", data := .fields #[.none, .bool false, .ref s.heap.objs.size, rawInt 0, .none, .none] } }) :=
  .of_wp fun prog w A R s h => by
    obtain ⟨hp, g, d, tk, os⟩ := s
    obtain ⟨hl, h⟩ := h
    have hs := sub_enumerate
    have go : ∀ {A' : Around} {E : Value → Shared → Prop} {Q : Value → Shared → Prop}, Q (.ref hp.objs.size) ⟨hp.push { cls := .type "tuple_iterator", data := .fields #[.ref t, .int 0 0] }, g, d, tk, os⟩ → wpAny (model prog w) A' (pyIter (.ref t)) Q E ⟨hp, g, d, tk, os⟩ :=
      fun q => (begins_tuple t items).iter prog w _ _ ⟨hp, g, d, tk, os⟩ _ hl q
    wp_walk using go
    refine wpAny_stack_any fun st => wpAny_pure ?_
    split
    · rename_i c _ _ _ _ _
      cases (c == Value.type "enumerate") <;> (wp_walk using go; exact ⟨_, rfl, h⟩)
    · wp_walk using go
      exact ⟨_, rfl, h⟩
section
variable {prog : Program} {w : World} {A : Around} {E : Value → Shared → Prop} {s : Shared}
theorem call_enumT {t : Addr} {items : Array Value} {Q : Value → Shared → Prop} (hL : s.heap.IsTuple t items)
    (h : ∀ h', IsEnum h' (s.heap.objs.size + 1) s.heap.objs.size 0 .none → h'.IsTupleIter s.heap.objs.size t 0 → (∀ b o, s.heap.get? b = some o → h'.get? b = some o) → Q (.ref (s.heap.objs.size + 1)) { s with heap := h' }) :
    wpAny (model prog w) A (call (.type "enumerate") [.ref t]) Q E s := by
  refine callType_new F.called_enumerate (by decide) (F.typeCall_enumerate_1 _) (F.newCall_enumerate_1 _) (fun obj => F.args_object_init_2 obj _) F.entry_enumerate_new (new_enumT t items) ⟨hL, ?_⟩
  have hz : (s.heap.push { cls := .type "tuple_iterator", data := .fields #[.ref t, .int 0 0] }).objs.size = s.heap.objs.size + 1 := Heap.size_push ..
  show _ ∧ _
  rw [hz]
  have he : IsEnum ((s.heap.push { cls := .type "tuple_iterator", data := .fields #[.ref t, .int 0 0] }).push
      { cls := .type "enumerate", data := .fields #[.none, .bool false, .ref s.heap.objs.size, rawInt 0, .none, .none] }) (s.heap.objs.size + 1) s.heap.objs.size 0 .none := by
    have z := Heap.get?_push_size (s.heap.push { cls := .type "tuple_iterator", data := .fields #[.ref t, .int 0 0] }) (o := { cls := .type "enumerate", data := .fields #[.none, .bool false, .ref s.heap.objs.size, rawInt 0, .none, .none] }) rfl
    rw [hz] at z
    exact z
  exact ⟨⟨_, he, rfl⟩, h _ he ⟨_, Heap.get?_push_of_some _ (Heap.get?_push_size _ rfl), rfl, rfl⟩ fun b o x => Heap.get?_push_of_some _ (Heap.get?_push_of_some _ x)⟩
end
end DL
namespace DL
open PySem PySem.Spec L2
def Iet (K : PySem.W.Frag) (a : Addr) : It :=
  ⟨fun i H => ∃ (xs : List V) (x : V), SqT K H a xs ∧ xs[i]? = some x, fun i H v H' => ∃ T x, v = .ref T ∧ H T = none ∧ H' = upd H T (.tup [.int (i : Nat), x]) ∧ ∀ xs, SqT K H a xs → xs[i]? = some x, fun i H => ∃ xs : List V, SqT K H a xs ∧ xs.length = i⟩
theorem turn_enumT {P : Program} {w : World} {K : PySem.W.Frag} {elts : List Expr} {kk : Nat} {tpos : Pos} (a e it : Addr) :
    Turn P w K (.Tuple elts kk tpos) (Iet K a) [e, it] e (fun i h => (∃ old, IsEnum h e it ((i : Nat) : Int) old) ∧ h.IsTupleIter it a i ∧ e ≠ it ∧ a ≠ it ∧ a ≠ e) where
  mem := by simp
  obj := fun i h ⟨⟨old, he⟩, hit, _⟩ b hb => by
    have hb' : b = e ∨ b = it := by simpa using hb
    rcases hb' with rfl | rfl
    · exact ⟨_, he, fun v z => by cases z⟩
    · obtain ⟨o, q, _, d⟩ := hit
      exact ⟨o, q, fun v z => by rw [d] at z; cases z⟩
  keep := fun i h h' ⟨⟨old, he⟩, hit, hne⟩ k => ⟨⟨old, k e (by simp) _ he⟩, hit.at fun o q => k it (by simp) o q, hne⟩
  item := by
    intro X hP hw hK hc i pins s σ H E I hf st hg
    subst hP hw hK
    obtain ⟨⟨old, he⟩, hit, hne, hai, hae⟩ := st
    obtain ⟨xs, x, hq, hx⟩ := hg
    obtain ⟨its, rv, p, hz⟩ := I.tuple hq
    obtain ⟨u, hu, ru⟩ := rv.get hx
    have hel : e < s.heap.objs.size := Heap.lt_size he
    have hil : it < s.heap.objs.size := by obtain ⟨_, q, _⟩ := hit; exact Heap.lt_size q
    have hlt : i < its.toArray.size := by
      rw [List.size_toArray]
      exact (List.getElem?_eq_some_iff.mp hu).1
    have Dr := Draws.tuple (prog := X.prog) (w := X.w) (A := X.A.in1) (I.ok.hd hc) it a hai its.toArray
    refine wpAny_pyNext_enum_itemD Dr he ⟨hit, p⟩ hlt hne (by simp [hne, Ne.symm hae]) fun y h' tk hy ho hst hT hsz hk => ?_
    have ey : y = u := by
      rw [show its.toArray[i]? = its[i]? by simp, hu] at hy
      exact (Option.some.inj hy).symm
    subst ey
    refine ⟨_, rfl, wpAny_letOwnedTupleGo_enum (s := { s with heap := h', toks := tk + 1 }) ho fun h'' he' sb => ?_⟩
    have hT2 : h''.get? s.heap.objs.size = some { cls := .type "tuple", data := .seq #[.int i tk, y] } := (sb.2 _ (Nat.ne_of_gt hel)).trans hT
    have new : ObjOk X.prog X.w (upd H s.heap.objs.size (.tup [.int (i : Nat), x])) h'' s.heap.objs.size (.tup [.int (i : Nat), x]) :=
      ⟨by show 2 ≤ sizeLine; decide, [.int i tk, y], .cons ⟨_, rfl⟩ (.cons ru .nil), ⟨_, hT2, rfl, _, rfl⟩⟩
    have I1 : L2.Inv X pins σ (upd H s.heap.objs.size (.tup [.int (i : Nat), x])) { s with heap := h'', toks := tk + 1 } :=
      I.turnedNew (ch := [e, it]) (fun b ob hb q => (sb.2 b (fun z => hb (by simp [z]))).trans (hk b ob (fun z => hb (by simp [z])) (fun z => hb (by simp [z])) q)) hf (Nat.le_refl _) new
    refine ⟨.ref s.heap.objs.size, _, I1, rfl, ⟨_, x, rfl, I.hok.fresh (Nat.le_refl _), rfl, fun ys hy => by rw [I.tuple_inj hy hq]; exact hx⟩, ⟨⟨y, ?_⟩, hst.1.at fun o q => (sb.2 it (Ne.symm hne)).trans q, hne, hai, hae⟩, fun b hb => ?_⟩
    · have e1 : ((i + 1 : Nat) : Int) = (i : Int) + 1 := by omega
      rw [e1]; exact he'
    · have hb' : b < s.heap.objs.size := by
        have e' : b = e ∨ b = it := by simpa using hb
        rcases e' with z | z
        · rw [z]; exact hel
        · rw [z]; exact hil
      rw [upd_ne (Nat.ne_of_lt hb')]
      exact (hf b hb).1
  done := by
    intro X hP hw hK hc i pins s σ H E I hf st hg
    subst hP hw hK
    obtain ⟨⟨old, he⟩, hit, hne, hai, hae⟩ := st
    obtain ⟨xs, hq, hx⟩ := hg
    obtain ⟨its, rv, p, hz⟩ := I.tuple hq
    obtain ⟨f0, f1, f2, f3, f4, f5⟩ := hf it (by simp)
    have hl := rv.length
    have Dr := Draws.tuple (prog := X.prog) (w := X.w) (A := X.A.in1) (I.ok.hd hc) it a hai its.toArray
    have hi : i = its.length := by omega
    subst hi
    have sz : its.toArray.size = its.length := by simp
    exact wpAny_pyNext_enum_endD Dr he (by rw [sz]; exact ⟨hit, p⟩) fun h' eb => ⟨rfl, I.turned (t' := s.toks) (fun b o hb q => eb b o hb q) f0 f1 f3 f4 f5⟩
  self := fun A i s Q E st h => let ⟨⟨_, he⟩, _⟩ := st; wpAny_pyIter_enum he h
/-- enumerate of a list or of a tuple -/
def iEnumS (K : PySem.W.Frag) (ta : TA) : TI := fun σ H R => ta σ H fun vs H1 => ∃ a, vs = [.ref a] ∧ ((∃ xs, SqL K H1 a xs ∧ R (Ite K a) H1) ∨ ∃ xs, SqT K H1 a xs ∧ R (Iet K a) H1)
theorem pi_enumS {X : Cx} {e : Expr} {ta : TA} {p pos tpos : Pos} {elts : List Expr} {kk : Nat} (hg : Gl X "enumerate") (hm : X.mg "enumerate" = none) (ha : PA X [e] ta) (hs : starEach [e] X.env = [(false, eval e X.env)] := by rfl) :
    PI X (.Tuple elts kk tpos) (.Call (.Name "enumerate" p) [e] [] pos) (iEnumS X.K ta) := by
  refine ⟨fun pins s σ H R I h => ?_⟩
  refine PyProof.Rows.Call_ (ld_blt I hg hm PyProof.Rows.boot_enumerate (PyProof.Rows.callWith_type1 (thn (ha.run pos pins s σ H _ I h) fun us s1 ⟨vs, H1, I1, r1, q1⟩ => ?_) hs rfl))
  obtain ⟨a, rfl, q⟩ := q1
  cases r1 with
  | cons r rr =>
    cases rr
    cases r
    rcases q with ⟨xs, hq, q⟩ | ⟨xs, hq, q⟩
    · obtain ⟨its, rv, p', hz⟩ := I1.list hq
      refine call_enumerate_list p'.isList fun h' he hit hsz hk => wpAny_pyIter_enum he ?_
      have I2 : L2.Inv X pins σ H1 { s1 with heap := h' } := I1.kept (t' := s1.toks) hk
      refine ⟨s1.heap.objs.size + 1, [s1.heap.objs.size + 1, s1.heap.objs.size], _, _, H1, rfl, I2, turn_enum a (s1.heap.objs.size + 1) s1.heap.objs.size, ⟨⟨.none, he⟩, hit, Nat.succ_ne_self _⟩, fun b hb => ?_, q⟩
      have e' : b = s1.heap.objs.size + 1 ∨ b = s1.heap.objs.size := by simpa using hb
      have hle : s1.heap.objs.size ≤ b := by rcases e' with z | z <;> (rw [z]; omega)
      exact I1.fpOk hle (I1.hok.fresh hle)
    · obtain ⟨its, rv, p', hz⟩ := I1.tuple hq
      have hl : a < s1.heap.objs.size := p'.lt
      refine call_enumT p' fun h' he hit hk => wpAny_pyIter_enum he ?_
      have I2 : L2.Inv X pins σ H1 { s1 with heap := h' } := I1.kept (t' := s1.toks) hk
      refine ⟨s1.heap.objs.size + 1, [s1.heap.objs.size + 1, s1.heap.objs.size], _, _, H1, rfl, I2, turn_enumT a (s1.heap.objs.size + 1) s1.heap.objs.size, ⟨⟨.none, he⟩, hit, Nat.succ_ne_self _, Nat.ne_of_lt hl, Nat.ne_of_lt (Nat.lt_succ_of_lt hl)⟩, fun b hb => ?_, q⟩
      have e' : b = s1.heap.objs.size + 1 ∨ b = s1.heap.objs.size := by simpa using hb
      have hle : s1.heap.objs.size ≤ b := by rcases e' with z | z <;> (rw [z]; omega)
      exact I1.fpOk hle (I1.hok.fresh hle)
def enumOf (i : Nat) : List D → List D
  | [] => []
  | d :: ds => .tup [.int (i : Int), d] :: enumOf (i + 1) ds
theorem enumOf_len : ∀ (i : Nat) (ds : List D), (enumOf i ds).length = ds.length
  | _, [] => rfl
  | i, d :: ds => by rw [enumOf, List.length_cons, List.length_cons, enumOf_len]
theorem enumOf_get : ∀ (ds : List D) (i j : Nat), (enumOf i ds)[j]? = ds[j]?.map fun d => .tup [.int ((i + j : Nat) : Int), d]
  | [], _, j => by simp [enumOf]
  | d :: ds, i, 0 => by simp [enumOf]
  | d :: ds, i, j + 1 => by
    rw [enumOf, List.getElem?_cons_succ, List.getElem?_cons_succ, enumOf_get ds (i + 1) j, show i + 1 + j = i + (j + 1) by omega]
section
variable {X : Cx} {T : List (Addr × Str)} {A : Anc} {ρ : Ev} {e : Expr} {pos p tpos : Pos}
theorem yields_enumL {F : Hp} {ws : List Addr} {q : Addr} {xs : List V} {ds : List D} (h : SqL X.K F q xs) (t : Rs X.K F ws xs ds) : Yields X T A (Ite X.K q) F ws (enumOf 0 ds) := by
  refine ⟨fun i F1 H1 s1 s2 l => ?_, fun i F1 H1 s1 s2 l => ?_, fun i d F1 H1 σ ρ x H2 e s1 ok w y => ?_⟩
  · have hl : i < xs.length := by rw [t.len, ← enumOf_len 0 ds]; exact l
    exact ⟨xs, xs[i], sqL_mono (s1.trans s2) h, List.getElem?_eq_getElem hl⟩
  · exact ⟨xs, sqL_mono (s1.trans s2) h, by rw [t.len, ← enumOf_len 0 ds]; exact Nat.le_of_eq l⟩
  · obtain ⟨tp, v, rfl, hn, rfl, y⟩ := y
    rw [enumOf_get] at e
    obtain ⟨d', e1, rfl⟩ := Option.map_eq_some_iff.mp e
    obtain ⟨v', e2, r⟩ := t.get e1
    have e3 := y xs (sqL_mono (s1.trans ok.sub) h)
    rw [e2] at e3
    have e4 : v' = v := Option.some.inj e3
    subst e4
    have r' := R.mono s1 w _ _ r
    obtain ⟨F2, s2, ok2, r2⟩ := ok.newT (vs := [.int (i : Nat), v']) (ds := [.int (i : Nat), d']) (.cons (.int _) (.cons r' .nil)) hn
    refine ⟨F2, s2, ok2, ?_⟩
    rw [Nat.zero_add]
    exact r2
theorem yields_enumT {F : Hp} {ws : List Addr} {q : Addr} {xs : List V} {ds : List D} (h : SqT X.K F q xs) (t : Rs X.K F ws xs ds) : Yields X T A (Iet X.K q) F ws (enumOf 0 ds) := by
  refine ⟨fun i F1 H1 s1 s2 l => ?_, fun i F1 H1 s1 s2 l => ?_, fun i d F1 H1 σ ρ x H2 e s1 ok w y => ?_⟩
  · have hl : i < xs.length := by rw [t.len, ← enumOf_len 0 ds]; exact l
    exact ⟨xs, xs[i], sqT_mono (s1.trans s2) h, List.getElem?_eq_getElem hl⟩
  · exact ⟨xs, sqT_mono (s1.trans s2) h, by rw [t.len, ← enumOf_len 0 ds]; exact l⟩
  · obtain ⟨tp, v, rfl, hn, rfl, y⟩ := y
    rw [enumOf_get] at e
    obtain ⟨d', e1, rfl⟩ := Option.map_eq_some_iff.mp e
    obtain ⟨v', e2, r⟩ := t.get e1
    have e3 := y xs (sqT_mono (s1.trans ok.sub) h)
    rw [e2] at e3
    have e4 : v' = v := Option.some.inj e3
    subst e4
    have r' := R.mono s1 w _ _ r
    obtain ⟨F2, s2, ok2, r2⟩ := ok.newT (vs := [.int (i : Nat), v']) (ds := [.int (i : Nat), d']) (.cons (.int _) (.cons r' .nil)) hn
    refine ⟨F2, s2, ok2, ?_⟩
    rw [Nat.zero_add]
    exact r2
def enumD (C : CL) : List D → Ev → Prop
  | [d], ρ => ∃ ds, seqD d = some ds ∧ C (enumOf 0 ds) ρ
  | _, _ => False
theorem di_enum {C : CL} {elts : List Expr} {kk : Nat} (hm : X.mg "enumerate" = none) (h : DA X T A ρ [e] (fun ds ρ1 => enumD C ds ρ1)) (hg : Gl X "enumerate" := by rfl) (hs : starEach [e] X.env = [(false, eval e X.env)] := by rfl) : DI X T A ρ (.Tuple elts kk tpos) (.Call (.Name "enumerate" p) [e] [] pos) C :=
  ⟨⟨fun pins s σ H R I ⟨F, ok, q⟩ => (pi_enumS hg hm (pa_go (T := T) (A := A)) hs).run pins s σ H R I ⟨ρ, _, h, F, ok, fun ds ρ1 c vs F1 H1 s1 w1 ok1 r1 => by
    replace c : enumD C ds ρ1 := c
    unfold enumD at c
    split at c
    · obtain ⟨v, rfl, r⟩ := r1.one
      obtain ⟨ds, e1, c⟩ := c
      cases r with
      | lst h t => cases e1; exact ⟨_, rfl, .inl ⟨_, .of (ok1.sub _ _ h), q _ _ c _ F1 H1 s1 w1 ok1 (yields_enumL (.of h) t)⟩⟩
      | kl h t => cases e1; exact ⟨_, rfl, .inl ⟨_, sqL_mono ok1.sub h, q _ _ c _ F1 H1 s1 w1 ok1 (yields_enumL h t)⟩⟩
      | tup h t => cases e1; exact ⟨_, rfl, .inr ⟨_, sqT_mono ok1.sub h, q _ _ c _ F1 H1 s1 w1 ok1 (yields_enumT h t)⟩⟩
      | _ => cases e1
    · exact c.elim⟩⟩⟩
end
end DL
end

section
/-! The __init__ of an own exception class that says super().__init__(x); self.f = x. -/
namespace DL
open PySem PySem.Spec L2
section
variable {P : Program} {w : World} {K : PySem.W.Frag} {mg : Str → Option Value} {base : Heap}
def iniCx (P : Program) (w : World) (K : PySem.W.Frag) (mg : Str → Option Value) (base : Heap) (N : List Str) (qual : Str) (scope : Scope) (f cda cc : Addr) (A : Around) (outer : List Env) (s : Shared) (H : Hp) (E : XK) : Cx where
  prog := P
  w := w
  K := K
  mg := mg
  base := base
  A := A.deeper (PySem.W.ksEnv qual scope s.heap.objs.size f (.ref cda) cc)
  N := N
  s_0 := s
  H_0 := H
  env := PySem.W.ksEnv qual scope s.heap.objs.size f (.ref cda) cc
  outer := outer
  stack := PySem.W.ksEnv qual scope s.heap.objs.size f (.ref cda) cc :: outer
  ex := []
  calm := true
  fn := fun _ => false
  pn := []
  xe := fun e s' => wpAny (model P w) (A.deeper (PySem.W.ksEnv qual scope s.heap.objs.size f (.ref cda) cc)) (leaving (PySem.W.ksEnv qual scope s.heap.objs.size f (.ref cda) cc) e) (fun _ s'' => L2.CX P w outer H s E e s'') (fun e' s'' => L2.CX P w outer H s E e' s'') s'
/-- the names of such an __init__ -/
structure IniS (x : Str) (scope : Scope) : Prop where
  kind : scope.kind = .function
  co : scope.isCoroutine = false
  gen : scope.isGenerator = false
  cell : ∀ y ∈ scope.names, y.2 ≠ .cell
  free : ∀ y ∈ scope.names, y.2 = .free → y.1 = "__class__"
  cls : scope.names.lookup ("__class__" : Str) = some .free
  sup : scope.names.lookup ("super" : Str) = some .globalImplicit
  self : scope.names.lookup ("self" : Str) = some .local
  par : scope.names.lookup x = some .local
  ne : x ≠ "self"
  db : (x == ("__debug__" : Str)) = false
  cd : (x == ("__classdict__" : Str)) = false
def iniSB (x : Str) (scope : Scope) : Bool :=
  decide (scope.kind = .function) && !scope.isCoroutine && !scope.isGenerator && (scope.names.all fun y => !decide (y.2 = .cell) && (!decide (y.2 = .free) || y.1 == "__class__")) && decide (scope.names.lookup ("__class__" : Str) = some .free) &&
  decide (scope.names.lookup ("super" : Str) = some .globalImplicit) && decide (scope.names.lookup ("self" : Str) = some .local) && decide (scope.names.lookup x = some .local) && !(x == "self") && !(x == ("__debug__" : Str)) && !(x == ("__classdict__" : Str))
theorem iniS_by {x : Str} {scope : Scope} (h : iniSB x scope = true) : IniS x scope := by
  unfold iniSB at h
  simp only [Bool.and_eq_true, Bool.or_eq_true, Bool.not_eq_true', decide_eq_true_eq, decide_eq_false_iff_not, List.all_eq_true, beq_iff_eq] at h
  obtain ⟨⟨⟨⟨⟨⟨⟨⟨⟨⟨h1, h2⟩, h3⟩, h4⟩, h5⟩, h6⟩, h7⟩, h8⟩, h9⟩, h10⟩, h11⟩ := h
  refine ⟨h1, h2, h3, fun y hy => (h4 y hy).1, fun y hy e => ?_, h5, h6, h7, h8, fun z => ?_, h10, h11⟩
  · rcases (h4 y hy).2 with z | z
    · exact absurd e z
    · exact z
  · rw [z] at h9
    simp at h9
theorem ini_start {x qual : Str} {scope : Scope} {f cda cc C : Addr} {A : Around} {outer : List Env} {s : Shared} {H : Hp} {E : XK} {a : Addr} {v : V} {u cl : Value} {cld : Option Addr} {csl : Array (Option Value)} {h₀ : Heap} {tk : Nat} (S : IniS x scope) (e0 : Env0 P w K mg base A outer s H) (hd : A.handled = none)
    (hcc : K.lookup cc = some ⟨cl, cld, .cell (some (.ref C)), csl⟩) (hns : h₀.Ns s.heap.objs.size (fun y => [(("self" : Str), Value.ref a), (x, u)].reverse.lookup y)) (kp : ∀ b o, s.heap.get? b = some o → h₀.get? b = some o) (r : RelV v u) :
    Inv (iniCx P w K mg base ["self", x] qual scope f cda cc A outer s H E) [] [some (.ref a), some v] H { s with heap := h₀, toks := tk } := by
  have noA : ∀ b : Addr, b ∉ (iniCx P w K mg base ["self", x] qual scope f cda cc A outer s H E).ex := fun b z => absurd (show b ∈ ([] : List Addr) from z) (by simp)
  have one : ∀ {y : Str} {c : Addr}, [(("__class__" : Str), cc)].lookup y = some c → y = "__class__" ∧ c = cc := fun {y c} h => by
    have m := PySem.mem_of_lookup h
    simp only [List.mem_singleton, Prod.mk.injEq] at m
    exact m
  have bcc := e0.bs cc _ (e0.mod.kin _ _ hcc)
  refine ⟨⟨e0.mod, S.kind, rfl, rfl, Nat.le_refl _, fun y z c h1 h2 => ?_, fun y hy => ?_, fun y c z _ => (by cases z), fun _ => hd, Around.frames_deeper e0.frames, .inr ⟨rfl, rfl⟩, fun b z => absurd z (noA b), e0.bs, e0.bsz, fun b _ _ => noA b, fun b z => absurd z (noA b), e0.funs, e0.frf⟩,
    rfl, e0.bare, Un.kept kp, ⟨_, hns, fun i y z h1 h2 h3 => ?_⟩, fun y c h => ?_, e0.hok.fresh (Nat.le_refl _), fun y c h => ?_, fun p hp => absurd (show p ∈ ([] : List (Addr × Obj)) from hp) (by simp), e0.hok.kept kp, rfl⟩
  · exact (one h1).1.trans (one h2).1.symm
  · have hy : scope.names.lookup y = some .cell ∨ scope.names.lookup y = some .free := hy
    rcases hy with hy | hy
    · exact absurd rfl (S.cell _ (PySem.mem_of_lookup hy))
    · have e := S.free _ (PySem.mem_of_lookup hy) rfl
      dsimp only at e
      subst e
      exact ⟨cc, rfl⟩
  · have h1 : (["self", x] : List Str)[i]? = some y := h1
    match i with
    | 0 =>
      cases h1
      cases h2
      refine ⟨.ref a, rfl, .inl ⟨S.self, ?_⟩⟩
      show ([(x, u), (("self" : Str), Value.ref a)] : List (Str × Value)).lookup ("self" : Str) = _
      rw [List.lookup_cons, show (("self" : Str) == x) = false from by simpa using Ne.symm S.ne]
      rfl
    | 1 =>
      cases h1
      cases h2
      refine ⟨u, r, .inl ⟨S.par, ?_⟩⟩
      show ([(x, u), (("self" : Str), Value.ref a)] : List (Str × Value)).lookup x = _
      rw [List.lookup_cons, beq_self_eq_true]
    | i + 2 => simp at h1
  · obtain ⟨_, rfl⟩ := one h
    exact ⟨_, _, kp _ _ bcc.1, rfl⟩
  · obtain ⟨_, rfl⟩ := one h
    exact bcc.2

/-- what such an __init__ promises -/
def spIni (C : Addr) (fn : Str) : Sp := fun vs H Q _ => ∃ (a : Addr) (v : V), vs = [.ref a, v] ∧ H a = some (exo a C none) ∧ ∀ dx, H dx = none → dx ≠ a → Q .non (upd (upd H dx (exd dx [(fn, v)])) a (exo a C (some dx)))
/-- super().__init__(..) over ValueError: the wrapper called -/
theorem mw_call {X : Cx} {pins : List (Addr × Obj)} {σ : L2.St} {H : Hp} {s : Shared} {a C q : Addr} {us : List Value} {Q : Value → Shared → Prop} {E : Value → Shared → Prop} {A : Around} (T : OexC X.K C) (I : Inv X pins σ H s) (e : H a = some (exo a C none)) (hu : s.heap.get? q = some (PySem.W.kxs_mw "ValueError.__init__" a)) (hl : us.length ≤ sizeLine) (h : ∀ s', Inv X pins σ H s' → Q .none s') :
    wpAny (model X.prog X.w) A (call (.ref q) us) Q E s := by
  obtain ⟨nm, qq, N, bs, bm, sn, sub, ab, col, dd, k0, k1, k2, k3, k5, hC, hbm⟩ := T.cls
  obtain ⟨t1, ho⟩ := exo_at I.hok e
  obtain ⟨hp, g, d, t, os⟩ := s
  refine wpAny_call (codeAny_of_tree ?_)
  show wpAny _ A.in1 (callAny (.ref q) ⟨us, []⟩) _ _ _
  simp only [callAny]
  refine wpAny_bind (wpAny_load hu ?_)
  simp only [PySem.W.kxs_mw, show (Value.type "method-wrapper" == Value.type "method" || Value.type "method-wrapper" == Value.type "builtin_function_or_method" || Value.type "method-wrapper" == Value.type "method-wrapper") = true by decide, if_true]
  refine PySem.W.KFB.if_so (by decide) ?_
  refine wpAny_bind (PySem.W.check_bound_init PySem.F.excBase_ValueError.toExcCallFacts (I.kIn _ _ hC) ho rfl ?_)
  refine wpAny_bind (wpAny_pure (wpAny_pure ?_))
  refine ⟨plainId_quiet PySem.F.excBase_ValueError.init.plain _, codeAny_builtin PySem.F.excBase_ValueError.initEntry ?_⟩
  refine PySem.W.exc_init_tree (cls := .ref C) (t0 := t1) (dv := none) (c2 := .none) (c3 := .none) (b4 := .bool false) ho hl fun h' k hx _ => ?_
  have J := I.write (t' := t) (x := a) (e := a) (o := exo a C none) (by rw [e]; exact True.intro) (.inl rfl) k ⟨_, hx⟩ (exo_ok hx)
  have eu : upd H a (exo a C none) = H := by
    funext b
    by_cases hb : b = a
    · rw [hb, upd_same, e]
    · rw [upd_ne hb]
  rw [eu] at J
  exact h _ J
/-- what the written part says of such an __init__ -/
structure IniFn (P : Program) (K : PySem.W.Frag) (mg : Str → Option Value) (C fI : Addr) (x fn : Str) (fd : FuncData) : Prop where
  fd : ∃ (oc cl ccl : Value) (od cdd cld : Option Addr) (osl ccs csl : Array (Option Value)) (qual file : Str) (tf : Tok) (params : Arguments) (scope : Scope) (dV kV doc pm ct : Value) (an : Option Addr) (cda cc : Addr) (vs : Array Value) (p0 p1 p2 p3 p4 p5 p6 p7 p8 p9 : Pos),
    fd = PySem.W.ksFn "__init__" qual params [.Expr (.Call (.Attribute (.Call (.Name "super" p0) [] [] p1) "__init__" p2) [.Name x p3] [] p4) p5, .Assign [.Attribute (.Name "self" p6) fn p7] (.Name x p8) p9] scope dV kV doc pm an (.ref cda) ct cc ∧
    K.lookup fI = some ⟨oc, od, .func fd, osl⟩ ∧ PySem.W.codeIn K (.ref cda) qual = true ∧ K.lookup cda = some ⟨ccl, cdd, .fields vs, ccs⟩ ∧ vs[2]? = some (.str file tf) ∧ ((P.main.file : Str) == file) = true ∧
    K.lookup cc = some ⟨cl, cld, .cell (some (.ref C)), csl⟩ ∧ ((params.posonlyargs ++ params.args).head?.map (·.arg)) = some "self" ∧ IniS x scope ∧
    ∀ env : Env, ∃ pl : Sem Bool, eval (.Call (.Attribute (.Call (.Name "super" p0) [] [] p1) "__init__" p2) [.Name x p3] [] p4) env = (do
      let ov ← attributeBase (.Call (.Name "super" p0) [] [] p1) "__init__" env (eval (.Call (.Name "super" p0) [] [] p1) env)
      standAt p2.atName
      let (f, first) ← holding [ov] (getMethod ov "__init__" pl)
      callWith p4 f first (backTo p4 (starEach [.Name x p3] env)) [])
  sup : PySem.W.ks_superIn K C C "__init__" = some (some (.builtin "ValueError.__init__"))
  sub : PySem.W.subIn K (.ref C) (.type "ValueError") = some true
  own : PySem.W.mroIn K C (.ref C) = some true
  cls : ∃ cd, PySem.W.clsIn K C = some cd
  no : PySem.W.findIn K (.ref C) fn = some none
  oex : OexC K C
structure SupM (P : Program) (K : PySem.W.Frag) (mg : Str → Option Value) : Prop where
  sup : mg "super" = none
  top : (P.main.scope.names.lookup ("super" : Str)).isSome = false
  any : PySem.W.nsIn K cStatics "thirdparty.any" = some none
theorem ini_ok {C fI : Addr} {x fn : Str} {fd : FuncData} (S : SupM P K mg) (F : IniFn P K mg C fI x fn fd) : FnOk P w K mg base (L2.CX P w) 1 fI fd ["self", x] (spIni C fn) := by
  obtain ⟨oc, cl, ccl, od, cdd, cld, osl, ccs, csl, qual, file, tf, params, scope, dV, kV, doc, pm, ct, an, cda, cc, vs, p0, p1, p2, p3, p4, p5, p6, p7, p8, p9, rfl, lk, hcd, lcd, hvs, hfile, lcc, hpar, Sc, hmc⟩ := F.fd
  refine ⟨fun vs H Q E ⟨a, v, e, _⟩ => by rw [e] <;> rfl, fun A outer s H args us vs' Q E hr e0 hb rv hs => ?_⟩
  obtain ⟨a, v, rfl, ea, q⟩ := hs
  cases rv with
  | cons ra rr =>
  cases rr with
  | cons rx rn =>
  cases rn
  rename_i u0 u1
  obtain rfl : u0 = Value.ref a := ra
  have KX : K.In s.heap := e0.mod.kin.keeps fun b o e => (e0.bs b o e).1
  have lim : s.heap.NoLimit := e0.mod.nolimit.keeps fun b o e => (e0.bs b o e).1
  refine ks_codeAny_call_defAt hr.depth (KX _ _ lk) rfl lim (PySem.W.codeRec_of KX hcd) rfl hb Sc.cell ?_ (fun h₀ hns kp => ?_) Sc.co Sc.gen Sc.kind
  · intro y hy
    have hy : y ∈ [(("self" : Str), Value.ref a), (x, u1)] := hy
    simp only [List.mem_cons, List.not_mem_nil, or_false] at hy
    rcases hy with rfl | rfl
    · exact Sc.self
    · exact Sc.par
  have J := ini_start (tk := s.toks + ([(("self" : Str), Value.ref a), (x, u1)] : List (Str × Value)).length) (qual := qual) (f := fI) (cda := cda) (E := E) Sc e0 hr.hd lcc hns kp rx
  have gself : (fun y => ([(("self" : Str), Value.ref a), (x, u1)] : List (Str × Value)).reverse.lookup y) "self" = some (.ref a) := by
    show ([(x, u1), (("self" : Str), Value.ref a)] : List (Str × Value)).lookup ("self" : Str) = _
    rw [List.lookup_cons, show (("self" : Str) == x) = false from by simpa using Ne.symm Sc.ne]
    rfl
  show wpAt (model P w) (A.deeper (PySem.W.ksEnv qual scope s.heap.objs.size fI (.ref cda) cc)) (.func _ (PySem.W.ksEnv qual scope s.heap.objs.size fI (.ref cda) cc)) (execs _ (PySem.W.ksEnv qual scope s.heap.objs.size fI (.ref cda) cc)) _ _ _
  obtain ⟨cdC, hcls⟩ := F.cls
  obtain ⟨t1, ho⟩ := exo_at J.hok ea
  obtain ⟨ar, har, hself⟩ : ∃ ar : Arg, (params.posonlyargs ++ params.args).head? = some ar ∧ ar.arg = "self" := by
    cases h : (params.posonlyargs ++ params.args).head? with
    | none => rw [h] at hpar; cases hpar
    | some ar => rw [h] at hpar; exact ⟨ar, rfl, Option.some.inj hpar⟩
  have X1 : K.In h₀ := fun b o e => kp _ _ (KX _ _ e)
  obtain ⟨oD, hD1, hD2⟩ : ∃ oD, h₀.get? C = some oD ∧ oD.data = .cls cdC := by
    have hD := hcls
    unfold PySem.W.clsIn at hD
    split at hD
    · rename_i c d cd' sl ho
      cases hD
      exact ⟨_, X1 _ _ ho, rfl⟩
    · cases hD
  obtain ⟨mb, hb1, hb2⟩ := e0.mod.blt
  have bk : ∀ b o, base.get? b = some o → h₀.get? b = some o := fun b o e => kp _ _ (e0.bs b o e).1
  obtain ⟨pl, hmc⟩ := hmc (PySem.W.ksEnv qual scope s.heap.objs.size fI (.ref cda) cc)
  refine ks_wpAt_execs_cons (ks_wpAt_Expr_any (ks_wpAt_MethodCall ?_ hmc) (by show (scope.kind == .module && _) = false; rw [Sc.kind]; rfl))
  refine ks_wpAt_super_base (env := PySem.W.ksEnv qual scope s.heap.objs.size fI (.ref cda) cc) Sc.sup Sc.cls (by decide) rfl (X1 _ _ lk) rfl har rfl (X1 _ _ lcd) rfl hvs hfile S.top ?_
  have hboot : mb "super" = some (.type "super") := (hb2 _ (by decide)).trans PyProof.Rows.Boot.«super»
  refine PySem.W.ks_loadName_global Sc.kind Sc.sup (PySem.Calls.loadGlobal_builtin (env := PySem.W.ksEnv qual scope s.heap.objs.size fI (.ref cda) cc) (e0.mod.glob.keeps bk) S.sup (hb1.keeps bk) hboot ⟨rfl, ?_⟩)
  refine wpAny_loadName_free Sc.kind Sc.cls rfl ⟨_, X1 _ _ lcc, rfl⟩ ?_
  rw [hself]
  refine wpAny_loadName_local Sc.kind Sc.self hns gself ?_
  refine ks_wpAny_isType_cls hD1 hD2 ⟨rfl, ?_⟩
  refine ks_wpAny_call_super hD1 hD2 ho rfl (fun c e => by cases e) (PySem.W.looks_mroIn X1 F.own) (fun h1 e1 k1 => ?_)
  have J1 := J.kept (t' := s.toks + 2) k1
  have ne : a ≠ C := by
    rintro rfl
    rw [hD1] at ho
    cases ho
    cases hD2
  have hm := F.sup
  unfold PySem.W.ks_superIn at hm
  rw [hcls] at hm
  have X2 : K.In h1 := fun b o e => k1 _ _ (X1 _ _ e)
  have hI : PySem.W.Looks (model P w) h1 (isInstance (.ref a) (.type "ValueError")) true := by
    have I : PySem.W.InstAt h1 a _ C none := ⟨k1 _ _ ho, rfl, rfl, trivial⟩
    exact I.type.andThen (PySem.W.looks_subIn X2 F.sub)
  refine PySem.W.kxs_getMethod PySem.W.kxs_ValueError e1 (PySem.W.looks_opaque X2 S.any) (l₀ := cdC.mro) (fun A Q E s k q => wpAny_bind ((PySem.W.looks_clsIn X2 hcls) A _ E s k (wpAny_pure q))) rfl X2 hm hI ne (by decide) ?_
  have k2 : ∀ b o, h1.get? b = some o → (h1.push (PySem.W.kxs_mw "ValueError.__init__" a)).get? b = some o := fun b o e => Heap.get?_push_of_some _ e
  have J2 := J1.kept (t' := s.toks + ([(("self" : Str), Value.ref a), (x, u1)] : List (Str × Value)).length + 1) k2
  have hq : (h1.push (PySem.W.kxs_mw "ValueError.__init__" a)).get? h1.objs.size = some (PySem.W.kxs_mw "ValueError.__init__" a) := Heap.get?_push_size _ rfl
  show wpAny _ _ (callWith p4 (.ref h1.objs.size) [] _ []) _ _ _
  have vx : Vis scope x := .inl Sc.par
  have vs0 : Vis scope "self" := .inl Sc.self
  have px := pe_var (X := iniCx P w K mg base ["self", x] qual scope fI cda cc A outer s H E) (i := 1) (pos := p3) rfl vx Sc.db Sc.cd
  have nL : h1.objs.size ≠ s.heap.objs.size := fun z => by
    have z2 : s.heap.objs.size < h1.objs.size := J1.lt
    exact absurd z2 (by rw [z]; exact Nat.lt_irrefl _)
  have J3 : Inv (iniCx P w K mg base ["self", x] qual scope fI cda cc A outer s H E) [(h1.objs.size, PySem.W.kxs_mw "ValueError.__init__" a)] [some (.ref a), some v] H _ := J2.pins_of fun p hp => by
    simp only [List.mem_singleton] at hp
    subst hp
    exact ⟨hq, J1.hok.fresh (Nat.le_refl _), nL, fun z => J1.nofs (Nat.le_refl _) z, fun v z => by cases z⟩
  refine PySem.W.kxs_callWith (i := "ValueError.__init__") (x := a) (by rfl) (PySem.Calls.evalArgs_plain (PySem.Calls.spliced_cons ?_))
  refine thn (px.run _ _ _ H (fun y H' => y = v ∧ H' = H) J3 ⟨v, rfl, rfl, rfl⟩) fun u2 s2 ⟨y, H2, J4, r4, ey, eH⟩ => ?_
  subst ey
  subst eH
  refine PySem.Calls.spliced_nil ⟨(J4.pin (h1.objs.size, PySem.W.kxs_mw "ValueError.__init__" a) (by simp)).1, ?_⟩
  refine mw_call (X := iniCx P w K mg base ["self", x] qual scope fI cda cc A outer s H2 E) F.oex J4 ea (J4.pin (h1.objs.size, PySem.W.kxs_mw "ValueError.__init__" a) (by simp)).1 (by show 1 ≤ sizeLine; decide) fun s3 J5 => ?_
  refine ks_wpAt_execs_cons (wpAt_of_wpAny ?_)
  refine plainObj_wpAny_Assign_Attribute (thn ((pe_var (X := iniCx P w K mg base ["self", x] qual scope fI cda cc A outer s H2 E) (i := 1) (pos := p8) rfl vx Sc.db Sc.cd).run _ _ _ H2 (fun z H' => z = y ∧ H' = H2) J5 ⟨y, rfl, rfl, rfl⟩) fun u4 s4 ⟨y4, H4, J6, r6, ey, eH⟩ => ?_) (by rfl)
  subst ey
  subst eH
  refine thn ((pe_var (X := iniCx P w K mg base ["self", x] qual scope fI cda cc A outer s H4 E) (i := 0) (pos := p6) rfl vs0 (by decide) (by decide)).run _ _ _ H4 (fun z H' => z = .ref a ∧ H' = H4) J6 ⟨.ref a, rfl, rfl, rfl⟩) fun u5 s5 ⟨y5, H5, J7, r7, ey, eH⟩ => ?_
  subst ey
  subst eH
  obtain rfl : u5 = Value.ref a := r7
  refine ost_new F.oex J7 ea F.no r6 fun dx s6 dn dne J8 => ?_
  show wpAt _ _ _ (execs [] _) _ _ _
  rw [execs_nil]
  refine wpAt_of_wpAny (wpAny_pure ?_)
  exact ⟨.non, _, J8.os, J8.bare, J8.base, J8.hok, rfl, q dx dn dne⟩
end
end DL
end

section
/-! raise C(x); try with several clauses, each with the same name. -/
namespace DL
open PySem PySem.Spec L2
/-- an own exception class over ValueError, one field -/
structure KnE (P : Program) (w : World) (K : PySem.W.Frag) (mg : Str → Option Value) (base : Heap) (x : Str) (C : Addr) (fn : Str) : Prop where
  cl : mg x = some (.ref C)
  oex : OexC K C
  xf : XfC K C
  no : PySem.W.findIn K (.ref C) fn = some none
  ex : ∃ (fI : Addr) (fd : FuncData) (px : Str), PySem.W.findIn K (.ref C) "__init__" = some (some (.ref fI)) ∧ PySem.W.typeIn K (.ref fI) = some (.type "function") ∧ FnOk P w K mg base (L2.CX P w) 1 fI fd ["self", px] (spIni C fn) ∧ Binds K fd ["self", px] []
section
variable {X : Cx} {T : List (Addr × Str)} {A : Anc} {ρ : Ev} {a b c e : Expr} {es rest : List Expr} {pos p pos' : Pos} {O : DO}
theorem ds_raise {x : Str} {C : Addr} {fn : Str} {xc : XC} (E : KnE X.prog X.w X.K X.mg X.base x C fn) (hr : Room 2 X.A) (tk : Takes X (WD X.K T A xc)) (h : DE X T A ρ e (fun d ρ1 => ρ1.ws = A.ws ∧ xc C [(fn, d)] ρ1.g)) (hc : X.calm = true := by rfl)
    (hg : Gl X x := by rfl) (hdb : (x == ("__debug__" : Str)) = false := by decide) (he : starEach [e] X.env = (false, eval e X.env) :: starEach [] X.env := by rfl) (hpl : (backTo pos (starEach [] X.env)).any (·.1) = false := by rfl) : DS X T A ρ (.Raise (some (.Call (.Name x p) [e] [] pos)) none pos') O := by
  obtain ⟨fI, fd, px, hi, ht, F, hb⟩ := E.ex
  refine DS.of (ps_raise hc tk (pmk_oex (dvs := []) E.oex hi ht F hr hb .nil (passes_call (W := WD X.K T A xc) tk fun _ _ _ _ z => z.elim) hg E.cl (pa_cons (pe_go (T := T) (A := A)) pa_nil he) hdb he hpl)) fun En σ H ⟨F, ok, _⟩ => ?_
  refine ⟨ρ, _, h, F, ok, fun d ρ1 h1 v F1 H1 s1 w1 ok1 r1 => ?_⟩
  refine ⟨by show 1 ≤ 1000; decide, fun a ha => ?_⟩
  refine ⟨a, v, rfl, upd_same, fun dx hdx hne => ?_⟩
  have hdx1 : H1 dx = none := by
    rw [upd_ne hne] at hdx
    exact hdx
  refine ⟨rfl, dx, [(fn, v)], upd_same, ?_, hdx1, ?_⟩
  · rw [upd_ne hne, upd_same]
  · have eH : upd (del (upd (upd (upd H1 a (exo a C none)) dx (exd dx [(fn, v)])) a (exo a C (some dx))) a) dx (.xd [(fn, v)]) = upd H1 dx (.xd [(fn, v)]) := by
      funext b
      by_cases h1 : b = dx
      · rw [h1, upd_same, upd_same]
      · rw [upd_ne h1, upd_ne h1]
        by_cases h2 : b = a
        · rw [h2, del_same, ha]
        · rw [del_ne h2, upd_ne h2, upd_ne h1, upd_ne h2]
    rw [eH]
    obtain ⟨ok2, s2⟩ := ok1.alloc (o := .xd [(fn, v)]) hdx1
    obtain ⟨hw, hx⟩ := h1
    refine ⟨C, dx, [(fn, d)], [(fn, v)], ρ1.g, _, rfl, rfl, ok2.drop, upd_same, ?_, hx⟩
    rw [← hw]
    exact .cons (r1.mo s2) .nil
end
/-! ### try: .. except c1 as n: .. except c2 as n: .. -/
def wManyAs (K : PySem.W.Frag) (Wout : WX) (D : Ends) (i : Nat) : List (Value × (Addr → Value → Option Addr → TS)) → WX
  | [] => Wout
  | (c, ts) :: r => fun cls d σ H => ∃ b, PySem.W.exmOne K cls c = some b ∧
    (b = true → ∀ a, H a = none → ts a cls d { nx := fun σ' H' => D.nx (σ'.set i none) H', rt := D.rt, bk := fun σ' H' => D.bk (σ'.set i none) H', ct := fun σ' H' => D.ct (σ'.set i none) H' } (σ.set i (some (.ref a))) H) ∧ (b = false → wManyAs K Wout D i r cls d σ H)
inductive HdsAs (X : Cx) (n : Str) : List ExceptHandler → List (Value × (Addr → Value → Option Addr → TS)) → Prop
  | nil : HdsAs X n [] []
  | cons {x : Str} {c : Value} {ts : Addr → Value → Option Addr → TS} {b₀ : Stmt} {suite : List Stmt} {np pos' : Pos} {hds : List ExceptHandler} {l : List (Value × (Addr → Value → Option Addr → TS))} (hc : Names X x c)
      (hsu : ∀ (a : Addr) (oe : Obj) (cls : Value) (d : Option Addr) (pn : List (Addr × Obj)), Zc cls d oe → (∃ vs, oe.data = .fields vs) → PSs (X.suite a ((a, oe) :: pn)) (b₀ :: suite) (ts a cls d)) (r : HdsAs X n hds l) :
      HdsAs X n (.ExceptHandler (some (.Name x np)) (some n) (b₀ :: suite) pos' :: hds) ((c, ts) :: l)
section
variable {X : Cx} {body : List Stmt} {h₀ : ExceptHandler} {hds : List ExceptHandler} {l : List (Value × (Addr → Value → Option Addr → TS))} {pos : Pos} {tb : WX → TS} {Wout : WX} {n : Str} {i : Nat}
theorem ps_try_manyAs (hs : X.stack = X.env :: X.outer) (hf : X.env.frame = some X.env.locals) (hN : X.N.Nodup) (hi : X.N[i]? = some n) (hln : X.env.kindOf n = some .local) (tk : Takes X Wout)
    (hb : ∀ (W : WX) (pn : List (Addr × Obj)) (xe : Value → Shared → Prop), Takes (X.tr pn xe) W → PassesOwn (model X.prog X.w) X.A X.env xe → PSs (X.tr pn xe) body (tb W))
    (hh : HdsAs X n (h₀ :: hds) l) : PS X (.Try body (h₀ :: hds) [] [] pos) (fun D σ H => tb (wManyAs X.K Wout D i l) D σ H) := by
  refine ⟨fun pins s σ H D I h => ?_⟩
  have ok := I.ok
  have hfr : X.A.frames = some (X.env :: X.outer) := by rw [ok.frames, hs]
  have hloc : Loc X.env.scope n := .inl hln
  refine wpAny_Try_except ?_
  refine wpAny_mono ((hb (wManyAs X.K Wout D i l) (X.pn ++ pins) (fun e s₁ => wpAny (model X.prog X.w) X.A (noteFrame e X.env) (fun _ s₂ => wpAny (model X.prog X.w) X.A (setFlight e none) (fun _ s₃ =>
    wpAny (model X.prog X.w) X.A (handleBy e X.env (h₀ :: hds)) (SP X pins D) X.xe s₃) X.xe s₂) X.xe s₁) (fun u s' xx => ?_) PassesOwn.looking).run [] s σ H D (I.toTry _) h) (fun f s1 hsp => ?_) (fun e s1 he => he)
  · obtain ⟨a, B, sI, pins', σ', H', cls, d, rfl, J', nb, up, sky, na, os, ag, w⟩ := xx
    have J : Inv X pins σ' H' sI := J'.ofTry ok
    have sky' : Sky B (X.env :: X.outer) a (Zc cls d) X.env.locals s'.heap := by rw [← hs]; exact sky
    show wpAny (model X.prog X.w) X.A (noteFrame (.ref a) X.env) _ _ _
    refine Sky.land Zc.steady hfr hf sky' fun h3 fl3 up3 => ?_
    have J3 : Inv X pins σ' H' { s' with heap := h3 } := J.landed nb fl3.1 (up.trans up3) os ag
    obtain ⟨oe3, vs3, he3, hz3, hd3⟩ := fl3.there
    have notFr : ∀ {h : Heap} {o : Obj} {vs : Array Value}, h.FunFrames B (X.env :: X.outer) → h.get? a = some o → o.data = .fields vs → a ∉ frs (X.env :: X.outer) := fun {h o vs} ff e dd hm => by
      obtain ⟨_, o', e', hnf⟩ := ff.mem hm
      rw [e] at e'; cases e'
      exact hnf _ dd
    have nfr := notFr fl3.2.2.1 he3 hd3
    have nL : a ≠ X.env.locals := fun z => nfr (List.mem_filterMap.mpr ⟨X.env, List.mem_cons_self, by rw [hf, z]⟩)
    have nF : a ∉ X.fs := fun hm => by
      obtain ⟨e, he, q⟩ := List.mem_filterMap.mp hm
      exact nfr (List.mem_filterMap.mpr ⟨e, List.mem_cons_of_mem _ he, q⟩)
    have S3 := J3.suite he3 hd3 na nL nF
    have go : ∀ {hds' : List ExceptHandler} {l' : List (Value × (Addr → Value → Option Addr → TS))}, HdsAs X n hds' l' → wManyAs X.K Wout D i l' cls d σ' H' →
        wpAny (model X.prog X.w) X.A (handleBy (.ref a) X.env hds') (SP X pins D) X.xe { s' with heap := h3 } := by
      intro hds' l' hk
      induction hk with
      | nil =>
        intro w
        refine wpAny_handleBy_nil ?_
        obtain ⟨k1, k2, k3, oe, vs, T, oT, ts', he, hz, hd, h1, hr⟩ := id fl3
        unfold PySem.passOn
        refine wpAny_bind (wpAny_field he hd h1 ?_)
        rw [if_neg (show ¬ ((Value.ref T == Value.none) = true) from by simp)]
        have fin : wpAny (model X.prog X.w) X.A (setFlight (.ref a) X.env.frame) (fun _ s4 => wpAny (model X.prog X.w) X.A (throw (.ref a) : Sem Flow) (SP X pins D) X.xe s4) X.xe { s' with heap := h3 } := by
          rw [hf]
          refine HandSPX.setFlight_upZ fl3 fun h4 hh4 up4 => wpAny_throw (tk _ _ ?_)
          exact ⟨a, B, sI, pins, σ', H', cls, d, rfl, J, nb, (up.trans up3).trans up4, .inr (.inr (by rw [hs]; exact hh4)), na, os, ag, w⟩
        first
          | exact wpAny_bind (wpAny_pure (wpAny_bind fin))
          | exact wpAny_bind fin
      | @cons x c ts b₀ suite np pos' hds2 l2 hc hsu r ih =>
        intro w
        obtain ⟨b, hb1, hyes, hno⟩ := w
        refine wpAny_handleBy_cons (codeAny_handlers_test ?_) (by intro q; cases q)
        have LT : PySem.W.Looks (model X.prog X.w) h3 (typeOf (.ref a)) cls := fun A Q E s k q => wpAny_typeOf_ref (k _ _ he3) (by rw [hz3.1]; exact q)
        have LM := PySem.W.exm_one (M := model X.prog X.w) (J3.kIn) LT hb1
        have test : ∀ {Q : Value → Shared → Prop} {E : Value → Shared → Prop}, Q c { s' with heap := h3 } → wpAny (model X.prog X.w) (X.A.mark (some (.ref a))) (eval (.Name x np) X.env) Q E { s' with heap := h3 } := fun {Q E} q => by
          obtain ⟨hg, hdbg, hm | ⟨hm, hv, hnn⟩⟩ := hc
          · exact ld_glob (X := X.suite a ((a, oe3) :: (X.pn ++ pins))) S3 hg hm q hdbg
          · exact ld_blt (X := X.suite a ((a, oe3) :: (X.pn ++ pins))) S3 hg hm hv q hnn hdbg
        refine test (LM.here ?_)
        cases b with
        | true =>
          refine codeAny_handlers_suite_as ?_
          refine HandSPX.lands_againZ fl3 fun h4 fl4 up4 => ?_
          have J4 : Inv X pins σ' H' { s' with heap := h4 } := J.landed nb fl4.1 ((up.trans up3).trans up4) os ag
          obtain ⟨oe4, vs4, he4, hz4, hd4⟩ := fl4.there
          have S4 := J4.suite he4 hd4 na nL nF
          refine store_ok (X := X.suite a ((a, oe4) :: (X.pn ++ pins))) (v := .ref a) S4 hN hi hloc rfl (fun s5 S5 => ?_) (.inr hln)
          refine wpAny_mono ((hsu a oe4 cls d (X.pn ++ pins) hz4 ⟨_, hd4⟩).run [] s5 _ H' _ S5 (hyes rfl a na)) (fun f s6 hsp => ?_) (fun _ _ z => False.elim z)
          have end_ : ∀ {σ6 : L2.St} {H6 : Hp} {Q : Shared → Prop}, Inv (X.suite a ((a, oe4) :: (X.pn ++ pins))) [] σ6 H6 s6 → (∀ s7, Inv X pins (σ6.set i none) H6 s7 → Q s7) →
              wpAny (model X.prog X.w) X.A (do bindName X.env n .none; unbindBehindTheSuite X.env n pos') (fun _ s7 => Q s7) X.xe s6 := fun {σ6 H6 Q} S6 hq => gone_ok (S6.unsuite ok) hN hi hln hq
          cases f with
          | next =>
            obtain ⟨σ6, H6, S6, q6⟩ := hsp
            exact end_ S6 fun s7 J7 => ⟨_, _, J7, q6⟩
          | brk =>
            obtain ⟨σ6, H6, S6, q6⟩ := hsp
            exact end_ S6 fun s7 J7 => ⟨_, _, J7, q6⟩
          | cont =>
            obtain ⟨σ6, H6, S6, q6⟩ := hsp
            exact end_ S6 fun s7 J7 => ⟨_, _, J7, q6⟩
          | ret u =>
            obtain ⟨v6, σ6, H6, S6, r6, q6⟩ := hsp
            exact end_ S6 fun s7 J7 => ⟨_, _, _, J7, r6, q6⟩
        | false =>
          show wpAny _ X.A (handleBy (.ref a) X.env hds2) _ _ _
          exact ih (hno rfl)
    exact go hh w
  · cases f with
    | next =>
      obtain ⟨σ', H', J', q⟩ := hsp
      exact wpAny_execs_nil ⟨σ', H', J'.ofTry ok, q⟩
    | brk =>
      obtain ⟨σ', H', J', q⟩ := hsp
      exact ⟨σ', H', J'.ofTry ok, q⟩
    | cont =>
      obtain ⟨σ', H', J', q⟩ := hsp
      exact ⟨σ', H', J'.ofTry ok, q⟩
    | ret u =>
      obtain ⟨v, σ', H', J', r, q⟩ := hsp
      exact ⟨v, σ', H', J'.ofTry ok, r, q⟩
end
end DL
end

section
/-! try with several clauses, over data. -/
namespace DL
open PySem PySem.Spec L2
theorem Takes.impI {X : Cx} {W W' : WX} (t : Takes X W) (h : ∀ c d σ H, σ.length = X.N.length → W' c d σ H → W c d σ H) : Takes X W' := fun u s' ⟨a, B, sI, pins, σ, H, cls, d, e, I, nb, up, sky, na, os, ag, w⟩ =>
  t u s' ⟨a, B, sI, pins, σ, H, cls, d, e, I, nb, up, sky, na, os, ag, h _ _ _ _ I.len w⟩
section
variable {K : PySem.W.Frag} {T : List (Addr × Str)} {A : Anc} {F H : Hp} {σ : L2.St}
theorem Ok.wake {ws : List Addr} {g : Nat} {sl : List Sl} (ok : Ok K T A F H [] (.bare ws g)) (hl : sl.length ≤ σ.length) (no : ∀ (i : Nat) x, ownOf sl[i]? ≠ some x) (h : ∀ (i : Nat) d, sl[i]? = some (.dat d) → ∃ v, σ[i]? = some (some v) ∧ R K F ws v d) : Ok K T A F H σ ⟨sl, [], ws, g⟩ := by
  refine ⟨ok.sub0, ok.sub, ok.keep, ok.apart, ok.there, ok.tabs, ok.wsub, ok.wnew, ok.strm, h, fun i a ds e => absurd e (no i (a, ds)), fun p a ds e => ?_, fun p q a ds es e => ?_, hl⟩
  · cases p with
    | inl i => exact absurd e (no i (a, ds))
    | inr j => cases e
  · cases p with
    | inl i => exact absurd e (no i (a, ds))
    | inr j => cases e
theorem Rf.get {ws : List Addr} {f : Str} {d : D} : ∀ {ds : List (Str × D)} {xs : List (Str × V)}, Rf K F ws xs ds → ds.lookup f = some d → ∃ v, xs.lookup f = some v ∧ R K F ws v d
  | [], _, _, e => by cases e
  | (k, d') :: ds, _, h, e => by
    cases h with
    | cons h t =>
      rw [List.lookup_cons] at e ⊢
      cases hk : f == k with
      | true =>
        rw [hk] at e
        cases e
        exact ⟨_, rfl, h⟩
      | false =>
        rw [hk] at e
        exact Rf.get t e
end
section
variable (X : Cx) (T : List (Addr × Str)) (A : Anc)
abbrev hdSl (N i : Nat) (d : D) : List Sl := (List.replicate N .non).set i (.dat d)
def SuiteJ (rt : CV) (i : Nat) (st : List Stmt) (c : Addr) (fs : List (Str × D)) (g : Nat) (a dx : Addr) : Prop :=
  ∀ (oe : Obj) (pn : List (Addr × Obj)), Zc (.ref c) (some dx) oe → (∃ vs, oe.data = .fields vs) → DSs (X.suite a ((a, oe) :: pn)) T A ⟨hdSl X.N.length i (.exc a dx fs), [], A.ws, g⟩ st { nx := fun _ => False, rt := rt }
def tsD (st : List Stmt) (a : Addr) (cls : Value) (d : Option Addr) : TS := fun E σ H => ∃ ρ O, (∀ (oe : Obj) (pn : List (Addr × Obj)), Zc cls d oe → (∃ vs, oe.data = .fields vs) → DSs (X.suite a ((a, oe) :: pn)) T A ρ st O) ∧ tS X T A ρ O E σ H
/-- clauses: what they make of an exception -/
inductive HdsD (rt : CV) (n : Str) (i : Nat) (xc : XC) : List ExceptHandler → List (Value × (Addr → Value → Option Addr → TS)) → XC → Prop
  | nil : HdsD rt n i xc [] [] xc
  | cons {x : Str} {C0 : Addr} {b₀ : Stmt} {suite : List Stmt} {np pos' : Pos} {hds : List ExceptHandler} {l : List (Value × (Addr → Value → Option Addr → TS))} {xr : XC} (hm : X.mg x = some (.ref C0)) (hg : Gl X x) (hd : (x == ("__debug__" : Str)) = false) (r : HdsD rt n i xc hds l xr) :
      HdsD rt n i xc (.ExceptHandler (some (.Name x np)) (some n) (b₀ :: suite) pos' :: hds) ((.ref C0, tsD X T A (b₀ :: suite)) :: l)
        (fun c fs g => ∃ b, PySem.W.exmOne X.K (.ref c) (.ref C0) = some b ∧ (b = true → ∀ a dx, SuiteJ X T A rt i (b₀ :: suite) c fs g a dx) ∧ (b = false → xr c fs g))
end
section
variable {X : Cx} {T : List (Addr × Str)} {A : Anc} {ρ : Ev} {O : DO} {xc xt : XC} {n : Str} {i : Nat} {hds : List ExceptHandler} {l : List (Value × (Addr → Value → Option Addr → TS))}
theorem HdsD.as (h : HdsD X T A O.rt n i xc hds l xt) : HdsAs X n hds l := by
  induction h with
  | nil => exact .nil
  | cons hm hg hd r ih => exact .cons ⟨hg, hd, .inl hm⟩ (fun a oe cls d pn hz hf => ⟨fun pins s σ H E I ⟨ρ, O, h, q⟩ => (h oe pn hz hf).pe.run pins s σ H E I q⟩) ih
theorem hdSl_get {N i j : Nat} {d : D} {u : Sl} (h : (hdSl N i d)[j]? = some u) : (j = i ∧ u = .dat d) ∨ u = .non := by
  unfold hdSl at h
  rcases put_get h with ⟨h1, h2, _⟩ | ⟨_, h2⟩
  · exact .inl ⟨h1, h2⟩
  · rw [List.getElem?_replicate] at h2
    split at h2
    · cases h2
      exact .inr rfl
    · cases h2
theorem HdsD.wish {D : Ends} (h : HdsD X T A O.rt n i xc hds l xt) (hi : i < X.N.length) (hrt : ∀ r ρ', O.rt r ρ' → ∀ v σ' F' H', Ok X.K T A F' H' σ' ρ' → Gv X.K A F' H' ρ' v r → D.rt v H') :
    ∀ (cls : Value) (d : Option Addr) (σ : L2.St) (H : Hp), σ.length = X.N.length → WD X.K T A xt cls d σ H → wManyAs X.K (WD X.K T A xc) D i l cls d σ H := by
  induction h with
  | nil => exact fun _ _ _ _ _ w => w
  | @cons x C0 b₀ suite np pos' hds l xr hm hg hd r ih =>
    intro cls d σ H hl w
    obtain ⟨c, dx, fs, xs, g, F, rfl, rfl, ok, hx, rf, b, eb, hy, hn⟩ := w
    refine ⟨b, eb, fun e a ha => ?_, fun e => ih _ _ _ _ hl ⟨c, dx, fs, xs, g, F, rfl, rfl, ok, hx, rf, hn e⟩⟩
    refine ⟨_, _, hy e a dx, F, ok.wake ?_ (fun j x q => ?_) (fun j d' q => ?_), fun ρ' z => z.elim, fun r ρ' c v σ' F' H' ok' g' => hrt r ρ' c v σ' F' H' ok' g', fun ρ' z => z.elim, fun ρ' z => z.elim⟩
    · rw [List.length_set, List.length_set, List.length_replicate, hl]
      exact Nat.le_refl _
    · obtain ⟨s, q, qb⟩ := ownOf_bx (a := x.1) (c := x.2) q
      rcases hdSl_get q with ⟨_, q⟩ | q <;> (subst q; cases qb)
    · rcases hdSl_get q with ⟨rfl, q2⟩ | q2
      · cases q2
        exact ⟨.ref a, List.getElem?_set_self (by rw [hl]; exact hi), .exc hx rf⟩
      · cases q2
theorem ds_try {body : List Stmt} {h₀ : ExceptHandler} {pos : Pos} (hs : X.stack = X.env :: X.outer) (hf : X.env.frame = some X.env.locals) (hN : X.N.Nodup) (hi : slotOf X.N n = some i) (hln : X.env.kindOf n = some .local) (tk : Takes X (WD X.K T A xc)) (hh : HdsD X T A O.rt n i xc (h₀ :: hds) l xt)
    (hb : ∀ (pn : List (Addr × Obj)) (xe : Value → Shared → Prop), Takes (X.tr pn xe) (WD X.K T A xt) → PassesOwn (model X.prog X.w) X.A X.env xe → DSs (X.tr pn xe) T A ρ body O) : DS X T A ρ (.Try body (h₀ :: hds) [] [] pos) O := by
  have hi' := slotOf_ok hi
  refine DS.of (ps_try_manyAs (tb := fun W D σ H => (∀ (cls : Value) (d : Option Addr) (σ : L2.St) (H : Hp), σ.length = X.N.length → WD X.K T A xt cls d σ H → W cls d σ H) ∧ tS X T A ρ O D σ H) hs hf hN hi' hln tk (fun W pn xe tw po => ⟨fun pins s σ H E I ⟨w, q⟩ => ?_⟩) hh.as) fun E σ H q => ⟨hh.wish (List.getElem?_eq_some_iff.mp hi').1 q.choose_spec.2.2.1, q⟩
  exact (hb pn xe (Takes.impI tw w) po).pe.run pins s σ H E I q
/-- e.f in an except suite -/
def excFD (f : Str) (C : CD) : D → Ev → Prop
  | .exc _ _ fs, ρ => ∃ d, fs.lookup f = some d ∧ C d ρ
  | _, _ => False
theorem de_xf {a Cc dx : Addr} {oe : Obj} {fs : List (Str × D)} {pn : List (Addr × Obj)} {f x fn : Str} {C : CD} {pos p1 : Pos} {w : World} (E : KnE X.prog X.w X.K X.mg X.base x Cc f) (hz : Zc (.ref Cc) (some dx) oe) (hf : ∃ vs, oe.data = .fields vs) (hi : slotOf X.N n = some i) (e0 : ρ.sl[i]? = some (.dat (.exc a dx fs))) {d : D} (hd : fs.lookup f = some d) (h : C d ρ)
    (hv : Vis X.env.scope n := by first | exact Or.inl rfl | exact Or.inr (Or.inl rfl) | exact Or.inr (Or.inr rfl)) (hdb : (n == ("__debug__" : Str)) = false := by decide) (hcd : (n == ("__classdict__" : Str)) = false := by decide)
    (hb : attributeBase (.Name n p1) f X.env (eval (.Name n p1) X.env) = eval (.Name n p1) X.env := by rfl) : DE (X.suite a ((a, oe) :: pn)) T A ρ (.Attribute (.Name n p1) f pos) C :=
  DE.of (pe_xf (X := X) E.xf E.no hz hf (pe_var (X := X.suite a ((a, oe) :: pn)) (slotOf_ok hi) hv hdb hcd) hb) fun σ H Q F ok q => by
    obtain ⟨v, e1, r⟩ := ok.slots i _ e0
    cases r with
    | exc hF t =>
      obtain ⟨v, e2, r2⟩ := Rf.get t hd
      exact ⟨_, e1, rfl, rfl, dx, _, v, rfl, ok.sub _ _ hF, e2, q _ _ h v F H (Same.refl _) rfl ok r2⟩
end
end DL
end

section
/-! a lambda handed to a def: as HandS.Lambda has it, told more: nothing that was tracked is gone. -/
namespace DL
open PySem PySem.Spec L2 LamX
open PyProof.Rows
section
variable {X : Cx} {pins : List (Addr × Obj)} {σ : L2.St} {H : Hp} {s : Shared}
/-- the lambda is made: its code object is new, or found in the table -/
theorem lam_make3 {T : List (Addr × Str)} {c P : Addr} {params : Arguments} {body : Expr} {scope : Scope} {pos : Pos} {E : Value → Shared → Prop} {Q : Value → Shared → Prop} (I : Inv X pins σ H s) (TB : TabB X.base X.mg c P) (hcode : X.env.code = .ref c)
    (hm : (P, X.env.qual ++ "<lambda>") ∈ T) (hu : ∀ p ∈ T, p.1 = P → p.2 = X.env.qual ++ "<lambda>") (hT : Tabs T H) (hdef : defaultsOf params X.env = ([], [])) (hfree : ∀ y ∈ scope.names, y.2 = .free → ∃ c, X.env.cells.lookup y.1 = some c)
    (h : ∀ (f c' : Addr) (pm ctv : Value) (H1 : Hp) (s' : Shared), Inv X pins σ H1 s' → ExtN H H1 → (∀ b, H1 b = Option.none → H b = Option.none) → Tabs T H1 →
      s'.heap.get? f = some (PySem.W.kla_obj "<lambda>" (X.env.qual ++ "<lambda>") params body scope (cloFrom X.env.cells scope.names []) pm c' ctv) → H1 f = none → f ∉ frs X.stack → H1 c' = some (CodeO c' (X.env.qual ++ "<lambda>")) → Q (.ref f) s') :
    wpAny (model X.prog X.w) X.A (eval (.Lambda params body scope pos) X.env) Q E s := by
  obtain ⟨ps, hP, ht, ha⟩ := hT _ hm
  refine PySem.W.kla_eval hdef ?_
  have bP : s.heap.BuiltinsAt X.mg P := TB.bm.keeps I.bk
  have hP' : s.heap.get? P = some { cls := .none, data := .fields ps } := I.hok P _ hP
  have nofr : ∀ f, s.heap.objs.size ≤ f → f ∉ frs X.stack := fun f hf z => by
    rcases List.mem_cons.mp (I.stkSub _ z) with e | e
    · have h1 := I.lt
      rw [← e] at h1
      exact Nat.lt_irrefl _ (Nat.lt_of_lt_of_le h1 hf)
    · exact I.nofs hf e
  cases hc : codeAmong pos ps.toList with
  | none =>
    refine PySem.W.kla_makeFunction (mg := X.mg) (c := c) (P := P) (ps := ps) (closure_ok hfree) I.ok.glob (I.mod.glob.keeps I.bk) hcode (TB.code.keeps I.bk) hP' ht hc TB.gP bP fun c' ctv h' tk hx hge hlt hrec htb => ?_
    obtain ⟨c2, oc, vs, t, e2, hoc, hd, hv⟩ := hrec
    cases e2
    have hsz : s.heap.objs.size ≤ h'.objs.size := Nat.le_trans hge (Nat.le_of_lt hlt)
    have nC : H c' = none := I.hok.fresh hge
    have I1 := inv_table (t' := tk) (more := #[rawInt pos.line, rawInt pos.col, .ref c']) (h' := h'.push (PySem.W.kla_obj "<lambda>" (X.env.qual ++ "<lambda>") params body scope (cloFrom X.env.cells scope.names []) ((X.mg "__name__").getD .none) c' ctv)) I hP
      (fun b o hb e => Heap.get?_push_of_some _ (hx b o hb e)) (Heap.get?_push_of_some _ htb) hge ⟨oc, vs, t, Heap.get?_push_of_some _ hoc, hd, hv⟩
    have hE : ExtN H (upd (upd H P (.tbl (ps ++ #[rawInt pos.line, rawInt pos.col, .ref c']))) c' (CodeO c' (X.env.qual ++ "<lambda>"))) := fun b o e n => by
      rw [upd_ne (ne_of_none e nC), upd_ne (fun z => n ps (Option.some.inj (e.symm.trans (by rw [z]; exact hP))))]
      exact e
    have eL : (ps ++ #[rawInt pos.line, rawInt pos.col, .ref c']).toList = ps.toList ++ [rawInt pos.line, rawInt pos.col, .ref c'] := by simp
    refine h h'.objs.size c' ((X.mg "__name__").getD .none) ctv _ _ I1 hE (fun b e => NdefX.upd_none (NdefX.upd_none e)) (fun p hp => ?_) (Heap.get?_push_size _ rfl) ?_ (nofr _ hsz) upd_same
    · by_cases hb : p.1 = P
      · rw [hu p hp hb, hb]
        refine ⟨_, by rw [upd_ne (ne_of_none hP nC), upd_same], by rw [eL]; exact PySem.TriplesOk_snoc _ _ _ _ ht, fun p' cv hcv => ?_⟩
        rw [eL] at hcv
        rcases among_app _ ht hcv with z | z
        · obtain ⟨c0, e1, e2⟩ := ha p' cv z
          exact ⟨c0, e1, hE _ _ e2 codeO_ne⟩
        · exact ⟨c', z, upd_same⟩
      · obtain ⟨ps', a1, a2, a3⟩ := hT p hp
        refine ⟨ps', by rw [upd_ne (ne_of_none a1 nC), upd_ne hb]; exact a1, a2, fun p' cv hcv => ?_⟩
        obtain ⟨c0, e1, e2⟩ := a3 p' cv hcv
        exact ⟨c0, e1, hE _ _ e2 codeO_ne⟩
    · have n1 : h'.objs.size ≠ c' := Nat.ne_of_gt hlt
      have n2 : h'.objs.size ≠ P := Nat.ne_of_gt (Nat.lt_of_lt_of_le (Heap.lt_size hP') hsz)
      rw [upd_ne n1, upd_ne n2]
      exact I.hok.fresh hsz
  | some cv =>
    obtain ⟨c', e, hco⟩ := ha pos cv hc
    subst e
    refine PySem.W.kla_makeFunctionHit (mg := X.mg) (c := c) (P := P) (ps := ps) (closure_ok hfree) I.ok.glob (I.mod.glob.keeps I.bk) hcode (TB.code.keeps I.bk) hP' ht hc bP fun ctv h' tk hx hsz => ?_
    have I1 : Inv X pins σ H { s with heap := h'.push (PySem.W.kla_obj "<lambda>" (X.env.qual ++ "<lambda>") params body scope (cloFrom X.env.cells scope.names []) ((X.mg "__name__").getD .none) c' ctv), toks := tk } := I.kept fun b o e => Heap.get?_push_of_some _ (hx b o e)
    exact h h'.objs.size c' ((X.mg "__name__").getD .none) ctv H _ I1 (ExtN.refl H) (fun _ e => e) hT (Heap.get?_push_size _ rfl) (I.hok.fresh hsz) (nofr _ hsz) hco
end
def tLamM (T : List (Addr × Str)) (TT : (XK → Hp → VK → Prop) → Hp → VK → Prop) (t : XK → TE) : TE := fun σ H Q => Tabs T H ∧ ∀ H1, ExtN H H1 → (∀ b, H1 b = Option.none → H b = Option.none) → Tabs T H1 → TT (fun E H' Q' => t E σ H' Q') H1 Q
section
variable {X : Cx}
/-- x(lambda: body) -/
theorem pe_lamcallM {T : List (Addr × Str)} {TT : (XK → Hp → VK → Prop) → Hp → VK → Prop} {x a : Str} {g c P : Addr} {k : Nat} {pg : Arguments} {bg : List Stmt} {sg : Scope} {dV kV doc pm cdv ct oc : Value} {an od : Option Addr} {osl : Array (Option Value)} {Ng : List Str}
    {params : Arguments} {body : Expr} {scope : Scope} {t : XK → TE} {p lpos pos : Pos} (hg : Gl X x) (hm : X.mg x = some (.ref g)) (hk : PySem.W.keepIn X.K (.ref g) = true)
    (lk : X.K.lookup g = some ⟨oc, od, .func (PySem.W.fnOf x x pg bg sg dV kV doc pm an cdv ct), osl⟩) (hcg : PySem.W.codeIn X.K cdv x = true) (hb : L2.Binds X.K (PySem.W.fnOf x x pg bg sg dV kV doc pm an cdv ct) [a] []) (Sg : FnScope Ng [a] sg) (hNg : Ng[0]? = some a) (hva : Vis sg a)
    (hG : GivesTo X Ng x sg g cdv bg a (X.env.qual ++ "<lambda>") TT)
    (TB : TabB X.base X.mg c P) (hcode : X.env.code = .ref c) (hmT : (P, X.env.qual ++ "<lambda>") ∈ T) (hu : ∀ p ∈ T, p.1 = P → p.2 = X.env.qual ++ "<lambda>") (hr : Room (k + 2) X.A) (L : LamS X.env.scope scope) (hdef : defaultsOf params X.env = ([], []))
    (hbind : ∀ (q : Str) (cl : List (Str × Addr)) (pm cv ctv : Value), bindArgs (PySem.W.kla_fn "<lambda>" q params body scope cl pm cv ctv) ⟨[], []⟩ = pure [])
    (hbody : ∀ (A : Around) (outer : List Env) (s : Shared) (H : Hp) (E : XK) (f c' : Addr), Room k (A.deeper (lamEnv X scope s.heap.objs.size f c')) → PE (lamCx X A outer s H E scope f c') body (t E))
    (hdb : (x == ("__debug__" : Str)) = false := by decide) (hd : (a == ("__debug__" : Str)) = false := by decide) (hcd : (a == ("__classdict__" : Str)) = false := by decide) :
    PE X (.Call (.Name x p) [.Lambda params body scope lpos] [] pos) (tLamM T TT t) := by
  refine ⟨fun pins s σ H Q I h => ?_⟩
  obtain ⟨hT, h⟩ := h
  refine wpAny_Call_Name_kw (ld_glob I hg hm ?_ hdb)
  refine PySem.W.callWith_K (h₀ := X.base) I.ok.mod.kin hk ?_ (by rfl) (by rfl)
  show wpAny _ _ (spliced ((false, eval (.Lambda params body scope lpos) X.env) :: backTo pos (starEach [] X.env))) _ _ s
  refine Calls.spliced_cons (lam_make3 I TB hcode hmT hu hT hdef (L.has I.ok) fun f c' pm' ctv H1 s' I1 eN nn T1 hf hfn hfr hco => ?_)
  refine Calls.spliced_nil ⟨I1.kIn, ?_⟩
  have rc : codeAny (model X.prog X.w) X.A (.call (.ref g) ⟨[.ref f], []⟩) (CR C8.CX0 X.stack X.prog X.w H1 s' Q C8.E0) s' := by
    refine run_ofS (N := Ng) (ps := [a]) (us := [.ref f]) (vs := [.ref f]) lk hcg Sg hr I1.env0 (hb s' [.ref f] I1.kIn rfl) (.cons rfl .nil) rfl fun hr' => ?_
    obtain ⟨t', ht', hq'⟩ := hG f c' s' H1 Q (fun E H' Q' => t E σ H' Q') (fun W pn xe E p1 p2 tk hW => pe_act (i := 0) I1 L hf hfn hfr (hbind _ _ _ _ _) tk hW hr' (fun A outer s H hr2 => hbody A outer s H E f c' hr2) hNg hva hd hcd) hco (h H1 eN nn T1)
    exact ⟨t', ht'.nox, hq'⟩
  refine wpAny_call (codeAny_mono rc fun r s2 hq => ?_)
  cases r with
  | error e => exact (show False from hq).elim
  | ok fl =>
    cases fl with
    | ret u => exact I1.after hq
    | next => exact False.elim hq
    | brk => exact False.elim hq
    | cont => exact False.elim hq
end
end DL
end

section
/-! a lambda handed to a def that calls it in a try, over data. -/
namespace DL
open PySem PySem.Spec L2 LamX
section
variable {K : PySem.W.Frag} {T : List (Addr × Str)} {A : Anc} {F F' H H1 H' : Hp} {σ : L2.St} {ρ : Ev} {g : Nat}
theorem Ok.extN (ok : Ok K T A F H σ ρ) (e : ExtN H H1) (n : ∀ b, H1 b = none → H b = none) (t : Tabs T H1) : Ok K T A F H1 σ ρ := by
  refine ⟨ok.sub0, fun b o q => e _ _ (ok.sub _ _ q) (ok.tabs.2 b o q), fun a o q nt w => e _ _ (ok.keep a o q nt w) nt, ok.apart, fun a h z => ok.there a h (n a z), ⟨t, ok.tabs.2⟩, ok.wsub, ok.wnew, fun a m => ?_, ok.slots, ok.ownS, fun p a ds q => ?_, ok.dist, ok.len⟩
  · obtain ⟨⟨c, m1, n1, h, r⟩, h2⟩ := ok.strm a m
    exact ⟨⟨c, m1, n1, e _ _ h (by intro ps z; cases z), r⟩, h2⟩
  · obtain ⟨h1, h2, h3, vs, h4, h5⟩ := ok.owns p a ds q
    exact ⟨h1, h2, h3, vs, e _ _ h4 h5.noTbl, h5⟩
def starS (sl : List Sl) : List Sl := sl.map fun | .dat d => .dat d | _ => .non
theorem starS_get {sl : List Sl} {i : Nat} {u : Sl} (h : (starS sl)[i]? = some u) : (∃ d, u = .dat d ∧ sl[i]? = some (.dat d)) ∨ u = .non := by
  unfold starS at h
  rw [List.getElem?_map] at h
  obtain ⟨x, e, q⟩ := Option.map_eq_some_iff.mp h
  cases x with
  | non => exact .inr q.symm
  | dat d => exact .inl ⟨d, q.symm, e⟩
  | own a ds => exact .inr q.symm
  | box a c => exact .inr q.symm
theorem Ok.star (ok : Ok K T A F H σ ρ) (ok' : Ok K T ⟨F, H, ρ.ws⟩ F' H' [] (.bare ρ.ws g)) : Ok K T ⟨F, H, ρ.ws⟩ F' H' σ ⟨starS ρ.sl, [], ρ.ws, g⟩ := by
  refine ok'.wake ?_ (fun i x e => ?_) fun i d e => ?_
  · unfold starS
    rw [List.length_map]
    exact ok.len
  · obtain ⟨s, e, eb⟩ := ownOf_bx (a := x.1) (c := x.2) e
    rcases starS_get e with ⟨d, q, _⟩ | q <;> (subst q; cases eb)
  · rcases starS_get e with ⟨d', q, e2⟩ | q
    · cases q
      obtain ⟨v, h1, h2⟩ := ok.slots i _ e2
      exact ⟨v, h1, h2.mo ok'.sub0⟩
    · cases q
end
/-- what a def that calls its argument in a try makes of it: R1 what the call tells, M what it raises -/
def TTmet (K : PySem.W.Frag) (T : List (Addr × Str)) (R1 : D → Nat → Out) (M : (Out → Prop) → XC) : (XK → Hp → VK → Prop) → Hp → VK → Prop := fun tl H Q => ∃ (F : Hp) (ws : List Addr) (g : Nat) (Cr : RV → Nat → Prop) (xm : XC) (C : Out → Prop),
  Ok K T ⟨F, H, ws⟩ F H [] (.bare ws g) ∧ (∀ r g', Cr r g' → C (R1 r.toD g')) ∧ (∀ c fs g', xm c fs g' → M C c fs g') ∧
  (∀ d g', C (.ret d g') → ∀ v F' H', Ok K T ⟨F, H, ws⟩ F' H' [] (.bare ws g') → R K F' ws v d → Q v H') ∧
  (∀ ds g', C (.new ds g') → ∀ a F' H', Ok K T ⟨F, H, ws⟩ F' H' [] (.bare ws g') → Gv K ⟨F, H, ws⟩ F' H' (.bare ws g') (.ref a) (.l a ds) → Q (.ref a) H') ∧
  (∀ c g', C (.newB c g') → ∀ a F' H', Ok K T ⟨F, H, ws⟩ F' H' [] (.bare ws g') → GvB K ⟨F, H, ws⟩ F' H' (.bare ws g') (.ref a) a c → Q (.ref a) H') ∧
  ∀ F' H', Ok K T ⟨F, H, ws⟩ F' H' [] (.bare ws g) → ∀ (E' : XK) (Q' : VK), (∀ cls d H2, WD K T ⟨F, H, ws⟩ xm cls d [] H2 → E' cls d H2) →
    (∀ v r g' F2 H2, Cr r g' → Same F' F2 → Ok K T ⟨F, H, ws⟩ F2 H2 [] (.bare ws g') → Gv K ⟨F, H, ws⟩ F2 H2 (.bare ws g') v r → Q' v H2) → tl E' H' Q'
section
variable {X : Cx} {T : List (Addr × Str)} {A : Anc} {ρ : Ev} {C : CV}
/-- the reading of the lambda's body -/
def tBody (X : Cx) (T : List (Addr × Str)) (k : Nat) (scope : Scope) (body : Expr) (E : XK) : TE := fun σ H Q => ∃ (An : Anc) (ρl : Ev) (Cv : CV) (xm : XC),
  (∀ (A1 : Around) (outer : List Env) (s : Shared) (H : Hp) (E : XK) (f c' : Addr), Room k (A1.deeper (lamEnv X scope s.heap.objs.size f c')) → Takes (lamCx X A1 outer s H E scope f c') (WD X.K T An xm) → DV (lamCx X A1 outer s H E scope f c') T An ρl body Cv) ∧
  (∀ cls d H', WD X.K T An xm cls d [] H' → E cls d H') ∧ tV X T An ρl Cv σ H Q
theorem dv_met {x a : Str} {g c P : Addr} {k : Nat} {pg : Arguments} {bg : List Stmt} {sg : Scope} {dV kV doc pm cdv ct oc : Value} {an od : Option Addr} {osl : Array (Option Value)} {Ng : List Str} {R1 : D → Nat → Out} {M : (Out → Prop) → XC}
    {params : Arguments} {body : Expr} {scope : Scope} {p lpos pos : Pos} (Cr : RV → Nat → Prop) (xm : XC)
    (h : ∀ (F H : Hp) (A1 : Around) (outer : List Env) (s : Shared) (H2 : Hp) (E : XK) (f c' : Addr), Room k (A1.deeper (lamEnv X scope s.heap.objs.size f c')) → Takes (lamCx X A1 outer s H2 E scope f c') (WD X.K T ⟨F, H, ρ.ws⟩ xm) →
      DV (lamCx X A1 outer s H2 E scope f c') T ⟨F, H, ρ.ws⟩ ⟨starS ρ.sl, [], ρ.ws, ρ.g⟩ body (fun r ρ' => Cr r ρ'.g))
    (h1 : ∀ r g', Cr r g' → outD A (fun _ _ _ => False) C ρ (R1 r.toD g')) (h2 : ∀ c fs g', xm c fs g' → M (outD A (fun _ _ _ => False) C ρ) c fs g')
    (hG : GivesTo X Ng x sg g cdv bg a (X.env.qual ++ "<lambda>") (TTmet X.K T R1 M))
    (hm : X.mg x = some (.ref g)) (hk : PySem.W.keepIn X.K (.ref g) = true)
    (lk : X.K.lookup g = some ⟨oc, od, .func (PySem.W.fnOf x x pg bg sg dV kV doc pm an cdv ct), osl⟩) (hcg : PySem.W.codeIn X.K cdv x = true) (hb : L2.Binds X.K (PySem.W.fnOf x x pg bg sg dV kV doc pm an cdv ct) [a] []) (Sg : FnScope Ng [a] sg) (hNg : Ng[0]? = some a) (hva : Vis sg a)
    (TB : TabB X.base X.mg c P) (hcode : X.env.code = .ref c) (hmT : (P, X.env.qual ++ "<lambda>") ∈ T) (hu : ∀ p ∈ T, p.1 = P → p.2 = X.env.qual ++ "<lambda>") (hr : Room (k + 2) X.A) (L : LamS X.env.scope scope)
    (hg : Gl X x := by rfl) (hdef : defaultsOf params X.env = ([], []) := by rfl)
    (hbind : ∀ (q : Str) (cl : List (Str × Addr)) (pm cv ctv : Value), bindArgs (PySem.W.kla_fn "<lambda>" q params body scope cl pm cv ctv) ⟨[], []⟩ = pure [] := by intro _ _ _ _ _; rfl)
    (hdb : (x == ("__debug__" : Str)) = false := by decide) (hd : (a == ("__debug__" : Str)) = false := by decide) (hcd : (a == ("__classdict__" : Str)) = false := by decide) : DV X T A ρ (.Call (.Name x p) [.Lambda params body scope lpos] [] pos) C := by
  refine DV.of (pe_lamcallM (t := tBody X T k scope body) hg hm hk lk hcg hb Sg hNg hva hG TB hcode hmT hu hr L hdef hbind (fun A1 outer s H E f c' hr2 => ?_) hdb hd hcd) fun σ H Q F ok q => ⟨ok.tabs.1, fun H1 eN nn T1 => ?_⟩
  · refine ⟨fun pins s' σ H' Q I ⟨An, ρl, Cv, xm, hd, hE, q⟩ => (hd A1 outer s H E f c' hr2 ?_).pe.run pins s' σ H' Q I q⟩
    exact (takes_of rfl rfl rfl rfl).imp fun cls d σ H w => hE cls d H w
  · have ok1 := ok.extN eN nn T1
    refine ⟨F, ρ.ws, ρ.g, Cr, xm, outD A (fun _ _ _ => False) C ρ, ok1.bare, h1, h2, fun d g' c v F' H' ok' r' => ?_, fun es g' c a F' H' ok' g' => q _ _ (c a) (.ref a) F' H' ok'.sub0 rfl (ok1.back ok') (ok1.backB ok' g'), fun cc g' c a F' H' ok' g' => q _ _ (c a) (.ref a) F' H' ok'.sub0 rfl (ok1.back ok') (ok1.backB ok' g'), fun F' H' ok' E' Q' hE hQ => ?_⟩
    · exact q _ _ c v F' H' ok'.sub0 rfl (ok1.back ok') r'
    · exact ⟨_, _, _, xm, h F H1, hE, F', ok1.star ok', fun r ρ' c v F2 H2 s2 w2 ok2 g2 => hQ v r ρ'.g F2 H2 c s2 ok2.drop (g2.bare w2)⟩
end
end DL
end

section
/-! the def that calls its argument in a try, by its body. -/
namespace DL
open PySem PySem.Spec L2 LamX
abbrev metCx (X : Cx) (Ng : List Str) (x : Str) (sg : Scope) (g : Addr) (cdg : Value) (s : Shared) (H : Hp) : Cx := cxOf C8.CX0 X.prog X.w X.K X.mg X.base Ng x sg g cdg X.A X.stack s H C8.E0
theorem gives_D {X : Cx} {T : List (Addr × Str)} {Ng : List Str} {x a q : Str} {sg : Scope} {g : Addr} {cdg : Value} {bg : List Stmt} {R1 : D → Nat → Out} {M : (Out → Prop) → XC} (Sg : FnScope Ng [a] sg)
    (hw : ∀ (s : Shared) (H : Hp) (An : Anc) (f : Addr) (gas : Nat) (Cr : RV → Nat → Prop) (xm : XC) (C : Out → Prop), (∀ r g', Cr r g' → C (R1 r.toD g')) → (∀ c fs g', xm c fs g' → M C c fs g') →
      (∀ (pn : List (Addr × Obj)) (xe : Value → Shared → Prop) (xt : XC) (p1 p2 : Pos), (∀ c fs g', xm c fs g' → xt c fs g') → Takes ((metCx X Ng x sg g cdg s H).tr pn xe) (WD X.K T An xt) →
        DV ((metCx X Ng x sg g cdg s H).tr pn xe) T An ⟨pad [.ref f] (Ng.length - 1), [], An.ws, gas⟩ (.Call (.Name a p1) [] [] p2) (fun r ρ' => ρ'.ws = An.ws ∧ Cr r ρ'.g)) →
      DSs (metCx X Ng x sg g cdg s H).nox T An ⟨pad [.ref f] (Ng.length - 1), [], An.ws, gas⟩ bg (bodyO An.ws C)) :
    GivesTo X Ng x sg g cdg bg a q (TTmet X.K T R1 M) := by
  intro f c' s H Q tl act hc h
  obtain ⟨F, ws, gas, Cr, xm, C, ok, h1, h2, hret, hnew, hnewB, hact⟩ := h
  have hN : 1 ≤ Ng.length := by
    have e := Sg.pre
    cases Ng with
    | nil => cases e
    | cons _ _ => exact Nat.succ_le_succ (Nat.zero_le _)
  have padL : ∀ {σ : L2.St}, Ng.length ≤ σ.length → (pad [.ref f] (Ng.length - 1)).length ≤ σ.length := fun {σ} h => by
    unfold pad
    rw [List.length_append, List.length_map, List.length_replicate]
    show 1 + (Ng.length - 1) ≤ _
    omega
  have padG : ∀ {F' : Hp} {σ : L2.St}, σ[0]? = some (some (.ref f)) → ∀ (i : Nat) d, (pad [.ref f] (Ng.length - 1))[i]? = some (.dat d) → ∃ v, σ[i]? = some (some v) ∧ R X.K F' ws v d := fun {F' σ} h0 i d e => by
    cases i with
    | zero => cases e; exact ⟨_, h0, .ref⟩
    | succ i =>
      have e2 : (List.replicate (Ng.length - 1) Sl.non)[i]? = some (.dat d) := e
      rw [List.getElem?_replicate] at e2
      split at e2 <;> cases e2
  have startL : (L2.start Ng [.ref f]).length = Ng.length := by
    unfold L2.start
    rw [List.length_append, List.length_map, List.length_replicate]
    show 1 + (Ng.length - 1) = _
    omega
  have hb := hw s H ⟨F, H, ws⟩ f gas Cr xm C h1 h2 (fun pn xe xt p1 p2 hx tk => ?_)
  · refine ⟨_, hb.pe, F, ok.wake (padL (Nat.le_of_eq startL.symm)) (fun _ _ => pad_bx) (padG rfl), fun ρ' c σ' F2 H2 s2 w2 ok2 => ?_, fun rv ρ' c v σ' F2 H2 ok2 gv => ?_, fun ρ' c => c.elim, fun ρ' c => c.elim⟩
    · exact hret _ _ c .non F2 H2 ok2.drop .non
    · cases rv with
      | v d =>
        obtain ⟨hw, c⟩ := c
        refine hret _ _ c v F2 H2 ok2.drop ?_
        rcases hw with hw | ⟨b, rfl⟩
        · have gv' : R X.K F2 ρ'.ws v d := gv
          rw [hw] at gv'
          exact gv'
        · cases (show R X.K F2 ρ'.ws v (.bl b) from gv)
          exact .bl _
      | l a es =>
        obtain ⟨hw, c⟩ := c
        obtain ⟨rfl, _⟩ := id gv
        exact hnew _ _ c a F2 H2 ok2.drop (gv.bare hw)
      | b a cc =>
        obtain ⟨hw, c⟩ := c
        obtain ⟨rfl, _⟩ := id gv
        exact hnewB _ _ c a F2 H2 ok2.drop (gv.bare hw)
  · refine DV.of (act (WD X.K T ⟨F, H, ws⟩ xt) pn xe (fun cls d H' => WD X.K T ⟨F, H, ws⟩ xt cls d [] H') p1 p2 tk (fun _ _ _ _ z => z)) fun σ H' Q' F' ok' q' => ?_
    obtain ⟨v, e1, r1⟩ := ok'.slots 0 (.ref f) rfl
    cases r1
    have hcw : c' ∉ ws := fun z => by
      obtain ⟨⟨_, _, _, e, _⟩, _⟩ := ok.strm c' z
      rw [e] at hc
      cases hc
    have hlen := ok'.len
    refine ⟨e1, ok'.keep c' _ hc (fun ps => codeO_ne ps) hcw, hact F' H' ok'.drop _ _ (fun cls d H2 ⟨c, dx, fs, xs, g', F2, e1, e2, ok2, hx2, rf, w⟩ => ⟨c, dx, fs, xs, g', F2, e1, e2, ok2, hx2, rf, hx _ _ _ w⟩) fun v r g' F2 H2 c s2 ok2 g2 => ?_⟩
    have ok3 : Ok X.K T ⟨F, H, ws⟩ F2 H2 σ ⟨pad [.ref f] (Ng.length - 1), [], ws, g'⟩ := ok2.wake hlen (fun _ _ => pad_bx) (padG e1)
    refine q' r ⟨pad [.ref f] (Ng.length - 1), [], ws, g'⟩ ⟨rfl, c⟩ v F2 H2 s2 rfl ok3 ?_
    have key : ∀ {a : Addr} {c : Con}, GvB X.K ⟨F, H, ws⟩ F2 H2 (.bare ws g') v a c → GvB X.K ⟨F, H, ws⟩ F2 H2 ⟨pad [.ref f] (Ng.length - 1), [], ws, g'⟩ v a c := fun {a c} g2 => by
      obtain ⟨h1, h2, h3, h4, h5, _⟩ := g2
      refine ⟨h1, h2, h3, h4, h5, fun p ds' z => ?_⟩
      cases p with
      | inl i => exact pad_bx z
      | inr j => cases z
    cases r with
    | v d => exact g2
    | l a ds => exact key g2
    | b a c => exact key g2
end DL
end

section
/-! expressions that only read; a lambda of one parameter over such; sorted(range(n), key=it). -/
namespace DL
open PySem PySem.Spec L2 LamX
open PyProof.Rows (IsTup seqObj)
abbrev HKeep (h h' : Heap) : Prop := ∀ b o, h.get? b = some o → h'.get? b = some o
theorem HKeep.trans {h h' h'' : Heap} (a : HKeep h h') (b : HKeep h' h'') : HKeep h h'' := fun c o e => b c o (a c o e)
theorem HKeep.push {h : Heap} (o : Obj) : HKeep h (h.push o) := fun _ _ e => Heap.get?_push_of_some _ e
section
variable (prog : Program) (w : World)
/-- e only reads: it tells a value that reads as p -/
def PR (A : Around) (env : Env) (h : Heap) (e : Expr) (p : PyData) : Prop := ∀ (h1 : Heap) (g : Array GenState) (d : Drawn) (t : Nat) (os : OsState) (Q E : Value → Shared → Prop), HKeep h h1 →
  (∀ (h2 : Heap) (t2 : Nat) (v : Value) (as : List Addr), HKeep h1 h2 → Reads h2 v p as → Q v ⟨h2, g, d, t2, os⟩) → wpAny (model prog w) A (eval e env) Q E ⟨h1, g, d, t, os⟩
end
section
variable {prog : Program} {w : World} {A : Around} {env : Env} {h : Heap} {a b : Expr} {p q : PyData} {pos : Pos} {x : Str}
theorem pr_loc {m : Str → Option Value} {v : Value} {as : List Addr} (hk : env.scope.kind = .function) (hx : env.kindOf x = some .local) (hn : h.Ns env.locals m) (hv : m x = some v) (r : Reads h v p as) (hd : (x == ("__debug__" : Str)) = false := by decide) : PR prog w A env h (.Name x pos) p :=
  fun h1 g d t os Q E k q => wpAny_Name (wpAny_loadName_local hk hx (hn.keeps k) hv (q h1 t v as (fun _ _ e => e) (PyProof.Rows.Reads.keeps k r))) hd
theorem pr_free {c : Addr} {v : Value} {as : List Addr} (hk : env.scope.kind = .function) (hx : env.kindOf x = some .free) (hc : env.cells.lookup x = some c) (hv : h.IsCell c (some v)) (r : Reads h v p as) (hd : (x == ("__debug__" : Str)) = false := by decide) (hn : (x == ("__classdict__" : Str)) = false := by decide) : PR prog w A env h (.Name x pos) p :=
  fun h1 g d t os Q E k q => wpAny_Name (wpAny_loadName_free hk hx hc (by obtain ⟨o, ho, hd⟩ := hv; exact ⟨o, k _ _ ho, hd⟩) (q h1 t v as (fun _ _ e => e) (PyProof.Rows.Reads.keeps k r)) hn) hd
theorem pr_int {i : Int} {j : Nat} : PR prog w A env h (.Constant (.int i) j pos) (.int i) :=
  fun h1 g d t os Q E k q => wpAny_Constant_int (q h1 (t + 1) _ [] (fun _ _ e => e) (.int _ _))
theorem readsAll_get : ∀ {h : Heap} {vs : List Value} {ps : List PyData} {as : List Addr} {j : Nat} {p : PyData}, ReadsAll h vs ps as → ps[j]? = some p → ∃ v bs, vs[j]? = some v ∧ Reads h v p bs
  | _, _, [], _, _, _, _, e => by simp at e
  | _, _, q :: ps, _, j, p, r, e => by
    cases r with
    | cons r1 r2 =>
      cases j with
      | zero =>
        simp only [List.getElem?_cons_zero, Option.some.injEq] at e
        subst e
        exact ⟨_, _, rfl, r1⟩
      | succ j =>
        obtain ⟨v, bs, e1, r3⟩ := readsAll_get (j := j) r2 (by simpa using e)
        exact ⟨v, bs, by simpa using e1, r3⟩
theorem readsAll_len : ∀ {h : Heap} {vs : List Value} {ps : List PyData} {as : List Addr}, ReadsAll h vs ps as → vs.length = ps.length
  | _, _, [], _, r => by cases r; rfl
  | _, _, q :: ps, _, r => by
    cases r with
    | cons r1 r2 => rw [List.length_cons, List.length_cons, readsAll_len r2]
/-- a[b], a list or a tuple, b a place in it -/
theorem pr_ix {ps : List PyData} {j : Nat} {i : Int} (ha : PR prog w A env h a (.list ps) ∨ PR prog w A env h a (.tuple ps)) (hb : PR prog w A env h b (.int i)) (hi : i = (j : Nat)) (hj : ps[j]? = some p) (hz : ps.length ≤ 2 ^ 62) (hs : PlainIx b) : PR prog w A env h (.Subscript a b pos) p := by
  intro h1 g d t os Q E k q
  have hjl : j < ps.length := (List.getElem?_eq_some_iff.mp hj).1
  subst hi
  refine PyProof.Rows.Subscript_ ?_
  have inner : ∀ (h2 : Heap) (t2 : Nat) (v : Value) (as : List Addr), HKeep h1 h2 → (Reads h2 v (.list ps) as ∨ Reads h2 v (.tuple ps) as) → wpAny (model prog w) A (eval b env) (fun u s2 => wpAny (model prog w) A (PyProof.Rows.subscriptTail a b v u) Q E s2) E ⟨h2, g, d, t2, os⟩ := fun h2 t2 v as k2 r => by
    refine hb h2 g d t2 os _ _ (HKeep.trans k k2) fun h3 t3 u bs k3 ru => ?_
    cases ru
    rename_i tk
    rcases r with r | r
    · cases r with
      | list e1 e2 e3 e4 =>
        rename_i ad o vs n as
        obtain ⟨v, cs, ev, rv⟩ := readsAll_get e4 hj
        have hl := readsAll_len e4
        rw [Array.length_toList] at hl
        refine PyProof.Rows.item_listR (items := vs) (k := (j : Nat)) (x := v) ⟨o, k3 _ _ e1, e2, n, e3⟩ (by omega) (by omega) (by rw [Int.toNat_natCast]; simpa using ev) (q h3 t3 v cs (HKeep.trans k2 k3) (PyProof.Rows.Reads.keeps k3 rv)) (hs _ _)
    · cases r with
      | tuple e1 e2 e3 e4 =>
        rename_i ad o vs n
        obtain ⟨v, cs, ev, rv⟩ := readsAll_get e4 hj
        have hl := readsAll_len e4
        rw [Array.length_toList] at hl
        have pl : IsTup h3 ad vs := ⟨o, k3 _ _ e1, e2, n, e3⟩
        exact PyProof.Rows.subscriptTail_builtinR (x := v) pl.typeIs PyProof.Rows.slot_tuple_getitem.lookup
          (PyProof.Rows.getItem_tuple (k := (j : Nat)) (j := j) (Q := fun r s' => r = v ∧ Q r s') pl (by omega) (by omega) (by rw [seqIndex_of (by omega) (by omega), Int.toNat_natCast]) (by simpa using ev) ⟨rfl, q h3 t3 v cs (HKeep.trans k2 k3) (PyProof.Rows.Reads.keeps k3 rv)⟩) (hs _ _)
  rcases ha with ha | ha
  · exact ha h1 g d t os _ _ k fun h2 t2 v as k2 r => inner h2 t2 v as k2 (.inl r)
  · exact ha h1 g d t os _ _ k fun h2 t2 v as k2 r => inner h2 t2 v as k2 (.inr r)
/-- (a, b) of two ints -/
theorem pr_pair {i j : Int} {k : Nat} (ha : PR prog w A env h a (.int i)) (hb : PR prog w A env h b (.int j)) (he1 : starEach [a, b] env = (false, eval a env) :: starEach [b] env := by rfl) (he2 : starEach [b] env = (false, eval b env) :: starEach [] env := by rfl) :
    ∀ (h1 : Heap) (g : Array GenState) (d : Drawn) (t : Nat) (os : OsState) (Q E : Value → Shared → Prop), HKeep h h1 →
    (∀ (h2 : Heap) (t2 : Nat) (v : Value), HKeep h1 h2 → Reads h2 v (.tuple [.int i, .int j]) [] → Q v ⟨h2, g, d, t2, os⟩) → wpAny (model prog w) A (eval (.Tuple [a, b] k pos) env) Q E ⟨h1, g, d, t, os⟩ := by
  intro h1 g d t os Q E kk q
  refine wpAny_Tuple_spliced (PyProof.Rows.args_cons ?_ he1)
  refine ha h1 g d t os _ _ kk fun h2 t2 v as k2 r => ?_
  cases r
  refine PyProof.Rows.args_cons ?_ he2
  refine hb h2 g d t2 os _ _ (HKeep.trans kk k2) fun h3 t3 u bs k3 r => ?_
  cases r
  refine PyProof.Rows.args_nil ⟨by show 2 ≤ sizeLine; decide, ?_⟩
  refine q _ _ _ (HKeep.trans (HKeep.trans k2 k3) (HKeep.push _)) (.tuple (Heap.get?_push_size _ rfl) rfl rfl ?_)
  exact .cons (as := []) (.int _ _) (.cons (as := []) (.int _ _) .nil)
/-- a lambda of one parameter over such an expression, called -/
theorem lam1_pure {s : Shared} {f c' : Addr} {qual pn : Str} {params : Arguments} {body : Expr} {scope : Scope} {cl : List (Str × Addr)} {pm ctv v : Value} {k : PyData} (ho : s.heap.get? f = some (PySem.W.kla_obj "<lambda>" qual params body scope cl pm c' ctv)) (hcode : s.heap.CodeRec (.ref c') qual)
    (hroom : A.depth < recursionLimit) (lim : s.heap.NoLimit) (hbind : bindArgs (PySem.W.kla_fn "<lambda>" qual params body scope cl pm (.ref c') ctv) ⟨[v], []⟩ = pure [(pn, v)]) (hk : scope.kind = .function) (hco : scope.isCoroutine = false) (hgen : scope.isGenerator = false)
    (hcell : ∀ y ∈ scope.names, y.2 ≠ .cell) (hl : scope.names.lookup pn = some .local)
    (hbody : ∀ (L : Addr) (h1 : Heap), HKeep s.heap h1 → h1.Ns L (fun y => [(pn, v)].lookup y) → ∀ (g : Array GenState) (d : Drawn) (t : Nat) (os : OsState) (Q E : Value → Shared → Prop),
      (∀ (h2 : Heap) (t2 : Nat) (u : Value), HKeep h1 h2 → Reads h2 u k [] → Q u ⟨h2, g, d, t2, os⟩) → wpAny (model prog w) (A.deeper (PySem.W.envX qual scope L f (.ref c') cl)) (eval body (PySem.W.envX qual scope L f (.ref c') cl)) Q E ⟨h1, g, d, t, os⟩) :
    wpAny (model prog w) A (call (.ref f) [v]) (PySem.W.KeyPure k s) (fun _ _ => False) s := by
  refine wpAny_call (PySem.W.kla_callFunE hroom ho rfl hco hgen rfl hcode ?_)
  rw [hbind]
  refine wpAny_pure (wpAny_newFunctionEnv hcell (fun y hy => ?_) (fun h₁ hns hsb => ⟨lim.fresh _ hsb, ?_⟩) hk)
  · simp only [List.mem_singleton] at hy
    subst hy
    exact hl
  show codeAny _ _ (.expr body (PySem.W.envX qual scope s.heap.objs.size f (.ref c') cl)) _ _
  have kp : HKeep s.heap h₁ := fun b o e => hsb.extBut b o (Nat.ne_of_lt (Heap.lt_size e)) (Heap.get?_push_of_some _ e)
  exact PySem.W.kla_codeExpr (hbody _ h₁ kp hns s.gens s.drawn _ s.os _ _ fun h2 t2 u k2 r => ⟨h2, t2, rfl, HKeep.trans kp k2, r⟩)
end
section
open PyProof.Rows PySem.W
variable {prog : Program} {w : World} {A : Around} {E : Value → Shared → Prop} {s : Shared}
theorem each_items {n : Nat} {acc : Array Value} (h : ItemsOf (fun i v => ∃ t, v = Value.int (0 + (i : Int) * 1) t) acc n) : EachIs (fun v (i : Nat) => ∃ t, v = Value.int (i : Int) t) acc.toList (List.range n) := by
  obtain ⟨hs, hi⟩ := h
  have key : ∀ (l : List Value) (m : Nat), (∀ j v, l[j]? = some v → ∃ t, v = Value.int ((m + j : Nat) : Int) t) → EachIs (fun v (i : Nat) => ∃ t, v = Value.int (i : Int) t) l (List.range' m l.length) := by
    intro l
    induction l with
    | nil => intro m _; exact .nil
    | cons x l ih =>
      intro m hx
      rw [List.length_cons, List.range'_succ]
      refine .cons (hx 0 x rfl) (ih (m + 1) fun j v e => ?_)
      obtain ⟨t, e⟩ := hx (j + 1) v (by simpa using e)
      exact ⟨t, by rw [e, show m + 1 + j = m + (j + 1) by omega]⟩
  have e := key acc.toList 0 fun j v e => by
    obtain ⟨t, e⟩ := hi j v (by simpa using e)
    refine ⟨t, ?_⟩
    rw [e]
    congr 1
    omega
  rw [Array.length_toList, hs, ← List.range_eq_range'] at e
  exact e
theorem range_size {n : Nat} : Builtin.Range.rangeSize 0 (n : Int) 1 = n := by
  rw [rangeSize_pos (by omega) (by omega)]
  omega
/-- sorted(range(n), key=f) -/
theorem sorted_rng_key {r f : Addr} {n : Nat} {t u v : Tok} {Q : Value → Shared → Prop} (k : Nat → PyData) (hh : A.handled = none) (hr : IsRange s.heap r 0 n 1 t u v) (hn : n ≤ 2 ^ 20) (hal : AllAlike ((List.range n).map k)) (hk : Sortable ((List.range n).map k)) (hu : ∀ x, x ∈ List.range n → A.units + 2 + (k x).depth < cLine)
    (turn : ∀ (x : Value) (i : Nat), (∃ t, x = Value.int (i : Int) t) → i ∈ List.range n → ∀ (h : Heap) (tk : Nat), HKeep s.heap h → wpAny (model prog w) A.in1.in1 (call (.ref f) [x]) (KeyPure (k i) { s with heap := h, toks := tk }) (fun _ _ => False) { s with heap := h, toks := tk })
    (h : ∀ (a : Addr) out c h' tk, HKeep s.heap h' → s.heap.get? a = Option.none → h'.get? a = some (seqObj "list" (List.toArray out) c) → EachIs (fun v (i : Nat) => ∃ t, v = Value.int (i : Int) t) out ((List.range n).mergeSort (dataLe false k)) → Q (.ref a) { s with heap := h', toks := tk }) :
    wpAny (model prog w) A (call (.builtin "sorted") [.ref r] [(Str.ofString "key", .ref f)]) Q E s := by
  have hz : n ≤ sizeLine := by rw [sizeLine_eq]; omega
  refine call_function_entry_kw kind_sorted plain_sorted entry_sorted (ksk_s1 _ _) ?_
  unfold Builtin.«sorted»
  refine wpAny_bind (m := checkCount "sorted" 1 1 _) (wpAny_pure ?_)
  refine wpAny_bind (collect_range (A := A.in1) hh hr (small_one (by omega) (by omega) (by omega) (by omega)) range_size (by omega) fun h1 tk1 acc k1 hi => ?_)
  have el := each_items hi
  have hl : acc.toList.length = n := by rw [el.length, List.length_range]
  refine wpAny_bind (wpAny_newList ?_ (by rw [hl]; exact hz))
  have ho : (h1.push { cls := .type "list", data := .seq acc.toList.toArray }).get? h1.objs.size = some (seqObj "list" acc.toList.toArray 0) := Heap.get?_push_size _ rfl
  refine wpAny_bind (wpAny_holding (wpAny_call_entry_kw slot_list_sort ⟨_, ho, rfl⟩ entry_list_sort ?_ (ksk_l1 _ _)))
  rw [ksk_t1]
  have k2 : HKeep h1 (h1.push { cls := .type "list", data := .seq acc.toList.toArray }) := HKeep.push _
  have ksz : s.heap.get? h1.objs.size = Option.none := by
    cases q : s.heap.get? h1.objs.size with
    | none => rfl
    | some o => exact absurd (Heap.lt_size (k1 _ _ q)) (Nat.lt_irrefl _)
  have up : ∀ {g : Heap}, KeepsBut h1.objs.size (h1.push { cls := .type "list", data := .seq acc.toList.toArray }) g → HKeep s.heap g := fun {g} kp b o q =>
    kp b o (Nat.ne_of_lt (Heap.lt_size (k1 b o q))) (k2 b o (k1 b o q))
  refine keyH_tree (kz := (List.range n).map k) ho (by rw [List.length_map, List.length_range, hl]) (by rw [hl]; exact hz) hal hk (bound_map (A := A.in1.in1) hu)
    (keyH_turns (s := { s with heap := h1.push { cls := .type "list", data := .seq acc.toList.toArray }, toks := tk1 }) el fun v x hR hx h tk kp => turn v x hR hx h tk (up kp)) fun h' tk out c kp hD ko => ⟨_, rfl, wpAny_pure ⟨_, rfl, ?_⟩⟩
  exact h h1.objs.size out c h' tk (up kp) ksz hD (keyedOut_each k ko el)
end
end DL
end

section
/-! sorted(range(n), key=lambda i: (xs[i][0], i)), over data. -/
namespace DL
open PySem PySem.Spec L2 LamX
open PyProof.Rows (IsTup seqObj)
structure Lam1S (pn st : Str) (sc scope : Scope) : Prop where
  kind : scope.kind = .function
  co : scope.isCoroutine = false
  gen : scope.isGenerator = false
  cell : ∀ y ∈ scope.names, y.2 ≠ .cell
  free : ∀ y ∈ scope.names, y.2 = .free → y.1 = st
  par : scope.names.lookup pn = some .local
  fr : scope.names.lookup st = some .free
  up : sc.names.lookup st = some .cell
def lam1SB (pn st : Str) (sc scope : Scope) : Bool :=
  decide (scope.kind = .function) && !scope.isCoroutine && !scope.isGenerator && (scope.names.all fun y => !decide (y.2 = .cell) && (!decide (y.2 = .free) || y.1 == st)) && decide (scope.names.lookup pn = some .local) && decide (scope.names.lookup st = some .free) && decide (sc.names.lookup st = some .cell)
theorem lam1S_by {pn st : Str} {sc scope : Scope} (h : lam1SB pn st sc scope = true) : Lam1S pn st sc scope := by
  unfold lam1SB at h
  simp only [Bool.and_eq_true, Bool.or_eq_true, Bool.not_eq_true', decide_eq_true_eq, decide_eq_false_iff_not, List.all_eq_true, beq_iff_eq] at h
  obtain ⟨⟨⟨⟨⟨⟨h1, h2⟩, h3⟩, h4⟩, h5⟩, h6⟩, h7⟩ := h
  refine ⟨h1, h2, h3, fun y hy => (h4 y hy).1, fun y hy e => ?_, h5, h6, h7⟩
  rcases (h4 y hy).2 with z | z
  · exact absurd e z
  · exact z
def sortIx (n : Nat) (beg : Nat → Int) : List Nat := (List.range n).mergeSort fun p q => decide (beg p < beg q ∨ beg p = beg q ∧ (p : Int) ≤ q)
theorem each_vals : ∀ {vs : List Value} {is : List Nat}, PySem.W.EachIs (fun v (i : Nat) => ∃ t, v = Value.int (i : Int) t) vs is → Vals (is.map fun (i : Nat) => V.int (i : Int)) vs
  | _, _, .nil => .nil
  | _, _, .cons h t => .cons h (each_vals t)
section
variable {X : Cx} {T : List (Addr × Str)} {A : Anc} {ρ : Ev} {C : CV}
theorem rs_nats {K : PySem.W.Frag} {F : Hp} {ws : List Addr} : ∀ is : List Nat, Rs K F ws (is.map fun (i : Nat) => V.int (i : Int)) (is.map fun (i : Nat) => D.int (i : Int))
  | [] => .nil
  | i :: is => .cons (.int _) (rs_nats is)
theorem dv_sortKey {e : Expr} {pn st : Str} {i c P : Addr} {params : Arguments} {scope : Scope} {j k : Nat} {p p1 p2 lpos kpos q1 q2 q3 q4 q5 q6 q7 pos : Pos} (B : Bi X.mg) (hr : Room 1 X.A) (hh : X.A.handled = none)
    (h : DE X T A ρ e (fun d ρ1 => ∃ (n : Nat) (ds : D) (ps : List PyData) (beg : Nat → Int), d = .int n ∧ n ≤ 2 ^ 20 ∧ ρ1.sl[i]? = some (.dat ds) ∧ toPy ds = some (.list ps) ∧ ps.length ≤ 2 ^ 62 ∧
      (∀ j, j < n → ∃ r, ps[j]? = some (.tuple (.int (beg j) :: r)) ∧ r.length ≤ 2 ^ 60) ∧ ∀ a, C (.l a ((sortIx n beg).map fun (i : Nat) => D.int (i : Int))) ρ1))
    (L : Lam1S pn st X.env.scope scope) (hi : slotOf X.N st = some i) (TB : TabB X.base X.mg c P) (hcode : X.env.code = .ref c) (hmT : (P, X.env.qual ++ "<lambda>") ∈ T) (hu : ∀ p ∈ T, p.1 = P → p.2 = X.env.qual ++ "<lambda>")
    (hg : Gl X "sorted" := by rfl) (hgr : Gl X "range" := by rfl) (hdef : defaultsOf params X.env = ([], []) := by rfl)
    (hbind : ∀ (q : Str) (cl : List (Str × Addr)) (pm cv ctv v : Value), bindArgs (PySem.W.kla_fn "<lambda>" q params (.Tuple [.Subscript (.Subscript (.Name st q1) (.Name pn q2) q3) (.Constant (.int 0) j q4) q5, .Name pn q6] k q7) scope cl pm cv ctv) ⟨[v], []⟩ = pure [(pn, v)] := by intro _ _ _ _ _ _; rfl)
    (hdp : (pn == ("__debug__" : Str)) = false := by decide) (hds : (st == ("__debug__" : Str)) = false := by decide) (hcs : (st == ("__classdict__" : Str)) = false := by decide)
    (ha : starEach [e] X.env = (false, eval e X.env) :: starEach [] X.env := by rfl) (hpa : (backTo p2 (starEach [] X.env)).any (·.1) = false := by rfl)
    (he : backTo pos (starEach [.Call (.Name "range" p1) [e] [] p2] X.env) = (false, eval (.Call (.Name "range" p1) [e] [] p2) X.env) :: backTo pos (starEach [] X.env) := by rfl) (hpl : (backTo pos (starEach [.Call (.Name "range" p1) [e] [] p2] X.env)).any (·.1) = false := by rfl)
    (he1 : starEach [.Call (.Name "range" p1) [e] [] p2] X.env = (false, eval (.Call (.Name "range" p1) [e] [] p2) X.env) :: starEach [] X.env := by rfl) :
    DV X T A ρ (.Call (.Name "sorted" p) [.Call (.Name "range" p1) [e] [] p2] [⟨some "key", .Lambda params (.Tuple [.Subscript (.Subscript (.Name st q1) (.Name pn q2) q3) (.Constant (.int 0) j q4) q5, .Name pn q6] k q7) scope lpos, kpos⟩] pos) C := by
  refine ⟨⟨fun pins s σ H Q I ⟨F, ok, q⟩ => ?_⟩⟩
  refine wpAny_Call_Name_kw (ld_blt I hg B.sorted PyProof.Rows.boot_sorted ?_ (by decide) (by decide))
  refine PyProof.Rows.callWith_kw (PyProof.Rows.args_cons ?_ he1) he hpl (by rfl) (by rfl)
  -- range(e)
  refine wpAny_Call_Name_kw (ld_blt I hgr B.range PyProof.Rows.boot_range ?_ (by decide) (by decide))
  refine PyProof.Rows.callWith_type1 (PyProof.Rows.args_cons (thn ((pe_go (T := T) (A := A)).run pins s σ H (fun x H1 => ∃ (n : Nat) (ρ1 : Ev) (F1 : Hp) (ds : D) (ps : List PyData) (beg : Nat → Int), x = .int n ∧ Same F F1 ∧ ρ1.ws = ρ.ws ∧ Ok X.K T A F1 H1 σ ρ1 ∧ n ≤ 2 ^ 20 ∧ ρ1.sl[i]? = some (.dat ds) ∧ toPy ds = some (.list ps) ∧ ps.length ≤ 2 ^ 62 ∧
      (∀ j, j < n → ∃ r, ps[j]? = some (.tuple (.int (beg j) :: r)) ∧ r.length ≤ 2 ^ 60) ∧ ∀ a, C (.l a ((sortIx n beg).map fun (i : Nat) => D.int (i : Int))) ρ1) I
    ⟨ρ, _, h, F, ok, fun d ρ1 ⟨n, ds, ps, beg, ed, r⟩ v F1 H1 s1 w1 ok1 r1 => (by subst ed; cases r1; exact ⟨n, ρ1, F1, ds, ps, beg, rfl, s1, w1, ok1, r⟩)⟩) fun u s1 hh => PyProof.Rows.args_nil ?_) ha) ha hpa
  obtain ⟨_, H1, I1, r1, n, ρ1, F1, ds, ps, beg, rfl, sF, w1, ok1, hn, hsl, hpy, hpl2, hps, hC⟩ := hh
  obtain ⟨t1, rfl⟩ := r1
  refine call_range_1 (PyProof.Rows.args_nil ?_)
  have nR : H1 s1.heap.objs.size = none := I1.hok.fresh (Nat.le_refl _)
  have I2 : Inv X pins σ (upd H1 s1.heap.objs.size (.rng 0 n)) { s1 with heap := s1.heap.push { cls := .type "range", data := .fields #[.int 0 s1.toks, .int n t1, .int 1 (s1.toks + 1)] }, toks := s1.toks + 1 + 1 } :=
    I1.laid (t' := s1.toks + 1 + 1) (fun b o e => Heap.get?_push_of_some _ e) (Nat.le_refl _) ⟨s1.toks, t1, s1.toks + 1, Heap.get?_push_size _ rfl⟩
  obtain ⟨ok2, s2⟩ := ok1.alloc (o := .rng 0 n) nR
  -- the lambda
  show wpAny _ _ (evalAll [(do let v ← eval _ X.env; standAt pos; pure v)]) _ _ _
  refine wpAny_evalAll_cons (wpAny_bind (lam_make3 I2 TB hcode hmT hu ok2.tabs.1 hdef (fun y hy e => ?_) fun f c' pm ctv H3 s3 I3 eN nn T3 hf hfn hfr hco => wpAny_bind (wpAny_standAt (wpAny_pure (wpAny_evalAll_nil ?_)))))
  · rw [L.free y hy e]
    exact I2.ok.has _ (.inl L.up)
  have ok3 := ok2.extN eN nn T3
  show wpAny _ _ (call (.builtin "sorted") [.ref s1.heap.objs.size] [(Str.ofString "key", .ref f)]) _ _ _
  have eR : H3 s1.heap.objs.size = some (.rng 0 n) := eN _ _ upd_same (by intro ps z; cases z)
  obtain ⟨tr, ur, vr, hR⟩ := (show ObjOk X.prog X.w H3 s3.heap _ (.rng 0 n) from I3.hok _ _ eR)
  -- the cell
  obtain ⟨vst, est, rst⟩ := ok3.slots i ds hsl
  obtain ⟨m, hm, hl⟩ := I3.loc
  obtain ⟨ust, rust, look⟩ := hl i st vst (slotOf_ok hi) est (.inr (.inl L.up))
  obtain ⟨asd, rd⟩ := Dp.reads I3 (.list ps) vst ust (dp_of ok3.sub ds vst _ rst hpy) rust
  obtain ⟨cst, hcst, hcell⟩ : ∃ cst, X.env.cells.lookup st = some cst ∧ s3.heap.IsCell cst (some ust) := by
    rcases look with ⟨k, _⟩ | ⟨_, cc, h1, h2⟩
    · have k : X.env.scope.names.lookup st = some .local := k
      rw [L.up] at k
      cases k
    · exact ⟨cc, h1, h2⟩
  have hclo : (cloFrom X.env.cells scope.names []).lookup st = some cst := by
    obtain ⟨c2, h2⟩ := mem_lookup (cloFrom_has (cells := X.env.cells) (acc := []) (PySem.mem_of_lookup L.fr))
    rcases cloFrom_mem (PySem.mem_of_lookup h2) with hm | ⟨_, h3⟩
    · cases hm
    · rw [hcst] at h3
      rw [h2, h3]
      rfl
  have keyD : ∀ i, (PyData.tuple [.int (beg i), .int (i : Nat)]).depth = 1 := fun i => by simp [PyData.depth, PyData.depthAll]
  refine sorted_rng_key (n := n) (fun i => .tuple [.int (beg i), .int (i : Nat)]) hh hR hn (PySem.W.AllAlike.of fun _ _ => by simp [PySem.W.alike, PySem.W.alikeAll]) (PySem.W.Sortable.tuples fun _ => ⟨_, _, rfl⟩) (fun i _ => by have := hr.un; rw [keyD]; omega) (fun x i hx hi h tk kp => ?_) fun a out cc h' tk kp ha hD eo => ?_
  · obtain ⟨tx, rfl⟩ := hx
    have hi : i < n := List.mem_range.mp hi
    obtain ⟨r, hpi, hrl⟩ := hps i hi
    refine lam1_pure (s := { s3 with heap := h, toks := tk }) (kp _ _ hf) ?_ (by have := hr.dp; show X.A.depth < _; omega) (I3.nolimit.keeps kp) (hbind _ _ _ _ _ _) L.kind L.co L.gen L.cell L.par fun Lf h1 k1 hns g d t os Q E q => ?_
    · obtain ⟨⟨oc, vs, t, h1, h2, h3⟩, _, _⟩ := I3.hok c' _ hco
      exact ⟨c', oc, vs, t, rfl, kp _ _ h1, h2, h3⟩
    · have k2 : HKeep s3.heap h1 := HKeep.trans kp k1
      have pS : PR X.prog X.w (X.A.in1.in1.deeper (PySem.W.envX (X.env.qual ++ "<lambda>") scope Lf f (.ref c') (cloFrom X.env.cells scope.names []))) (PySem.W.envX (X.env.qual ++ "<lambda>") scope Lf f (.ref c') (cloFrom X.env.cells scope.names [])) h1 (.Name st q1) (.list ps) :=
        pr_free L.kind L.fr hclo (by obtain ⟨o, ho, hd⟩ := hcell; exact ⟨o, k2 _ _ ho, hd⟩) (PyProof.Rows.Reads.keeps k2 rd) hds hcs
      have pI : ∀ {pp : Pos}, PR X.prog X.w (X.A.in1.in1.deeper (PySem.W.envX (X.env.qual ++ "<lambda>") scope Lf f (.ref c') (cloFrom X.env.cells scope.names []))) (PySem.W.envX (X.env.qual ++ "<lambda>") scope Lf f (.ref c') (cloFrom X.env.cells scope.names [])) h1 (.Name pn pp) (.int (i : Nat)) := fun {pp} =>
        pr_loc (as := []) L.kind L.par hns (by rw [List.lookup_cons, beq_self_eq_true]) (.int _ _) hdp
      exact pr_pair (pr_ix (.inr (pr_ix (.inl pS) pI rfl hpi hpl2 fun _ _ => rfl)) (pr_int (i := 0)) (j := 0) rfl rfl (by rw [List.length_cons]; omega) fun _ _ => rfl) pI (by rfl) (by rfl) h1 g d t os Q E (fun _ _ e => e) q
  · have na : H3 a = none := I3.hok.gone ha
    have eo2 : PySem.W.EachIs (fun v (i : Nat) => ∃ t, v = Value.int (i : Int) t) out (sortIx n beg) := by
      rw [PySem.W.dataLe_ii (β := Nat) beg (fun i => (i : Int))] at eo
      exact eo
    obtain ⟨ok4, g4⟩ := ok3.mine (ds := (sortIx n beg).map fun (i : Nat) => D.int (i : Int)) na (rs_nats _)
    have hlen : (sortIx n beg).length = n := by unfold sortIx; rw [List.length_mergeSort, List.length_range]
    refine ⟨.ref a, upd H3 a (.lst ((sortIx n beg).map fun (i : Nat) => V.int (i : Int))), I3.laidN (t' := tk) kp ha na (show ObjOk X.prog X.w _ _ _ (.lst _) from ⟨?_, out, cc, each_vals eo2, hD⟩), rfl, q _ _ (hC a) (.ref a) _ _ (sF.trans s2) w1 ok4 g4⟩
    rw [List.length_map, hlen, sizeLine_eq]
    omega
end
end DL
end

section
/-! own lists lent: an expression that reads them and tells plain things. -/
namespace DL
open PySem PySem.Spec L2
def ground : D → Bool
  | .non => true
  | .bl _ => true
  | .int _ => true
  | .str _ => true
  | .fn _ => true
  | _ => false
def lent (sl : List Sl) : List Sl := sl.map fun | .non => .non | .dat d => .dat d | .own _ ds => .dat (.lst ds) | .box _ _ => .non
section
variable {K : PySem.W.Frag} {T : List (Addr × Str)} {A : Anc} {F F' H H' F1 : Hp} {σ : L2.St} {ρ : Ev} {g : Nat}
theorem R.ground {ws : List Addr} {v : V} {d : D} (r : R K F ws v d) (h : ground d = true) : R K F' ws v d := by
  cases r with
  | non => exact .non
  | bl b => exact .bl b
  | int i => exact .int i
  | str x => exact .str x
  | fn hf => exact .fn hf
  | _ => cases h
theorem Rs.ground {ws : List Addr} : ∀ {ds : List D} {vs : List V}, Rs K F ws vs ds → (∀ d ∈ ds, DL.ground d = true) → Rs K F' ws vs ds
  | [], _, r, _ => by cases r; exact .nil
  | d :: ds, _, r, h => by
    cases r with
    | cons r t => exact .cons (r.ground (h d (List.mem_cons_self ..))) (Rs.ground t fun x m => h x (List.mem_cons_of_mem _ m))
/-- the frozen heap with all own lists -/
noncomputable def lentF (F H : Hp) (ρ : Ev) : Hp := fun b => by
  classical
  exact if ∃ p ds, ρ.at p = some (b, ds) then H b else F b
theorem lentF_own {p : Sum Nat Nat} {a : Addr} {ds : Con} (h : ρ.at p = some (a, ds)) : lentF F H ρ a = H a := by
  unfold lentF
  rw [if_pos ⟨p, ds, h⟩]
theorem lentF_of {b : Addr} {o : HO} (h : lentF F H ρ b = some o) : (F b = some o) ∨ (∃ p ds, ρ.at p = some (b, ds)) ∧ H b = some o := by
  unfold lentF at h
  split at h
  · rename_i x
    exact .inr ⟨x, h⟩
  · exact .inl h
theorem Ok.lentS (ok : Ok K T A F H σ ρ) : Same F (lentF F H ρ) := fun b o e => by
  unfold lentF
  split
  · rename_i x
    obtain ⟨p, ds, h⟩ := x
    rw [(ok.owns p b ds h).1] at e
    cases e
  · exact e
theorem lent_get {i : Nat} {u : Sl} {sl : List Sl} (h : (lent sl)[i]? = some u) : (∃ d, u = .dat d ∧ sl[i]? = some (.dat d)) ∨ (∃ a ds, u = .dat (.lst ds) ∧ sl[i]? = some (.own a ds)) ∨ u = .non := by
  unfold lent at h
  rw [List.getElem?_map] at h
  obtain ⟨x, e, q⟩ := Option.map_eq_some_iff.mp h
  cases x with
  | non => exact .inr (.inr q.symm)
  | dat d => exact .inl ⟨d, q.symm, e⟩
  | own a ds => exact .inr (.inl ⟨a, ds, q.symm, e⟩)
  | box a c => exact .inr (.inr q.symm)
theorem lent_bx {i : Nat} {sl : List Sl} {x : Addr × Con} : ownOf (lent sl)[i]? ≠ some x := fun e => by
  obtain ⟨s, e, eb⟩ := ownOf_bx (a := x.1) (c := x.2) e
  rcases lent_get e with ⟨d', q, h⟩ | ⟨a, ds, q, h⟩ | q <;> (subst q; cases eb)
theorem Ok.lend (ok : Ok K T A F H σ ρ) : Ok K T ⟨lentF F H ρ, H, ρ.ws⟩ (lentF F H ρ) H σ ⟨lent ρ.sl, [], ρ.ws, ρ.g⟩ := by
  have ownF : ∀ p a ds, ρ.at p = some (a, ds) → lentF F H ρ a = H a := fun p a ds h => lentF_own h
  refine ⟨Same.refl _, fun b o e => ?_, fun _ _ e _ _ => e, fun _ _ n => n, fun _ h => h, ⟨ok.tabs.1, fun b o e => ?_⟩, fun _ h => h, fun _ h => .inl h, fun b m => ?_, fun i d e => ?_, fun i a ds e => ?_, fun p a ds e => ?_, fun p q a ds es e => ?_, ?_⟩
  · rcases lentF_of e with h | ⟨_, h⟩
    · exact ok.sub _ _ h
    · exact h
  · rcases lentF_of e with h | ⟨⟨p, ds, hp⟩, h⟩
    · exact ok.tabs.2 _ _ h
    · obtain ⟨_, _, _, vs, h2, h3⟩ := ok.owns p b ds hp
      rw [h2] at h
      cases h
      exact h3.noTbl
  · refine ⟨(ok.strm b m).1, ?_⟩
    cases q : lentF F H ρ b with
    | none => rfl
    | some o =>
      rcases lentF_of q with h | ⟨⟨p, ds, hp⟩, _⟩
      · rw [(ok.strm b m).2] at h; cases h
      · exact absurd m (ok.owns p b ds hp).2.1
  · rcases lent_get e with ⟨d', q, h⟩ | ⟨a, ds, q, h⟩ | q
    · cases q
      obtain ⟨v, e1, r⟩ := ok.slots i _ h
      exact ⟨v, e1, r.mo ok.lentS⟩
    · cases q
      obtain ⟨_, _, _, vs, h2, r⟩ := ok.ownL h
      exact ⟨.ref a, ok.ownSL h, .lst ((ownF _ _ _ (at_of h)).trans h2) (r.mo ok.lentS)⟩
    · cases q
  · exact absurd e (lent_bx)
  · cases p with
    | inl i => exact absurd e lent_bx
    | inr j => cases e
  · cases p with
    | inl i => exact absurd e lent_bx
    | inr j => cases e
  · show (lent ρ.sl).length ≤ _
    unfold lent
    rw [List.length_map]
    exact ok.len
theorem Ok.regain {ρ' : Ev} (ok : Ok K T A F H σ ρ) (ok' : Ok K T ⟨lentF F H ρ, H, ρ.ws⟩ F' H' σ ρ') (w : ρ'.ws = ρ.ws) : Ok K T A F H' σ (ρ.gas ρ'.g) := by
  have hk : ∀ a o, H a = some o → NoTbl o → a ∉ ρ.ws → H' a = some o := ok'.keep
  have ht : ∀ a, H a ≠ none → H' a ≠ none := ok'.there
  refine ⟨ok.sub0, fun b o e => ok'.sub _ _ (ok'.sub0 _ _ (ok.lentS _ _ e)), fun a o e n w => hk a o (ok.keep a o e n w) n fun z => ?_, ok.apart, fun a h => ht a (ok.there a h), ⟨ok'.tabs.1, ok.tabs.2⟩, ok.wsub, ok.wnew, fun a m => ⟨?_, (ok.strm a m).2⟩, ok.slots, ok.ownS, fun p a ds e => ?_, ok.dist, ok.len⟩
  · rcases ok.wnew a z with q | q
    · exact w q
    · rw [e] at q; cases q
  · exact (ok'.strm a (by rw [w]; exact m)).1
  · obtain ⟨h1, h2, h3, vs, h4, h5⟩ := ok.owns p a ds e
    exact ⟨h1, h2, h3, vs, hk a _ h4 h5.noTbl h2, h5⟩
end
section
variable {X : Cx} {T : List (Addr × Str)} {A : Anc} {ρ : Ev} {C : CV} {B : CB} {e : Expr}
/-- plain things, and new lists of them -/
def lookV (C : CV) (ρ : Ev) : CV := fun r ρ' => match r with
  | .v d => ground d = true ∧ C (.v d) (ρ.gas ρ'.g)
  | .l a ds => (∀ d ∈ ds, ground d = true) ∧ C (.l a ds) (ρ.gas ρ'.g)
  | .b _ _ => False
abbrev lookE (ρ : Ev) : Ev := ⟨lent ρ.sl, [], ρ.ws, ρ.g⟩
theorem dv_look (h : ∀ An : Anc, An.ws = ρ.ws → DV X T An (lookE ρ) e (lookV C ρ)) : DV X T A ρ e C := by
  refine ⟨⟨fun pins s σ H Q I ⟨F, ok, q⟩ => (h ⟨lentF F H ρ, H, ρ.ws⟩ rfl).pe.run pins s σ H Q I ⟨_, ok.lend, fun r ρ' c v F' H' s' w' ok' g' => ?_⟩⟩⟩
  have ok2 := ok.regain ok' w'
  cases r with
  | v d =>
    obtain ⟨hg, c⟩ := c
    have g2 : R X.K F' ρ'.ws v d := g'
    rw [w'] at g2
    exact q _ _ c v F H' (Same.refl _) rfl ok2 (g2.ground hg)
  | l a ds =>
    obtain ⟨hg, c⟩ := c
    obtain ⟨e1, e2, e3, e4, ⟨o, e5, e6⟩, _⟩ := g'
    obtain ⟨vs, rfl, e7⟩ := e6.list
    rw [w'] at e3 e7
    have e4 : H a = none := e4
    have fn : F a = none := by
      cases z : F a with
      | none => rfl
      | some o =>
        rw [ok.sub _ _ z] at e4
        cases e4
    refine q _ _ c v F H' (Same.refl _) rfl ok2 ⟨e1, fn, e3, ok.anone e4, ⟨_, e5, .lst (e7.ground hg)⟩, fun p ds' z => ?_⟩
    obtain ⟨_, _, _, us, z2, _⟩ := ok.owns p a ds' z
    rw [e4] at z2
    cases z2
  | b a cc => exact c.elim
theorem dt_look (h : ∀ An : Anc, An.ws = ρ.ws → DT X T An (lookE ρ) e (fun b ρ' => B b (ρ.gas ρ'.g))) : DT X T A ρ e B :=
  ⟨⟨fun pins s σ H Q I ⟨F, ok, q⟩ => (h ⟨lentF F H ρ, H, ρ.ws⟩ rfl).pe.run pins s σ H Q I ⟨_, ok.lend, fun b ρ' c F' H' s' w' ok' => q _ _ c F H' (Same.refl _) rfl (ok.regain ok' w')⟩⟩⟩
end
end DL
end

section
/-! calls with keywords. -/
namespace DL
open PySem PySem.Spec L2
section
variable (X : Cx) (T : List (Addr × Str)) (A : Anc)
structure DK (ρ : Ev) (kws : List Keyword) (C : CL) : Prop where pe : PK X kws (tA X T A ρ C)
def goK (kws : List Keyword) : TA := fun σ H Q => ∃ ρ C, DK X T A ρ kws C ∧ tA X T A ρ C σ H Q
end
section
variable {X : Cx} {T : List (Addr × Str)} {A : Anc} {ρ : Ev} {e : Expr} {es : List Expr} {kws : List Keyword} {pos p kpos : Pos} {nm : Option Str} {C : CV}
theorem pk_go : PK X kws (goK X T A kws) := ⟨fun pos pins s σ H Q I ⟨_, _, h, q⟩ => h.pe.run pos pins s σ H Q I q⟩
theorem dk_nil {C : CL} (h : C [] ρ) : DK X T A ρ [] C := ⟨⟨fun pos pins s σ H Q I ⟨F, ok, q⟩ => pk_nil.run pos pins s σ H Q I (q [] ρ h [] F H (Same.refl _) rfl ok .nil)⟩⟩
theorem dk_cons {C : CL} (h : DE X T A ρ e (fun d ρ1 => DK X T A ρ1 kws (fun ds ρ2 => C (d :: ds) ρ2))) : DK X T A ρ (⟨nm, e, kpos⟩ :: kws) C :=
  ⟨⟨fun pos pins s σ H Q I ⟨F, ok, q⟩ => (pk_cons (pe_go (T := T) (A := A)) (pk_go (T := T) (A := A))).run pos pins s σ H Q I ⟨ρ, _, h, F, ok, fun d ρ1 h1 v F1 H1 s1 w1 ok1 r1 => ⟨ρ1, _, h1, F1, ok1, fun ds ρ2 h2 vs F2 H2 s2 w2 ok2 r2 =>
    q _ _ h2 (v :: vs) F2 H2 (s1.trans s2) (w2.trans w1) ok2 (.cons (by rw [w2]; exact r1.mo s2) r2)⟩⟩⟩⟩
/-! ### f(k1 = e1, ..), keywords alone -/
def perm {α : Type} (idx : List Nat) (l : List α) : List α := idx.filterMap fun i => l[i]?
theorem vals_at : ∀ {vs : List V} {us : List Value}, Vals vs us → ∀ i : Nat, (vs[i]? = none ∧ us[i]? = none) ∨ ∃ v u, vs[i]? = some v ∧ us[i]? = some u ∧ RelV v u
  | _, _, .nil, i => .inl ⟨rfl, rfl⟩
  | _, _, .cons r t, 0 => .inr ⟨_, _, rfl, rfl, r⟩
  | _, _, .cons r t, i + 1 => vals_at t i
theorem perm_vals {vs : List V} {us : List Value} (r : Vals vs us) : ∀ idx : List Nat, Vals (perm idx vs) (perm idx us)
  | [] => .nil
  | i :: idx => by
    unfold perm
    rw [List.filterMap_cons, List.filterMap_cons]
    rcases vals_at r i with ⟨e1, e2⟩ | ⟨v, u, e1, e2, rv⟩
    · rw [e1, e2]
      exact perm_vals r idx
    · rw [e1, e2]
      exact .cons rv (perm_vals r idx)
theorem Rs.at' {K : PySem.W.Frag} {F : Hp} {ws : List Addr} : ∀ {ds : List D} {vs : List V}, Rs K F ws vs ds → ∀ i : Nat, (vs[i]? = none ∧ ds[i]? = none) ∨ ∃ v d, vs[i]? = some v ∧ ds[i]? = some d ∧ R K F ws v d
  | [], _, r, i => by cases r; exact .inl ⟨rfl, rfl⟩
  | d :: ds, _, r, i => by
    cases r with
    | cons r t =>
      cases i with
      | zero => exact .inr ⟨_, _, rfl, rfl, r⟩
      | succ i => exact Rs.at' t i
theorem perm_rs {K : PySem.W.Frag} {F : Hp} {ws : List Addr} {ds : List D} {vs : List V} (r : Rs K F ws vs ds) : ∀ idx : List Nat, Rs K F ws (perm idx vs) (perm idx ds)
  | [] => .nil
  | i :: idx => by
    unfold perm
    rw [List.filterMap_cons, List.filterMap_cons]
    rcases r.at' i with ⟨e1, e2⟩ | ⟨v, d, e1, e2, rv⟩
    · rw [e1, e2]
      exact perm_rs r idx
    · rw [e1, e2]
      exact .cons rv (perm_rs r idx)
/-- a def that is known, called by keywords ks; idx puts them in the parameters' order -/
structure KnK (P : Program) (w : World) (K : PySem.W.Frag) (mg : Str → Option Value) (base : Heap) (T : List (Addr × Str)) (x : Str) (k : Nat) (N : DF) (ks : List Str) (idx : List Nat) : Prop where
  ex : ∃ (f : Addr) (fd : FuncData) (ps : List Str), FnOk P w K mg base (L2.CX P w) k f fd ps (spD K T N) ∧ mg x = some (.ref f) ∧ PySem.W.keepIn K (.ref f) = true ∧ ∀ ws : List Value, ws.length = ks.length → bindArgs fd ⟨[], ks.zip ws⟩ = pure (ps.zip (perm idx ws))
theorem dv_callK {x : Str} {k : Nat} {N : DF} {ks : List Str} {idx : List Nat} {xc : XC} (F : KnK X.prog X.w X.K X.mg X.base T x k N ks idx) (hr : Room k X.A) (tk : Takes X (WD X.K T A xc)) (h : DK X T A ρ kws (fun ds ρ1 => ds.length = ks.length ∧ N (perm idx ds) ρ1.g (outD A xc C ρ1)))
    (hg : Gl X x := by rfl) (hdb : (x == ("__debug__" : Str)) = false := by decide) (hall : (backToKw pos (keywordEach kws X.env)).all (·.1.isSome) = true := by rfl) (hks : (backToKw pos (keywordEach kws X.env)).filterMap (·.1) = ks := by rfl)
    (hpl : ((backTo pos (starEach [] X.env)).any (·.1) || (backToKw pos (keywordEach kws X.env)).any (·.1.isNone)) = false := by rfl) : DV X T A ρ (.Call (.Name x p) [] kws pos) C := by
  obtain ⟨f, fd, ps, Fn, hm, hk, hb⟩ := F.ex
  refine ⟨⟨fun pins s σ H Q I ⟨F, ok, q⟩ => ?_⟩⟩
  refine wpAny_Call_Name_kw (ld_glob I hg hm ?_ hdb)
  refine PySem.W.callWith_KW0 (h₀ := X.base) I.ok.mod.kin hk hall ?_ hpl
  refine thn (h.pe.run pos pins s σ H (fun zs H2 => zs.length = ks.length ∧ spD X.K T N (perm idx zs) H2 Q (fun cls d H => WD X.K T A xc cls d [] H)) I ⟨F, ok, fun ds ρ1 ⟨hl, h1⟩ vs F1 H1 s1 w1 ok1 r1 => ⟨by rw [r1.len]; exact hl, call_sp ok1 (perm_rs r1 idx) h1 (fun d ρ' c v F' H' s' w' ok' r' => q d ρ' c v F' H' (s1.trans s') (w'.trans w1) ok' r') fun _ _ _ z => z⟩⟩) fun ws s2 ⟨zs, H2, I2, rz, hl, hq⟩ => ⟨I2.kIn, ?_⟩
  rw [hks]
  have r2 := perm_vals rz idx
  refine wpAny_call (codeAny_mono (Fn.run X.A X.stack s2 H2 ⟨[], ks.zip ws⟩ (perm idx ws) (perm idx zs) Q (fun cls d H => WD X.K T A xc cls d [] H) hr I2.env0 (BindsTo.of_eq (hb ws (by rw [← rz.length]; exact hl))) r2 hq) fun r s' hq' => ?_)
  cases r with
  | error e => exact passes_call (W := WD X.K T A xc) tk (fun _ _ _ _ z => z) pins σ H2 s2 e s' I2 hq'
  | ok fl =>
    cases fl with
    | ret u => exact I2.after hq'
    | next => exact False.elim hq'
    | brk => exact False.elim hq'
    | cont => exact False.elim hq'
/-! ### min, max with default= -/
theorem reads_ints {h : Heap} : ∀ {vs : List Value} {ns : List Int}, PyProof.Rows.IntsAre vs ns → ReadsAll h vs (ns.map PyData.int) []
  | _, _, .nil => .nil
  | _, _, .cons _ _ t => .cons (as := []) (.int _ _) (reads_ints t)
theorem alike_intsL (ns : List Int) : PySem.W.AlikeAll (ns.map PyData.int) := by
  refine ⟨fun x hx y hy => ?_, fun x hx => ?_⟩
  · obtain ⟨i, _, rfl⟩ := List.mem_map.mp hx
    obtain ⟨j, _, rfl⟩ := List.mem_map.mp hy
    simp [PySem.W.alike]
  · obtain ⟨i, _, rfl⟩ := List.mem_map.mp hx
    intro z
    cases z
def extD (f : Int → Int → Int) : List Int → D → D
  | [], d => d
  | n :: ns, _ => .int (ns.foldl f n)
theorem dv_minDef {a : Expr} (B : Bi X.mg) (hr : Room 0 X.A) (h : DE X T A ρ a (fun d1 ρ1 => DE X T A ρ1 e (fun d ρ2 => ∃ ns : List Int, seqL d1 = some (ns.map D.int) ∧ C (.v (extD min ns d)) ρ2)))
    (hg : Gl X "min" := by rfl) (he1 : starEach [a] X.env = (false, eval a X.env) :: starEach [] X.env := by rfl) (he : backTo pos (starEach [a] X.env) = (false, eval a X.env) :: backTo pos (starEach [] X.env) := by rfl) (hpl : (backTo pos (starEach [a] X.env)).any (·.1) = false := by rfl) : DV X T A ρ (.Call (.Name "min" p) [a] [⟨some "default", e, kpos⟩] pos) C := by
  refine DV.of (pe_callBK (id := "min") (ks := [("default" : Str)]) (r := fun xs zs H Q => ∃ (l : Addr) (ns : List Int) (dv : V), xs = [.ref l] ∧ zs = [dv] ∧ SqL X.K H l (ns.map V.int) ∧ (ns = [] → Q dv H) ∧ ∀ n r, ns = n :: r → Q (.int (r.foldl min n)) H) ?_ hg B.min (by decide +kernel) (pa_cons (pe_go (T := T) (A := A)) pa_nil he1) (pk_cons (pe_go (T := T) (A := A)) pk_nil) (by decide) (by decide) he hpl) fun σ H Q F ok q => ?_
  · intro pins s σ H xs zs us ws Q I rx rz h
    obtain ⟨l, ns, dv, rfl, rfl, hs, h0, h1⟩ := h
    obtain ⟨its, rv, hl, _⟩ := I.list hs
    rw [Vals.ref1 rx]
    cases rz with
    | cons rd rn =>
    cases rn
    refine PySem.W.min_list_default (xs := ns.map PyData.int) (as := []) hr.hd hl.isList (by simpa using reads_ints rv.ints) (alike_intsL ns) (by rw [PySem.W.depth_ints]; have := hr.un; omega) (fun e h' tk k => ?_) fun y ys i v h' tk bs e hv r k => ?_
    · exact ⟨dv, H, I.kept k, rd, h0 (by cases ns with | nil => rfl | cons _ _ => cases e)⟩
    · cases ns with
      | nil => cases e
      | cons n r =>
        simp only [List.map_cons, List.cons.injEq] at e
        obtain ⟨rfl, rfl⟩ := e
        rw [PySem.W.minD_ints] at r
        cases r
        exact ⟨.int _, H, I.kept k, ⟨_, rfl⟩, h1 n _ rfl⟩
  · refine ⟨ρ, _, h, F, ok, fun d1 ρ1 h1 v1 F1 H1 s1 w1 ok1 r1 => ?_⟩
    refine ⟨ρ1, _, h1, F1, ok1, fun d ρ2 ⟨ns, e, c⟩ v F2 H2 s2 w2 ok2 r2 => ?_⟩
    obtain ⟨l, us, rfl, hs, t⟩ := seqL_of (s2.trans ok2.sub) r1 e
    have e2 := t.ints
    subst e2
    refine ⟨l, ns, v, rfl, rfl, hs, fun e0 => ?_, fun n r e0 => ?_⟩
    · subst e0
      exact q _ _ c v F2 H2 (s1.trans s2) (w2.trans w1) ok2 r2
    · subst e0
      exact q _ _ c _ F2 H2 (s1.trans s2) (w2.trans w1) ok2 (.int _)
theorem dv_maxDef {a : Expr} (B : Bi X.mg) (hr : Room 0 X.A) (h : DE X T A ρ a (fun d1 ρ1 => DE X T A ρ1 e (fun d ρ2 => ∃ ns : List Int, seqL d1 = some (ns.map D.int) ∧ C (.v (extD max ns d)) ρ2)))
    (hg : Gl X "max" := by rfl) (he1 : starEach [a] X.env = (false, eval a X.env) :: starEach [] X.env := by rfl) (he : backTo pos (starEach [a] X.env) = (false, eval a X.env) :: backTo pos (starEach [] X.env) := by rfl) (hpl : (backTo pos (starEach [a] X.env)).any (·.1) = false := by rfl) : DV X T A ρ (.Call (.Name "max" p) [a] [⟨some "default", e, kpos⟩] pos) C := by
  refine DV.of (pe_callBK (id := "max") (ks := [("default" : Str)]) (r := fun xs zs H Q => ∃ (l : Addr) (ns : List Int) (dv : V), xs = [.ref l] ∧ zs = [dv] ∧ SqL X.K H l (ns.map V.int) ∧ (ns = [] → Q dv H) ∧ ∀ n r, ns = n :: r → Q (.int (r.foldl max n)) H) ?_ hg B.max (by decide +kernel) (pa_cons (pe_go (T := T) (A := A)) pa_nil he1) (pk_cons (pe_go (T := T) (A := A)) pk_nil) (by decide) (by decide) he hpl) fun σ H Q F ok q => ?_
  · intro pins s σ H xs zs us ws Q I rx rz h
    obtain ⟨l, ns, dv, rfl, rfl, hs, h0, h1⟩ := h
    obtain ⟨its, rv, hl, _⟩ := I.list hs
    rw [Vals.ref1 rx]
    cases rz with
    | cons rd rn =>
    cases rn
    refine PySem.W.max_list_default (xs := ns.map PyData.int) (as := []) hr.hd hl.isList (by simpa using reads_ints rv.ints) (alike_intsL ns) (by rw [PySem.W.depth_ints]; have := hr.un; omega) (fun e h' tk k => ?_) fun y ys i v h' tk bs e hv r k => ?_
    · exact ⟨dv, H, I.kept k, rd, h0 (by cases ns with | nil => rfl | cons _ _ => cases e)⟩
    · cases ns with
      | nil => cases e
      | cons n r =>
        simp only [List.map_cons, List.cons.injEq] at e
        obtain ⟨rfl, rfl⟩ := e
        rw [PySem.W.maxD_ints] at r
        cases r
        exact ⟨.int _, H, I.kept k, ⟨_, rfl⟩, h1 n _ rfl⟩
  · refine ⟨ρ, _, h, F, ok, fun d1 ρ1 h1 v1 F1 H1 s1 w1 ok1 r1 => ?_⟩
    refine ⟨ρ1, _, h1, F1, ok1, fun d ρ2 ⟨ns, e, c⟩ v F2 H2 s2 w2 ok2 r2 => ?_⟩
    obtain ⟨l, us, rfl, hs, t⟩ := seqL_of (s2.trans ok2.sub) r1 e
    have e2 := t.ints
    subst e2
    refine ⟨l, ns, v, rfl, rfl, hs, fun e0 => ?_, fun n r e0 => ?_⟩
    · subst e0
      exact q _ _ c v F2 H2 (s1.trans s2) (w2.trans w1) ok2 r2
    · subst e0
      exact q _ _ c _ F2 H2 (s1.trans s2) (w2.trans w1) ok2 (.int _)
end
end DL
end

section
/-! comprehensions that map; zip; len(set(..)). -/
namespace DL
open PySem PySem.Spec L2
section
variable {X : Cx} {T : List (Addr × Str)} {A : Anc} {ρ : Ev} {tg elt iter a e2 : Expr} {ifs : List Expr} {scope : Scope} {C : CV} {own : List (Str × Nat)} {p pos tpos : Pos}
/-- a comprehension that maps each item to none or one -/
theorem lcd_map {ds : List D} (f : Nat → D → List D) (no : noOwn ρ.sl (own.map (·.2)) = true) (hz : ds.length < sizeLine)
    (h : ∀ i d (acc : List D) D0, ds[i]? = some d → Blk X scope fun X' => DG X' T A (own.map (·.2)) (ρ.inB (own.map (·.2)) D0 acc ρ.g) tg d (fun ρ3 => Blk X scope fun X' => DTs X' T A ρ3 ifs (fun k ρ4 =>
      branch (Blk X scope fun X' => DE X' T A ρ4 elt (fun y ρ5 => f i d = [y] ∧ ρ5.hid = (D0, .lst acc) :: ρ.hid ∧ wipeS ρ5.sl (own.map (·.2)) = wipeS ρ.sl (own.map (·.2)) ∧ ρ5.g = ρ.g)) (f i d = [] ∧ ρ4.hid = (D0, .lst acc) :: ρ.hid ∧ wipeS ρ4.sl (own.map (·.2)) = wipeS ρ.sl (own.map (·.2)) ∧ ρ4.g = ρ.g) k)))
    (q : ∀ a, C (.l a ((ds.zipIdx.map fun p => f p.2 p.1).flatten)) ρ) : LcD X T A scope own tg elt ifs C ds ρ := by
  refine ⟨fun i acc g => g = ρ.g ∧ acc = ((ds.zipIdx.take i).map fun p => f p.2 p.1).flatten, no, ⟨rfl, rfl⟩, hz, fun i d acc g D0 ed hl ⟨eg, ea⟩ => ?_, fun acc g ⟨eg, ea⟩ a => ?_⟩
  · subst eg
    have step : ∀ y, f i d = y → ((ds.zipIdx.take (i + 1)).map fun p => f p.2 p.1).flatten = acc ++ y := fun y ey => by
      have e2 : ds.zipIdx[i]? = some (d, i) := by rw [List.getElem?_zipIdx, ed]; simp
      rw [List.take_add_one, e2, List.map_append, List.flatten_append, ← ea]
      simp [ey]
    intro s H Cc cl fp
    have g1 := h i d acc D0 ed s H Cc cl fp
    refine ⟨⟨fun pins s' σ H' v u Q I r ⟨F, ok, rr, q⟩ => g1.pe.run pins s' σ H' v u Q I r ⟨F, ok, rr, fun ρ3 c => q ρ3 ?_⟩⟩⟩
    intro s H Cc cl fp
    refine ⟨⟨fun pins s' σ H' Q I ⟨F, ok, q⟩ => (c s H Cc cl fp).pe.run pins s' σ H' Q I ⟨F, ok, fun k ρ4 c4 => q k ρ4 ⟨fun ek => ?_, fun ek => ?_⟩⟩⟩⟩
    · intro s H Cc cl fp
      refine ⟨⟨fun pins s' σ H' Q I ⟨F, ok, q⟩ => (c4.1 ek s H Cc cl fp).pe.run pins s' σ H' Q I ⟨F, ok, fun y ρ5 ⟨e1, e2, e3, e4⟩ => q y ρ5 ⟨e2, e3, e4, ?_⟩⟩⟩⟩
      exact (step _ e1).symm
    · obtain ⟨e1, e2, e3, e4⟩ := c4.2 ek
      refine ⟨e2, e3, e4, ?_⟩
      rw [step _ e1, List.append_nil]
  · subst eg
    rw [ea, List.take_of_length_le (by rw [List.length_zipIdx]; exact Nat.le_refl _)]
    exact q a
theorem lcd_fm {ds : List D} {vs : List Nat} {slW : List Sl} (f : D → List D) (no : noOwn ρ.sl (own.map (·.2)) = true) (hz : ds.length < sizeLine)
    (h : ∀ (i : Nat) d (acc : List D) D0, ds[i]? = some d → Blk X scope fun X' => DG X' T A vs ⟨slW, (D0, .lst acc) :: ρ.hid, ρ.ws, ρ.g⟩ tg d (fun ρ3 => Blk X scope fun X' => DTs X' T A ρ3 ifs (fun k ρ4 =>
      branch (Blk X scope fun X' => DE X' T A ρ4 elt (fun y ρ5 => f d = [y] ∧ ρ5.hid = (D0, .lst acc) :: ρ.hid ∧ wipeS ρ5.sl vs = slW ∧ ρ5.g = ρ.g)) (f d = [] ∧ ρ4.hid = (D0, .lst acc) :: ρ.hid ∧ wipeS ρ4.sl vs = slW ∧ ρ4.g = ρ.g) k)))
    (q : ∀ a, C (.l a (ds.flatMap f)) ρ) (hv : own.map (·.2) = vs := by simp only [List.map_cons, List.map_nil]; rfl)
    (hW : wipeS ρ.sl vs = slW := by simp only [wipeS, List.map_cons, List.map_nil, List.set_cons_zero, List.set_cons_succ]; rfl) : LcD X T A scope own tg elt ifs C ds ρ := by
  subst hv
  subst hW
  refine lcd_map (fun _ d => f d) no hz h fun a => ?_
  have e : ∀ (l : List D) (n : Nat), ((l.zipIdx n).map fun p => f p.1).flatten = l.flatMap f := by
    intro l
    induction l with
    | nil => intro n; rfl
    | cons d l ih => intro n; rw [List.zipIdx_cons, List.map_cons, List.flatten_cons, ih, List.flatMap_cons]
  rw [e]
  exact q a
/-! ### zip -/
def zipOf : List D → List D → List D
  | d :: ds, e :: es => .tup [d, e] :: zipOf ds es
  | _, _ => []
theorem zipOf_get : ∀ (ds es : List D) (i : Nat), (zipOf ds es)[i]? = match ds[i]?, es[i]? with | some d, some e => some (.tup [d, e]) | _, _ => none
  | [], es, i => by
    unfold zipOf
    simp
  | d :: ds, [], i => by
    unfold zipOf
    cases h : (d :: ds)[i]? <;> simp
  | d :: ds, e :: es, 0 => rfl
  | d :: ds, e :: es, i + 1 => by
    show (zipOf ds es)[i]? = _
    rw [zipOf_get ds es i]
    simp
theorem zipOf_len : ∀ (ds es : List D), (zipOf ds es).length = min ds.length es.length
  | [], es => by unfold zipOf; simp
  | d :: ds, [] => by unfold zipOf; simp
  | d :: ds, e :: es => by
    show (zipOf ds es).length + 1 = _
    rw [zipOf_len ds es, List.length_cons, List.length_cons]
    omega
theorem yields_zipL {F : Hp} {ws : List Addr} {qa qb : Addr} {xs ys : List V} {ds es : List D} (h : SqL X.K F qa xs) (t : Rs X.K F ws xs ds) (h' : SqL X.K F qb ys) (t' : Rs X.K F ws ys es) : Yields X T A (Itz X.K qa qb) F ws (zipOf ds es) := by
  refine ⟨fun i F1 H1 s1 s2 l => ?_, fun i F1 H1 s1 s2 l => ?_, fun i d F1 H1 σ ρ x H2 e s1 ok w y => ?_⟩
  · rw [zipOf_len] at l
    have h1 : i < xs.length := by rw [t.len]; omega
    have h2 : i < ys.length := by rw [t'.len]; omega
    exact ⟨xs, ys, xs[i], ys[i], sqL_mono (s1.trans s2) h, sqL_mono (s1.trans s2) h', List.getElem?_eq_getElem h1, List.getElem?_eq_getElem h2⟩
  · rw [zipOf_len] at l
    refine ⟨xs, ys, sqL_mono (s1.trans s2) h, sqL_mono (s1.trans s2) h', ?_⟩
    rw [t.len, t'.len]
    omega
  · obtain ⟨tp, v, u, rfl, hn, rfl, y1, y2⟩ := y
    rw [zipOf_get] at e
    have e1 := y1 xs (sqL_mono (s1.trans ok.sub) h)
    have e2 := y2 ys (sqL_mono (s1.trans ok.sub) h')
    obtain ⟨d1, f1, r1⟩ := t.getV e1
    obtain ⟨d2, f2, r2⟩ := t'.getV e2
    rw [f1, f2] at e
    cases e
    obtain ⟨F2, s3, ok2, r3⟩ := ok.newT (vs := [v, u]) (ds := [d1, d2]) (.cons (R.mono s1 w _ _ r1) (.cons (R.mono s1 w _ _ r2) .nil)) hn
    exact ⟨F2, s3, ok2, r3⟩
theorem yields_zipT {F : Hp} {ws : List Addr} {qa qb : Addr} {xs ys : List V} {ds es : List D} (h : SqT X.K F qa xs) (t : Rs X.K F ws xs ds) (h' : SqT X.K F qb ys) (t' : Rs X.K F ws ys es) : Yields X T A (RZ.ItzT X.K qa qb) F ws (zipOf ds es) := by
  refine ⟨fun i F1 H1 s1 s2 l => ?_, fun i F1 H1 s1 s2 l => ?_, fun i d F1 H1 σ ρ x H2 e s1 ok w y => ?_⟩
  · rw [zipOf_len] at l
    have h1 : i < xs.length := by rw [t.len]; omega
    have h2 : i < ys.length := by rw [t'.len]; omega
    exact ⟨xs, ys, xs[i], ys[i], sqT_mono (s1.trans s2) h, sqT_mono (s1.trans s2) h', List.getElem?_eq_getElem h1, List.getElem?_eq_getElem h2⟩
  · rw [zipOf_len] at l
    refine ⟨xs, ys, sqT_mono (s1.trans s2) h, sqT_mono (s1.trans s2) h', ?_⟩
    rw [t.len, t'.len]
    omega
  · obtain ⟨tp, v, u, rfl, hn, rfl, y1, y2⟩ := y
    rw [zipOf_get] at e
    have e1 := y1 xs (sqT_mono (s1.trans ok.sub) h)
    have e2 := y2 ys (sqT_mono (s1.trans ok.sub) h')
    obtain ⟨d1, f1, r1⟩ := t.getV e1
    obtain ⟨d2, f2, r2⟩ := t'.getV e2
    rw [f1, f2] at e
    cases e
    obtain ⟨F2, s3, ok2, r3⟩ := ok.newT (vs := [v, u]) (ds := [d1, d2]) (.cons (R.mono s1 w _ _ r1) (.cons (R.mono s1 w _ _ r2) .nil)) hn
    exact ⟨F2, s3, ok2, r3⟩
def zipD (C : CL) : List D → Ev → Prop
  | [d, e], ρ => (∃ ds es, seqL d = some ds ∧ seqL e = some es ∧ C (zipOf ds es) ρ) ∨ ∃ ds es, d = .tup ds ∧ e = .tup es ∧ C (zipOf ds es) ρ
  | _, _ => False
theorem di_zip {C : CL} {elts : List Expr} {kk : Nat} (hm : X.mg "zip" = none) (h : DA X T A ρ [a, e2] (fun ds ρ1 => zipD C ds ρ1)) (hg : Gl X "zip" := by rfl) (hs : starEach [a, e2] X.env = (false, eval a X.env) :: starEach [e2] X.env := by rfl) (hpl : (backTo pos (starEach [e2] X.env)).any (·.1) = false := by rfl) :
    DI X T A ρ (.Tuple elts kk tpos) (.Call (.Name "zip" p) [a, e2] [] pos) C :=
  ⟨⟨fun pins s σ H R I ⟨F, ok, q⟩ => (RZ.pi_zipA hg hm (pa_go (T := T) (A := A)) hs hpl).run pins s σ H R I ⟨ρ, _, h, F, ok, fun ds ρ1 c vs F1 H1 s1 w1 ok1 r1 => by
    replace c : zipD C ds ρ1 := c
    unfold zipD at c
    split at c
    · obtain ⟨v, u, rfl, r, r'⟩ := r1.two
      rcases c with ⟨ds, es, e1, e2, c⟩ | ⟨ds, es, rfl, rfl, c⟩
      · obtain ⟨qa, xs, rfl, h1, t1⟩ := seqL_of (Same.refl _) r e1
        obtain ⟨qb, ys, rfl, h2, t2⟩ := seqL_of (Same.refl _) r' e2
        exact ⟨qa, qb, xs, ys, rfl, .inl ⟨sqL_mono ok1.sub h1, sqL_mono ok1.sub h2, q _ _ c _ F1 H1 s1 w1 ok1 (yields_zipL h1 t1 h2 t2)⟩⟩
      · cases r with
        | tup h1 t1 =>
        cases r' with
        | tup h2 t2 => exact ⟨_, _, _, _, rfl, .inr ⟨sqT_mono ok1.sub h1, sqT_mono ok1.sub h2, q _ _ c _ F1 H1 s1 w1 ok1 (yields_zipT h1 t1 h2 t2)⟩⟩
    · exact c.elim⟩⟩⟩
/-! ### len(set(xs)) -/
def nub (ns : List Int) : List Int := ns.foldl PyProof.Rows.step_dedup []
theorem nub_first (ns : List Int) : PyProof.Rows.firstMet (fun i => ns.getD i 0) ns.length = nub ns := by
  unfold PyProof.Rows.firstMet nub
  have e : (List.range ns.length).map (fun i => ns.getD i 0) = ns := by
    apply List.ext_getElem?
    intro i
    rw [List.getElem?_map]
    by_cases h : i < ns.length
    · rw [List.getElem?_range h, List.getElem?_eq_getElem h]
      simp [h]
    · rw [List.getElem?_eq_none (by simpa using Nat.le_of_not_lt h), List.getElem?_eq_none (Nat.le_of_not_lt h)]
      rfl
  rw [e]
theorem de_lenSet {C : CD} {p2 q0 : Pos} (B : Bi X.mg) (hc : X.calm = true) (h : DE X T A ρ a (fun d ρ1 => ∃ ns : List Int, seqL d = some (ns.map D.int) ∧ ns.length ≤ 4000 ∧ C (.int ((nub ns).length : Nat)) ρ1)) (hg : Gl X "len" := by rfl) (hg2 : Gl X "set" := by rfl)
    (na : starEach [a] X.env = (false, eval a X.env) :: starEach [] X.env := by rfl) : DE X T A ρ (.Call (.Name "len" p) [.Call (.Name "set" p2) [a] [] q0] [] pos) C := by
  refine ⟨⟨fun pins s σ H Q I ⟨F, ok, q⟩ => ?_⟩⟩
  refine PyProof.Rows.Call_ (ld_blt I hg B.len (u := .builtin "len") (by decide +kernel) ?_)
  refine PyProof.Rows.callWith_builtin1 (PyProof.Rows.args_cons ?_ rfl) rfl rfl
  refine PyProof.Rows.Call_ (ld_blt I hg2 B.set (u := .type "set") (by decide +kernel) ?_)
  refine PyProof.Rows.callWith_type1 (PyProof.Rows.args_cons (thn ((pe_go (T := T) (A := A)).run pins s σ H (fun x H1 => ∃ (l : Addr) (ns : List Int), x = .ref l ∧ SqL X.K H1 l (ns.map V.int) ∧ ns.length ≤ 4000 ∧ Q (.int ((nub ns).length : Nat)) H1) I
    ⟨ρ, _, h, F, ok, fun d ρ1 ⟨ns, e, hl, c⟩ v F1 H1 s1 w1 ok1 r1 => ?_⟩) fun v s1 ⟨x, H1, I1, r1, q1⟩ => PyProof.Rows.args_nil ?_) na) na rfl
  · obtain ⟨l, us, rfl, hs, t⟩ := seqL_of ok1.sub r1 e
    have e2 := t.ints
    subst e2
    exact ⟨l, ns, rfl, hs, hl, q _ _ c _ F1 H1 s1 w1 ok1 (.int _)⟩
  · obtain ⟨l, ns, rfl, hq, hl, q1⟩ := q1
    cases r1
    obtain ⟨its, r, pl, hz⟩ := I1.list hq
    have hlen : its.toArray.size = ns.length := by rw [List.size_toArray, ← r.length, List.length_map]
    refine call_set_list (I1.ok.hd hc) pl.isList (by simpa using RZ.intsAre_vals r) (by rw [hlen]; unfold scanBound; omega) fun h' tk hS hk => ?_
    refine PyProof.Rows.args_nil ?_
    rw [hlen, nub_first] at hS
    obtain ⟨o, es, ep, t, ho, hex, hd, _, _, _, hf, hn⟩ := hS
    have I2 : Inv X pins σ H1 { s1 with heap := h', toks := tk } := I1.kept fun b o e => hk b o (Heap.lt_size e) e
    have hnl : (nub ns).length ≤ ns.length := by
      rw [← nub_first]
      exact PyProof.Rows.firstMet_length_le _ _
    exact call_len_set ho hex hd hf (by rw [hn] <;> omega) ⟨.int ((nub ns).length : Nat), H1, I2.tok _, ⟨_, by rw [hn]⟩, q1⟩
theorem dg_nm {vs : List Nat} {x : Str} {i : Nat} {d : D} {C : Ev → Prop} (hN : X.N.Nodup) (h : C (ρ.put i (.dat d))) (hi : slotOf X.N x = some i := by rfl) (hx : Loc X.env.scope x := by first | exact Or.inl rfl | exact Or.inr rfl)
    (hf : X.fn x = true ∨ X.env.scope.names.lookup x = some .local := by first | exact .inl rfl | exact .inr rfl | assumption) (hv : i ∈ vs := by first | decide | simp) : DG X T A vs ρ (.Name x pos) d C := dg_name hN h hv hi hx hf
end
/-- a list has as many different things as things just if none stands twice -/
theorem nub_lt (ns : List Int) : ((nub ns).length < ns.length) ↔ ¬ ns.Nodup := by
  have key : ∀ (ns acc : List Int), acc.Nodup → ((ns.foldl PyProof.Rows.step_dedup acc).length = acc.length + ns.length ↔ (acc ++ ns).Nodup) ∧ (ns.foldl PyProof.Rows.step_dedup acc).length ≤ acc.length + ns.length := by
    intro ns
    induction ns with
    | nil => intro acc h; simp [h]
    | cons n ns ih =>
      intro acc h
      rw [List.foldl_cons]
      by_cases hm : acc.any (· == n) = true
      · have e : PyProof.Rows.step_dedup acc n = acc := by unfold PyProof.Rows.step_dedup; rw [if_pos hm]
        rw [e]
        obtain ⟨_, h2⟩ := ih acc h
        have hmem : n ∈ acc := by simpa using hm
        refine ⟨⟨fun z => ?_, fun z => ?_⟩, ?_⟩
        · rw [List.length_cons] at z
          omega
        · rw [List.nodup_append] at z
          exact absurd rfl (z.2.2 n hmem n (List.mem_cons_self ..))
        · rw [List.length_cons]
          omega
      · have e : PyProof.Rows.step_dedup acc n = acc ++ [n] := by unfold PyProof.Rows.step_dedup; rw [if_neg hm]
        have hmem : n ∉ acc := by simpa using hm
        rw [e]
        obtain ⟨h1, h2⟩ := ih (acc ++ [n]) (by
          rw [List.nodup_append]
          refine ⟨h, by simp, fun a ha b hb => ?_⟩
          simp only [List.mem_singleton] at hb
          subst hb
          rintro rfl
          exact hmem ha)
        rw [List.length_append, List.length_singleton] at h1 h2
        rw [List.append_assoc, List.singleton_append] at h1
        rw [List.length_cons]
        refine ⟨⟨fun z => h1.mp (by omega), fun z => by have := h1.mpr z; omega⟩, by omega⟩
  obtain ⟨h1, h2⟩ := key ns [] List.nodup_nil
  unfold nub
  rw [List.nil_append, List.length_nil, Nat.zero_add] at h1
  rw [List.length_nil, Nat.zero_add] at h2
  rw [← h1]
  omega
end DL
end

section
/-! a def whose code object is known: it makes lambdas. -/
namespace DL
open PySem PySem.Spec L2
structure FunC (K : PySem.W.Frag) (x qual : Str) (st : Stmt) (f : Addr) (fd : FuncData) (c : Addr) : Prop where
  ex : ∃ (oc : Value) (od : Option Addr) (kV doc pm : Value) (an : Option Addr) (ct : Value) (osl : Array (Option Value)),
    fd = PySem.W.fnOf x qual (defArgs st) (defBody st) (defScope st) .none kV doc pm an (.ref c) ct ∧ K.lookup f = some ⟨oc, od, .func fd, osl⟩ ∧ PySem.W.codeIn K (.ref c) qual = true
section okd
variable {P : Program} {w : World} {K : PySem.W.Frag} {mg : Str → Option Value} {base : Heap} {T : List (Addr × Str)}
theorem okDc {x qual : Str} {st : Stmt} {f c : Addr} {fd : FuncData} {N ps : List Str} {k : Nat} {M : DF} (F : FunC K x qual st f fd c) (S : FnScope N ps (defScope st)) (len : ∀ ds g C, M ds g C → ds.length = ps.length)
    (hbody : ∀ (A : Around) (outer : List Env) (s : Shared) (H : Hp) (E : XK) (An : Anc) (ds : List D) (g : Nat) (C : Out → Prop), Room k (A.deeper (PyProof.Rows.envOfC qual (defScope st) s.heap.objs.size f (.ref c))) →
      Takes (bodyCx P w K mg base N qual st f (.ref c) A outer s H E) (WD K T An (excO C)) → M ds g C →
      DSs (bodyCx P w K mg base N qual st f (.ref c) A outer s H E) T An ⟨pad ds (N.length - ds.length), [], An.ws, g⟩ (defBody st) (bodyO An.ws C)) : FnOk P w K mg base (L2.CX P w) (k + 1) f fd ps (spD K T M) := by
  obtain ⟨oc, od, kV, doc, pm, an, ct, osl, rfl, lk, hcd⟩ := F.ex
  refine fn_of lk hcd S (fun vs H Q E h => ?_) (fun A outer s H vs Q E hr h => ?_)
  · obtain ⟨F', ws, ds, g, C, ok, r, h, _⟩ := h
    rw [r.len]
    exact len _ _ _ h
  · obtain ⟨F', ws, ds, g, C, ok, r, h, h1, h2, h2b, h3⟩ := h
    have tk : Takes (bodyCx P w K mg base N qual st f (.ref c) A outer s H E) (WD K T ⟨F', H, ws⟩ (excO C)) :=
      (takes_of rfl rfl rfl rfl).imp fun cls d σ H' ⟨c, dx, fs, xs, g', F2, e1, e2, ok2, hx, rf, hc⟩ => by
        subst e1
        subst e2
        exact h3 c fs g' hc dx xs F2 H' ok2 hx rf
    have hb := hbody A outer s H E ⟨F', H, ws⟩ ds g C hr tk h
    refine ⟨_, hb.pe, F', ?_, fun ρ' c σ' F2 H2 s2 w2 ok2 => ?_, fun rv ρ' c v σ' F2 H2 ok2 gv => ?_, fun ρ' c => c.elim, fun ρ' c => c.elim⟩
    · exact ok.padded r
    · exact h1 _ _ c .non F2 H2 ok2.drop .non
    · cases rv with
      | v d =>
        obtain ⟨hw, c⟩ := c
        refine h1 _ _ c v F2 H2 ok2.drop ?_
        rcases hw with hw | ⟨b, rfl⟩
        · have gv' : R K F2 ρ'.ws v d := gv
          rw [hw] at gv'
          exact gv'
        · cases (show R K F2 ρ'.ws v (.bl b) from gv)
          exact .bl _
      | l a es =>
        obtain ⟨hw, c⟩ := c
        obtain ⟨rfl, _⟩ := id gv
        exact h2 _ _ c a F2 H2 ok2.drop (gv.bare hw)
      | b a cc =>
        obtain ⟨hw, c⟩ := c
        obtain ⟨rfl, _⟩ := id gv
        exact h2b _ _ c a F2 H2 ok2.drop (gv.bare hw)
end okd
end DL
end

section
/-! [x] * n as an own list; a, b = (.., ..) of own lists. -/
namespace DL
open PySem PySem.Spec L2
section
variable {X : Cx} {T : List (Addr × Str)} {A : Anc} {ρ : Ev} {a b : Expr} {C : CV} {O : DO} {pos : Pos}
def mulL (C : CV) : D → D → Ev → Prop
  | .lst xs, .int k, ρ => -(2 ^ 63) ≤ k ∧ k < 2 ^ 63 ∧ xs.length * k.toNat ≤ sizeLine ∧ ∀ p, C (.l p (List.replicate k.toNat xs).flatten) ρ
  | _, _, _ => False
theorem dv_mulL (h : DE X T A ρ a (fun d1 ρ1 => DE X T A ρ1 b (fun d2 ρ2 => mulL C d1 d2 ρ2))) : DV X T A ρ (.BinOp a .Mult b pos) C :=
  DV.of (pe_op op_rep (pe_go (T := T) (A := A)) (pe_go (T := T) (A := A))) fun σ H Q F ok q => by
    refine ⟨ρ, _, h, F, ok, fun d1 ρ1 h1 v1 F1 H1 s1 w1 ok1 r1 => ?_⟩
    refine ⟨ρ1, _, h1, F1, ok1, fun d2 ρ2 h2 v2 F2 H2 s2 w2 ok2 r2 => ?_⟩
    replace h2 : mulL C d1 d2 ρ2 := h2
    unfold mulL at h2
    split at h2
    · rename_i dx kk
      cases r2
      cases r1 with
      | lst e1 t1 =>
        obtain ⟨k1, k2, k3, k4⟩ := h2
        refine ⟨_, _, _, rfl, rfl, ok2.sub _ _ (s2 _ _ e1), k1, k2, by rw [t1.len]; exact k3, fun p hp => ?_⟩
        obtain ⟨ok3, g3⟩ := ok2.mine hp (by rw [w2]; exact (t1.mo s2).reps kk.toNat)
        exact q _ _ (k4 p) _ F2 _ (s1.trans s2) (w2.trans w1) ok3 g3
    · exact h2.elim
/-- a value that is held while others are made -/
def held (r : RV) (ρ : Ev) : Ev := match r with
  | .v _ => ρ
  | .l a ds => { ρ with hid := (a, .lst ds) :: ρ.hid }
  | .b a c => { ρ with hid := (a, c) :: ρ.hid }
section held
variable {K : PySem.W.Frag} {F H F' H' : Hp} {σ : L2.St} {v v' : V} {r r' : RV}
theorem Ok.held (ok : Ok K T A F H σ ρ) (g : Gv K A F H ρ v r) : Ok K T A F H σ (DL.held r ρ) := by
  cases r with
  | v d => exact ok
  | l a ds => exact ok.hideB g
  | b a c => exact ok.hideB g
theorem gvB_put {i : Nat} {r1 : RV} {a2 : Addr} {c2 : Con} (g : GvB K A F H (DL.held r1 ρ) v' a2 c2) : GvB K A F H (ρ.put i (.of r1)) v' a2 c2 := by
  have key : ∀ (a1 : Addr) (c1 : Con), (Sl.of r1).bx = some (a1, c1) → DL.held r1 ρ = { ρ with hid := (a1, c1) :: ρ.hid } → GvB K A F H (ρ.put i (.of r1)) v' a2 c2 := fun a1 c1 e1 e2 => by
    rw [e2] at g
    obtain ⟨q1, q2, q3, q4, q5, q6⟩ := g
    refine ⟨q1, q2, q3, q4, q5, fun p ds' z => ?_⟩
    rcases at_put z with ⟨_, z, _⟩ | ⟨_, z⟩
    · rw [e1] at z
      cases z
      exact q6 (.inr 0) _ rfl
    · cases p with
      | inl k => exact q6 (.inl k) ds' z
      | inr k => exact q6 (.inr (k + 1)) ds' z
  cases r1 with
  | v d =>
    obtain ⟨q1, q2, q3, q4, q5, q6⟩ := g
    refine ⟨q1, q2, q3, q4, q5, fun p ds' z => ?_⟩
    rcases at_put z with ⟨_, z, _⟩ | ⟨_, z⟩
    · cases z
    · exact q6 p ds' z
  | l a ds => exact key a (.lst ds) rfl rfl
  | b a c => exact key a c rfl rfl
theorem gv_put {i : Nat} {r1 : RV} (g : Gv K A F H (DL.held r1 ρ) v' r') (w : (DL.held r1 ρ).ws = ρ.ws) : Gv K A F H (ρ.put i (.of r1)) v' r' := by
  cases r' with
  | v d =>
    have g' : R K F (DL.held r1 ρ).ws v' d := g
    rw [w] at g'
    exact g'
  | l a ds => exact gvB_put (c2 := .lst ds) g
  | b a c => exact gvB_put g
theorem held_ws (r : RV) (ρ : Ev) : (DL.held r ρ).ws = ρ.ws := by
  cases r <;> rfl
/-- what was held is at hand again -/
theorem Ok.unheld (ok : Ok K T A F' H' σ (DL.held r ρ)) {F1 H1 : Hp} {ρ1 : Ev} (g : Gv K A F1 H1 ρ1 v r) (s : Same F1 F') (w : ρ.ws = ρ1.ws) : Ok K T A F' H' σ ρ ∧ Gv K A F' H' ρ v r := by
  have key : ∀ (a1 : Addr) (c1 : Con), GvB K A F1 H1 ρ1 v a1 c1 → Ok K T A F' H' σ { ρ with hid := (a1, c1) :: ρ.hid } → Ok K T A F' H' σ ρ ∧ GvB K A F' H' ρ v a1 c1 := fun a1 c1 g ok => by
    obtain ⟨sl3, hid3, ws3, gg3⟩ := ρ
    obtain ⟨ok3, g3⟩ := ok.unhideB
    obtain ⟨e1, _⟩ := id g
    subst e1
    exact ⟨ok3, g3⟩
  cases r with
  | v d =>
    have r1 : R K F1 ρ1.ws v d := g
    exact ⟨ok, show R K F' ρ.ws v d by rw [w]; exact r1.mo s⟩
  | l a ds => exact key a (.lst ds) g ok
  | b a c => exact key a c g ok
end held
theorem ds_parV {x y : Str} {i j : Nat} {px py pt : Pos} {kt k2 pt2} (hc : X.calm = true) (hN : X.N.Nodup) (h : DV X T A ρ a (fun r1 ρ1 => DV X T A (held r1 ρ1) b (fun r2 ρ2 => ∃ ρ3, ρ2 = held r1 ρ3 ∧ ρ3.ws = ρ1.ws ∧ O.nx ((ρ3.put i (.of r1)).put j (.of r2))))) (hi : slotOf X.N x = some i := by rfl) (hj : slotOf X.N y = some j := by rfl) (hij : i ≠ j := by decide)
    (hx : X.env.scope.names.lookup x = some .local := by rfl) (hy : X.env.scope.names.lookup y = some .local := by rfl) (hst : starEach [a, b] X.env = (false, eval a X.env) :: starEach [b] X.env := by rfl) (hst2 : starEach [b] X.env = (false, eval b X.env) :: starEach [] X.env := by rfl)
    (hw : swappedStores [.Tuple [.Name x px, .Name y py] kt pt] (.Tuple [a, b] k2 pt2) X.env = pure (some [x, y]) := by rfl)
    (hs : swapsWithSole [.Tuple [.Name x px, .Name y py] kt pt] (.Tuple [a, b] k2 pt2) pos.line X.env = pure false := by rfl) :
    DS X T A ρ (.Assign [.Tuple [.Name x px, .Name y py] kt pt] (.Tuple [a, b] k2 pt2) pos) O :=
  DS.of (ps_par hc hN (slotOf_ok hi) (slotOf_ok hj) hij hx hy (pa_cons pv_go (pa_cons pv_go pa_nil hst2) hst) hw hs) fun E σ H ⟨F, ok, hn, _⟩ => by
    refine ⟨ρ, _, h, F, ok, fun r1 ρ1 h1 v1 F1 H1 s1 w1 ok1 g1 => ?_⟩
    refine ⟨held r1 ρ1, _, h1, F1, ok1.held g1, fun r2 ρ2 ⟨ρ3, e2, w3, c⟩ v2 F2 H2 s2 w2 ok2 g2 => ⟨_, _, rfl, ?_⟩⟩
    subst e2
    obtain ⟨b1, b2⟩ := ok2.unheld g1 s2 w3
    have b3 : Gv X.K A F2 H2 (ρ3.put i (.of r1)) v2 r2 := gv_put g2 (held_ws _ _)
    exact hn _ c _ F2 H2 (s1.trans s2) (by rw [show ((ρ3.put i (.of r1)).put j (.of r2)).ws = ρ3.ws from rfl, w3]; exact mem_eq w1) ((b1.put b2).put b3)
end
end DL
end

section
/-! A list of one's own handed back: its name at the end of the def. -/
namespace DL
open PySem PySem.Spec L2
theorem Ok.handBack {K : PySem.W.Frag} {T : List (Addr × Str)} {A : Anc} {F H : Hp} {σ : L2.St} {ρ : Ev} (ok : Ok K T A F H σ ρ) {i : Nat} {a : Addr} {ds : List D} (e : ρ.sl[i]? = some (.own a ds)) : Ok K T A F H σ (ρ.put i .non) ∧ Gv K A F H (ρ.put i .non) (.ref a) (.l a ds) := ok.takeB e rfl
section
variable {X : Cx} {T : List (Addr × Str)} {A : Anc} {ρ : Ev} {C : CV} {pos : Pos}
theorem dv_back {x : Str} {i : Nat} (h : ownAt ρ i fun a ds => C (.l a ds) (ρ.put i .non)) (hi : slotOf X.N x = some i := by rfl) (hv : Vis X.env.scope x := by first | exact Or.inl rfl | exact Or.inr (Or.inl rfl) | exact Or.inr (Or.inr rfl))
    (hd : (x == ("__debug__" : Str)) = false := by decide) (hcd : (x == ("__classdict__" : Str)) = false := by decide) : DV X T A ρ (.Name x pos) C :=
  DV.of (pe_var (slotOf_ok hi) hv hd hcd) fun σ H Q F ok q => by
    obtain ⟨a, ds, e, c⟩ := ownAt_ok h
    obtain ⟨ok2, g⟩ := ok.handBack e
    exact ⟨.ref a, ok.ownSL e, q (.l a ds) _ c _ F H (Same.refl _) rfl ok2 g⟩
/-- a box at a slot, by its name -/
theorem dv_backB {x : Str} {i : Nat} {a : Addr} {c : Con} (e : ρ.sl[i]? = some (.box a c)) (h : C (.b a c) (ρ.put i .non)) (hi : slotOf X.N x = some i := by rfl) (hv : Vis X.env.scope x := by first | exact Or.inl rfl | exact Or.inr (Or.inl rfl) | exact Or.inr (Or.inr rfl))
    (hd : (x == ("__debug__" : Str)) = false := by decide) (hcd : (x == ("__classdict__" : Str)) = false := by decide) : DV X T A ρ (.Name x pos) C :=
  DV.of (pe_var (slotOf_ok hi) hv hd hcd) fun σ H Q F ok q => by
    obtain ⟨ok2, g⟩ := ok.takeB e rfl
    exact ⟨.ref a, ok.ownS i a c (ownOf_of e rfl), q (.b a c) _ h _ F H (Same.refl _) rfl ok2 g⟩
end
end DL
end

section
/-! number not in <a list of numbers> -/
namespace DL
open PySem PySem.Spec L2 PyProof
theorem toPys_ints : ∀ ns : List Int, toPys (ns.map D.int) = some (ns.map PyData.int)
  | [] => by rw [List.map_nil, toPys]; rfl
  | n :: ns => by
    rw [List.map_cons, toPys, toPys_ints ns]
    rfl
theorem ints_lay : ∀ ns : List Int, PyData.canLayAll0 (ns.map PyData.int) = true
  | [] => by rw [List.map_nil, PyData.canLayAll0]
  | n :: ns => by rw [List.map_cons, PyData.canLayAll0, ints_lay ns, PyData.canLay0]; rfl
theorem ints_depth : ∀ ns : List Int, PyData.depthAll (ns.map PyData.int) ≤ 1
  | [] => by rw [List.map_nil, PyData.depthAll]; omega
  | n :: ns => by
    have h := ints_depth ns
    rw [List.map_cons, PyData.depthAll, PyData.depth]
    omega
def rNinI (K : PySem.W.Frag) : R2 := fun x y H Q => ∃ (i : Int) (ns : List Int), Dp K H x (.int i) ∧ Dp K H y (.list (ns.map PyData.int)) ∧ Q (.bl (!ns.any fun n => n == i)) H
theorem op_ninI {X : Cx} (hu : X.A.units + 64 < cLine) : OpR X (compareOp .NotIn) (rNinI X.K) := by
  intro pins s σ H x y v u Q I rx ry h
  obtain ⟨i, ns, hd, he, q⟩ := h
  obtain ⟨as, r1⟩ := Dp.reads I _ x v hd rx
  obtain ⟨bs, r2⟩ := Dp.reads I _ y u he ry
  refine SeqAt.notIn_list_reads r2 r1 (ints_lay ns) (by rw [PyData.canLay0]) ?_ ?_
  · have := ints_depth ns
    have h2 : min (PyData.depthAll (ns.map PyData.int)) (PyData.depth (.int i)) ≤ PyData.depthAll (ns.map PyData.int) := Nat.min_le_left _ _
    omega
  · rw [List.any_map]
    exact ⟨.bl _, H, I, rfl, q⟩
def ninD (d1 d2 : D) (C : CD) (ρ : Ev) : Prop := ∃ (i : Int) (ns : List Int), d1 = .int i ∧ d2 = .lst (ns.map D.int) ∧ C (.bl (!ns.any fun n => n == i)) ρ
section
variable {X : Cx} {T : List (Addr × Str)} {A : Anc} {ρ : Ev} {a b : Expr} {pos : Pos}
theorem lk_nin : Lk X T A (rNinI X.K) ninD := by
  intro d1 d2 C F H σ ρ x y Q ⟨i, ns, e1, e2, hc⟩ ok r1 r2 q
  subst e1
  subst e2
  exact ⟨i, ns, dp_of ok.sub _ _ _ r1 rfl, dp_of ok.sub _ _ _ r2 (by rw [toPy, toPys_ints]; rfl), q _ _ hc _ F H (Same.refl _) rfl ok (.bl _)⟩
theorem de_nin {C : CD} (hu : X.A.units + 64 < cLine) (h : In2 X T A ρ a b ninD C) (hm : behindInMarks .NotIn b = false := by with_unfolding_all rfl) : DE X T A ρ (.Compare a [.NotIn] [b] pos) C := de_cmp (op_ninI hu) lk_nin hm h
theorem dt_nin {C : CB} (hu : X.A.units + 64 < cLine) (h : In2 X T A ρ a b ninD (asB C)) (hm : behindInMarks .NotIn b = false := by with_unfolding_all rfl) : DT X T A ρ (.Compare a [.NotIn] [b] pos) C := dt_cmp (op_ninI hu) lk_nin hm h
end
end DL
end

section
/-! judgements by weaker ones; functions compared. -/
namespace PySem
open Sem (wp)
namespace FnT
theorem slot_eq : Slot "function" "__eq__" "object.__eq__" :=
  .of (owner := "object") (n := "__eq__") (by rw [typeLookup_type, builtinLookup_eq_fast]; kernel_rfl) (by decide +kernel) (by decide +kernel) (by decide +kernel)
    (by first | exact .inl (by decide +kernel) | exact .inr (by decide +kernel)) (by rw [isSubtype_type]; kernel_rfl)
section
variable {prog : Program} {w : World} {A : Around} {E : Value → Shared → Prop} {h : Heap} {g : Array GenState} {d : Drawn} {t : Nat} {os : OsState} {a : Addr} {o : Obj}
theorem call_eq {Q : Value → Shared → Prop} (hx : h.get? a = some o) (hc : o.cls = .type "function") (hq : Q (.bool true) ⟨h, g, d, t, os⟩) :
    wpAny (model prog w) A (call (.builtin "object.__eq__") [.ref a, .ref a]) Q E ⟨h, g, d, t, os⟩ :=
  wpAny_call (codeAny_call_builtin slot_eq.plain F.cmpEntry_eq (slot_eq.check _ _ _ _ _ _ _ _ (show (⟨h, g, d, t, os⟩ : Shared).TypeIs (.ref a) "function" from ⟨_, hx, hc⟩) (F.cmpArgs_eq _ _) (objEq_entry_same hq)))
theorem try_eq {Q : Option Value → Shared → Prop} (hx : h.get? a = some o) (hc : o.cls = .type "function") (hq : Q (some (.bool true)) ⟨h, g, d, t, os⟩) :
    wpAny (model prog w) A (tryCompare (.ref a) "__eq__" (.ref a)) Q E ⟨h, g, d, t, os⟩ := by
  simp only [tryCompare]
  exact wpAny_bind (wpAny_callSpecialIfBound?_slot (show (⟨h, g, d, t, os⟩ : Shared).TypeIs (.ref a) "function" from ⟨_, hx, hc⟩) slot_eq (call_eq hx hc (wpAny_pure hq)))
theorem rich_eq (hu : A.units < cLine) {Q : Value → Shared → Prop} (hx : h.get? a = some o) (hc : o.cls = .type "function") (hq : Q (.bool true) ⟨h, g, d, t, os⟩) :
    wpAny (model prog w) A (richCompare .Eq (.ref a) (.ref a)) Q E ⟨h, g, d, t, os⟩ := by
  have hT : (⟨h, g, d, t, os⟩ : Shared).TypeIs (.ref a) "function" := ⟨_, hx, hc⟩
  simp only [richCompare, cmpInfo_Eq, oneThing_ref]
  repeat (first | with_reducible refine wpAny_cRoomFor hu ?_ | with_reducible refine try_eq hx hc ?_ | assumption | wp_step)
end
end FnT
end PySem
namespace DL
open PySem PySem.Spec L2
section
variable {X : Cx} {T : List (Addr × Str)} {A : Anc} {ρ : Ev} {e : Expr} {es : List Expr} {st : Stmt} {sts : List Stmt}
theorem dv_imp {C1 C : CV} (h : DV X T A ρ e C1) (k : ∀ r ρ', C1 r ρ' → C r ρ') : DV X T A ρ e C := DV.of h.pe fun σ H Q F ok q => ⟨F, ok, fun r ρ1 h1 => q r ρ1 (k r ρ1 h1)⟩
theorem de_imp {C1 C : CD} (h : DE X T A ρ e C1) (k : ∀ r ρ', C1 r ρ' → C r ρ') : DE X T A ρ e C := DE.of h.pe fun σ H Q F ok q => ⟨F, ok, fun r ρ1 h1 => q r ρ1 (k r ρ1 h1)⟩
theorem dt_imp {C1 C : CB} (h : DT X T A ρ e C1) (k : ∀ r ρ', C1 r ρ' → C r ρ') : DT X T A ρ e C := DT.of h.pe fun σ H Q F ok q => ⟨F, ok, fun r ρ1 h1 => q r ρ1 (k r ρ1 h1)⟩
theorem ds_imp {O1 O : DO} (h : DS X T A ρ st O1) (n : ∀ ρ', O1.nx ρ' → O.nx ρ') (r : ∀ v ρ', O1.rt v ρ' → O.rt v ρ') (b : ∀ ρ', O1.bk ρ' → O.bk ρ') (c : ∀ ρ', O1.ct ρ' → O.ct ρ') : DS X T A ρ st O := DS.of h.pe fun E σ H ⟨F, ok, q1, q2, q3, q4⟩ =>
  ⟨F, ok, fun ρ' z => q1 ρ' (n ρ' z), fun v ρ' z => q2 v ρ' (r v ρ' z), fun ρ' z => q3 ρ' (b ρ' z), fun ρ' z => q4 ρ' (c ρ' z)⟩
theorem dss_imp {O1 O : DO} (h : DSs X T A ρ sts O1) (n : ∀ ρ', O1.nx ρ' → O.nx ρ') (r : ∀ v ρ', O1.rt v ρ' → O.rt v ρ') (b : ∀ ρ', O1.bk ρ' → O.bk ρ') (c : ∀ ρ', O1.ct ρ' → O.ct ρ') : DSs X T A ρ sts O := DSs.of h.pe fun E σ H ⟨F, ok, q1, q2, q3, q4⟩ =>
  ⟨F, ok, fun ρ' z => q1 ρ' (n ρ' z), fun v ρ' z => q2 v ρ' (r v ρ' z), fun ρ' z => q3 ρ' (b ρ' z), fun ρ' z => q4 ρ' (c ρ' z)⟩
/-! ### a function of the text is itself -/
def rFnE (K : PySem.W.Frag) : R2 := fun x y H Q => ∃ a, x = .ref a ∧ y = .ref a ∧ FnAt K a ∧ Q (.bl true) H
theorem op_eqF (hu : X.A.units + 64 < cLine) : OpR X (compareOp .Eq) (rFnE X.K) := by
  intro pins s σ H x y v u Q I rx ry h
  obtain ⟨a, rfl, rfl, ha, q⟩ := h
  obtain rfl : v = Value.ref a := rx
  obtain rfl : u = Value.ref a := ry
  have h1 : (X.K.lookup a).map (·.cls) = some (.type "function") := beq_iff_eq.mp ha.1
  obtain ⟨o, h2, h3⟩ := Option.map_eq_some_iff.mp h1
  obtain ⟨h, g, d, t, os⟩ := s
  exact PySem.FnT.rich_eq (by omega) (I.kIn a o h2) h3 ⟨.bl true, H, I, rfl, q⟩
def eqFD (d1 d2 : D) (C : CD) (ρ : Ev) : Prop := ∃ a, d1 = .fn a ∧ d2 = .fn a ∧ C (.bl true) ρ
theorem lk_eqF : Lk X T A (rFnE X.K) eqFD := by
  intro d1 d2 C F H σ ρ x y Q h ok r1 r2 q
  obtain ⟨a, rfl, rfl, c⟩ := h
  cases r1 with
  | fn h1 =>
    cases r2
    exact ⟨_, rfl, rfl, h1, q _ _ c _ F H (Same.refl _) rfl ok (.bl _)⟩
theorem de_eqF {a b : Expr} {pos : Pos} {C : CD} (hu : X.A.units + 64 < cLine) (h : In2 X T A ρ a b eqFD C) : DE X T A ρ (.Compare a [.Eq] [b] pos) C := de_cmp (op_eqF hu) lk_eqF (nomark _) h
/-! ### dicts: list(d), walks -/
def kD : Key → D
  | .inl i => .int i
  | .inr x => .str x
theorem kD_R {K : PySem.W.Frag} {F : Hp} {ws : List Addr} : ∀ k : Key, R K F ws (kV k) (kD k)
  | .inl i => .int i
  | .inr x => .str x
theorem Rk.keys {K : PySem.W.Frag} {F : Hp} {ws : List Addr} : ∀ {ds : List (Key × D)} {vs : List (Key × V)}, Rk K F ws vs ds → Rs K F ws (vs.map fun kv => kV kv.1) (ds.map fun kv => kD kv.1)
  | [], _, r => by cases r; exact .nil
  | _ :: _, _, r => by
    cases r with
    | cons r t => exact .cons (kD_R _) (Rk.keys t)
theorem Rk.get {K : PySem.W.Frag} {F : Hp} {ws : List Addr} : ∀ {ds : List (Key × D)} {vs : List (Key × V)} {i : Nat} {k : Key} {d : D}, Rk K F ws vs ds → ds[i]? = some (k, d) → ∃ v, vs[i]? = some (k, v) ∧ R K F ws v d
  | [], _, _, _, _, _, e => by simp at e
  | _ :: ds, _, i, k, d, h, e => by
    cases h with
    | cons h t =>
      cases i with
      | zero => simp at e; obtain ⟨rfl, rfl⟩ := e; exact ⟨_, rfl, h⟩
      | succ i =>
        obtain ⟨v, e1, r⟩ := Rk.get (i := i) t (by simpa using e)
        exact ⟨v, by simpa using e1, r⟩
def lstKD : List D → CV → Ev → Prop
  | [.dK kvs], C, ρ => ∀ a, C (.l a (kvs.map fun kv => kD kv.1)) ρ
  | _, _, _ => False
theorem dv_lstK {C : CV} {p pos : Pos} (hc : X.calm = true) (hm : X.mg "list" = none) (h : DA X T A ρ (e :: es) (fun ds ρ1 => lstKD ds C ρ1)) (hg : Gl X "list" := by rfl) (he : starEach (e :: es) X.env = (false, eval e X.env) :: starEach es X.env := by rfl) (hpl : (backTo pos (starEach es X.env)).any (·.1) = false := by rfl) : DV X T A ρ (.Call (.Name "list" p) (e :: es) [] pos) C :=
  dv_callTy (call_listD hc) (by
    intro ds C F H σ ρ xs Q h ok r0 q
    unfold lstKD at h
    split at h
    · obtain ⟨v, rfl, r⟩ := r0.one
      cases r with
      | @dK a o xs _ h1 t =>
        refine ⟨a, xs, rfl, .inr ⟨o, ok.sub _ _ h1⟩, fun l hl => ?_⟩
        obtain ⟨ok2, g2⟩ := ok.mine hl t.keys
        exact q _ _ (h l) _ F _ (Same.refl _) rfl ok2 g2
    · exact h.elim) hm (by decide +kernel) h hg (by decide) (by decide) he hpl
/-- what a walk over a dict's keys, values, pairs yields -/
theorem yields_keys {F : Hp} {ws : List Addr} {p : Addr} {o : Obj} {xs : List (Key × V)} {ds : List (Key × D)} (h : F p = some (.frz o (.dK xs))) (t : Rk X.K F ws xs ds) : Yields X T A (Itk p o xs) F ws (ds.map fun kv => kD kv.1) := by
  have el : (ds.map fun kv => kD kv.1).length = xs.length := by rw [List.length_map, t.len]
  refine ⟨fun i F1 H1 s1 s2 l => ?_, fun i F1 H1 s1 s2 l => ?_, fun i d F1 H1 σ ρ x H2 e s1 ok w y => ?_⟩
  · rw [el] at l
    exact ⟨s2 _ _ (s1 _ _ h), l⟩
  · rw [el] at l
    exact ⟨s2 _ _ (s1 _ _ h), by omega⟩
  · obtain ⟨rfl, k, v, e1, rfl⟩ := y
    rw [List.getElem?_map] at e
    obtain ⟨⟨k', d'⟩, e2, rfl⟩ := Option.map_eq_some_iff.mp e
    obtain ⟨v', e3, _⟩ := t.get e2
    rw [e1] at e3
    cases e3
    exact ⟨F1, Same.refl _, ok, kD_R k⟩
theorem yields_vals {F : Hp} {ws : List Addr} {p : Addr} {o : Obj} {xs : List (Key × V)} {ds : List (Key × D)} (h : F p = some (.frz o (.dK xs))) (t : Rk X.K F ws xs ds) : Yields X T A (Itd p o xs) F ws (ds.map (·.2)) := by
  have el : (ds.map (·.2)).length = xs.length := by rw [List.length_map, t.len]
  refine ⟨fun i F1 H1 s1 s2 l => ?_, fun i F1 H1 s1 s2 l => ?_, fun i d F1 H1 σ ρ x H2 e s1 ok w y => ?_⟩
  · rw [el] at l
    exact ⟨s2 _ _ (s1 _ _ h), l⟩
  · rw [el] at l
    exact ⟨s2 _ _ (s1 _ _ h), by omega⟩
  · obtain ⟨rfl, k, e1⟩ := y
    rw [List.getElem?_map] at e
    obtain ⟨⟨k', d'⟩, e2, rfl⟩ := Option.map_eq_some_iff.mp e
    obtain ⟨v', e3, r⟩ := t.get e2
    rw [e1] at e3
    cases e3
    exact ⟨F1, Same.refl _, ok, R.mono s1 w _ _ r⟩
theorem yields_items {F : Hp} {ws : List Addr} {p : Addr} {o : Obj} {xs : List (Key × V)} {ds : List (Key × D)} (h : F p = some (.frz o (.dK xs))) (t : Rk X.K F ws xs ds) : Yields X T A (Iti p o xs) F ws (ds.map fun kv => .tup [kD kv.1, kv.2]) := by
  have el : (ds.map fun kv => D.tup [kD kv.1, kv.2]).length = xs.length := by rw [List.length_map, t.len]
  refine ⟨fun i F1 H1 s1 s2 l => ?_, fun i F1 H1 s1 s2 l => ?_, fun i d F1 H1 σ ρ x H2 e s1 ok w y => ?_⟩
  · rw [el] at l
    exact ⟨s2 _ _ (s1 _ _ h), l⟩
  · rw [el] at l
    exact ⟨s2 _ _ (s1 _ _ h), by omega⟩
  · obtain ⟨T', k, v, e1, rfl, hT, rfl⟩ := y
    rw [List.getElem?_map] at e
    obtain ⟨⟨k', d'⟩, e2, rfl⟩ := Option.map_eq_some_iff.mp e
    obtain ⟨v', e3, r⟩ := t.get e2
    rw [e1] at e3
    cases e3
    exact ok.newT (.cons (kD_R k) (.cons (R.mono s1 w _ _ r) .nil)) hT
def dkOf : D → Option (List (Key × D))
  | .dK kvs => some kvs
  | _ => none
theorem di_keys {tg : Expr} {C : CL} (h : DE X T A ρ e (fun d ρ1 => ∃ kvs, dkOf d = some kvs ∧ C (kvs.map fun kv => kD kv.1) ρ1)) : DI X T A ρ tg e C :=
  ⟨⟨fun pins s σ H R I ⟨F, ok, q⟩ => (pi_keys (tg := tg) (pe_go (T := T) (A := A) (e := e))).run pins s σ H R I ⟨ρ, _, h, F, ok, fun d ρ1 ⟨kvs, e1, c⟩ v F1 H1 s1 w1 ok1 r1 => by
    unfold dkOf at e1
    split at e1
    · cases e1
      cases r1 with
      | @dK a o xs _ h1 t => exact ⟨a, o, rfl, .inl ⟨xs, ok1.sub _ _ h1, q _ ρ1 c _ F1 H1 s1 w1 ok1 (yields_keys h1 t)⟩⟩
    · cases e1⟩⟩⟩
theorem di_values {tg : Expr} {C : CL} {apos cpos : Pos} (h : DE X T A ρ e (fun d ρ1 => ∃ kvs, dkOf d = some kvs ∧ C (kvs.map (·.2)) ρ1)) (hbase : attributeBase e "values" X.env (eval e X.env) = eval e X.env := by rfl) (hline : (apos.endLine == cpos.line) = true := by rfl) : DI X T A ρ tg (.Call (.Attribute e "values" apos) [] [] cpos) C :=
  ⟨⟨fun pins s σ H R I ⟨F, ok, q⟩ => (pi_values (tg := tg) (pe_go (T := T) (A := A) (e := e)) hbase hline).run pins s σ H R I ⟨ρ, _, h, F, ok, fun d ρ1 ⟨kvs, e1, c⟩ v F1 H1 s1 w1 ok1 r1 => by
    unfold dkOf at e1
    split at e1
    · cases e1
      cases r1 with
      | @dK a o xs _ h1 t => exact ⟨a, o, xs, rfl, ok1.sub _ _ h1, q _ ρ1 c _ F1 H1 s1 w1 ok1 (yields_vals h1 t)⟩
    · cases e1⟩⟩⟩
theorem di_items {elts : List Expr} {kk : Nat} {tpos : Pos} {C : CL} {apos cpos : Pos} (h : DE X T A ρ e (fun d ρ1 => ∃ kvs, dkOf d = some kvs ∧ C (kvs.map fun kv => .tup [kD kv.1, kv.2]) ρ1)) (hbase : attributeBase e "items" X.env (eval e X.env) = eval e X.env := by rfl) (hline : (apos.endLine == cpos.line) = true := by rfl) : DI X T A ρ (.Tuple elts kk tpos) (.Call (.Attribute e "items" apos) [] [] cpos) C :=
  ⟨⟨fun pins s σ H R I ⟨F, ok, q⟩ => (pi_items (elts := elts) (kk := kk) (tpos := tpos) (pe_go (T := T) (A := A) (e := e)) hbase hline).run pins s σ H R I ⟨ρ, _, h, F, ok, fun d ρ1 ⟨kvs, e1, c⟩ v F1 H1 s1 w1 ok1 r1 => by
    unfold dkOf at e1
    split at e1
    · cases e1
      cases r1 with
      | @dK a o xs _ h1 t => exact ⟨a, o, xs, rfl, ok1.sub _ _ h1, q _ ρ1 c _ F1 H1 s1 w1 ok1 (yields_items h1 t)⟩
    · cases e1⟩⟩⟩
/-- a text, sign by sign -/
def chrs (x : Str) : List D := x.cps.toList.map fun c => .str ⟨#[c]⟩
theorem dv_lcKeys0 {own : List (Str × Nat)} {C : CV} {x : Str} {i : Nat} {p pos : Pos} {tg elt : Expr} {ifs : List Expr} {scope : Scope} (hc : X.calm = true) (hN : X.N.Nodup) (ok : BlkOk X.N X.env.scope scope own) (no : noOwn ρ.sl (own.map (·.2)) = true) (e0 : ρ.sl[i]? = some (.dat (.dK []))) (h : ∀ a, C (.l a []) ρ)
    (hi : slotOf X.N x = some i := by rfl) (hv : Vis X.env.scope x := by first | exact Or.inl rfl | exact Or.inr (Or.inl rfl) | exact Or.inr (Or.inr rfl)) (hdb : (x == ("__debug__" : Str)) = false := by decide) (hcd : (x == ("__classdict__" : Str)) = false := by decide)
    (hs : ∀ y, foldedSetIterable (.Name x p) X.env y = pure y := by intro _; rfl) : DV X T A ρ (.ListComp elt [⟨tg, .Name x p, ifs, 0⟩] scope pos) C :=
  dv_lc (hs := hs) hc hN ok (di_keys (de_name (i := i) (hi := hi) (hv := hv) (hd := hdb) (hcd := hcd) (by
    unfold nameD
    rw [e0]
    exact ⟨[], rfl, fun i acc g => i = 0 ∧ acc = [] ∧ g = ρ.g, no, ⟨rfl, rfl, rfl⟩, by decide, fun i d acc g D0 ei => (by simp at ei), fun acc g ⟨_, e1, e2⟩ a => by rw [e1, e2]; exact h a⟩)))
end
end DL
end

section
/-! x.append(e), x.extend(e); an own list of three numbers that becomes a stream. -/
namespace DL
open PySem PySem.Spec L2
section
variable {X : Cx} {T : List (Addr × Str)} {A : Anc} {ρ : Ev} {e : Expr} {O : DO} {x : Str} {i : Nat} {p1 p2 p3 pos : Pos}
theorem ds_app (h0 : ownAt ρ i fun _ _ => True) (h : DE X T A ρ e (fun d ρ1 => ownAt ρ1 i fun a ds => ds.length < sizeLine ∧ O.nx (ρ1.put i (.own a (ds ++ [d])))))
    (hi : slotOf X.N x = some i := by rfl) (hv : Vis X.env.scope x := by first | exact Or.inl rfl | exact Or.inr (Or.inl rfl) | exact Or.inr (Or.inr rfl)) (hd : (x == ("__debug__" : Str)) = false := by decide) (hcd : (x == ("__classdict__" : Str)) = false := by decide)
    (hbase : attributeBase (.Name x p1) "append" X.env (eval (.Name x p1) X.env) = eval (.Name x p1) X.env := by rfl)
    (hfew : ((backTo p3 (starEach [e] X.env)).all (fun x => !x.1) && (backToKw p3 (keywordEach [] X.env)).all (fun x => x.1.isSome)
      && decide (([e] : List Expr).length + ([] : List Keyword).length + (if ([] : List Keyword).isEmpty then 0 else 1) < 30)) = true := by rfl)
    (hline : (p2.endLine == p3.line) = true := by rfl) (hst : starEach [e] X.env = (false, eval e X.env) :: starEach [] X.env := by rfl) (hplain : (backTo p3 (starEach [] X.env)).any (·.1) = false := by rfl)
    (hs : swapsWith (.Call (.Attribute (.Name x p1) "append" p2) [e] [] p3) none pos.line X.env = pure false := by rfl) :
    DS X T A ρ (.Expr (.Call (.Attribute (.Name x p1) "append" p2) [e] [] p3) pos) O :=
  ds_append (fun t ha => pe_bm F.plainAttrs_list F.slot_list_append F.type_list_append mt_append (pvS hi hv hd hcd) ha hbase hfew hline hst hplain) hst hs h0 h
theorem ds_ext (h0 : ownAt ρ i fun _ _ => True) (h : DE X T A ρ e (fun d ρ1 => ownAt ρ1 i fun a ds => ∃ fs, d = .lst fs ∧ ds.length + fs.length ≤ sizeLine ∧ O.nx (ρ1.put i (.own a (ds ++ fs)))))
    (hi : slotOf X.N x = some i := by rfl) (hv : Vis X.env.scope x := by first | exact Or.inl rfl | exact Or.inr (Or.inl rfl) | exact Or.inr (Or.inr rfl)) (hd : (x == ("__debug__" : Str)) = false := by decide) (hcd : (x == ("__classdict__" : Str)) = false := by decide)
    (hbase : attributeBase (.Name x p1) "extend" X.env (eval (.Name x p1) X.env) = eval (.Name x p1) X.env := by rfl)
    (hfew : ((backTo p3 (starEach [e] X.env)).all (fun x => !x.1) && (backToKw p3 (keywordEach [] X.env)).all (fun x => x.1.isSome)
      && decide (([e] : List Expr).length + ([] : List Keyword).length + (if ([] : List Keyword).isEmpty then 0 else 1) < 30)) = true := by rfl)
    (hline : (p2.endLine == p3.line) = true := by rfl) (hst : starEach [e] X.env = (false, eval e X.env) :: starEach [] X.env := by rfl) (hplain : (backTo p3 (starEach [] X.env)).any (·.1) = false := by rfl)
    (hs : swapsWith (.Call (.Attribute (.Name x p1) "extend" p2) [e] [] p3) none pos.line X.env = pure false := by rfl) :
    DS X T A ρ (.Expr (.Call (.Attribute (.Name x p1) "extend" p2) [e] [] p3) pos) O :=
  ds_extend (fun t ha => pe_bm F.plainAttrs_list F.slot_list_extend F.type_list_extend mt_extend (pvS hi hv hd hcd) ha hbase hfew hline hst hplain) hst hs h0 h
/-! ### own lists that become streams -/
theorem Ok.toStrm {K : PySem.W.Frag} {F H : Hp} {σ : L2.St} {ad : Addr} {c m : Int} {g' : Nat} (ok : Ok K T A F H σ ρ) (e : ρ.sl[i]? = some (.own ad [.int c, .int m, .int 0])) (hc : 0 ≤ c) (hm : 0 ≤ m) (hm2 : m < (big : Int)) (hg : ∀ b ∈ ρ.ws, g' ≤ ρ.g) (hg2 : g' ≤ big) :
    Ok K T A F H σ ⟨ρ.sl.set i (.dat .strm), ρ.hid, ad :: ρ.ws, g'⟩ := by
  obtain ⟨f1, f2, f3, vs, f4, f5⟩ := ok.ownL e
  have hi : i < ρ.sl.length := by
    obtain ⟨z, _⟩ := List.getElem?_eq_some_iff.mp e
    exact z
  have evs : vs = [.int c, .int m, .int 0] := by
    cases f5 with
    | cons r1 t1 =>
      cases r1
      cases t1 with
      | cons r2 t2 =>
        cases r2
        cases t2 with
        | cons r3 t3 =>
          cases r3
          cases t3
          rfl
  subst evs
  have hs : ∀ d v, R K F ρ.ws v d → R K F (ad :: ρ.ws) v d := fun d v r => R.mono (Same.refl _) (fun b z => List.mem_cons_of_mem _ z) d v r
  have hat : ∀ p a ds, (⟨ρ.sl.set i (.dat .strm), ρ.hid, ad :: ρ.ws, g'⟩ : Ev).at p = some (a, ds) → ρ.at p = some (a, ds) ∧ p ≠ .inl i := fun p a ds z => by
    rcases at_put (ρ := ρ) (i := i) (s := .dat .strm) (p := p) (x := (a, ds)) z with ⟨_, q, _⟩ | ⟨q1, q2⟩
    · cases q
    · exact ⟨q2, q1⟩
  refine ⟨ok.sub0, ok.sub, ok.keep, ok.apart, ok.there, ok.tabs, fun b w => List.mem_cons_of_mem _ (ok.wsub b w), fun b w => ?_, fun b w => ?_, fun j d q => ?_, fun j a ds q => ?_, fun p a ds q => ?_, fun p q a ds ds' z1 z2 => ?_, ?_⟩
  · rcases List.mem_cons.mp w with rfl | w
    · exact .inr f3
    · exact ok.wnew b w
  · rcases List.mem_cons.mp w with rfl | w
    · exact ⟨⟨c, m, 0, f4, hc, hm, hm2, Int.le_refl 0, by show 0 + (g' : Int) ≤ (big : Int); omega⟩, f1⟩
    · exact ⟨(ok.strm b w).1.less (hg b w), (ok.strm b w).2⟩
  · rcases put_get q with ⟨rfl, q, _⟩ | ⟨_, q⟩
    · cases q
      exact ⟨.ref ad, ok.ownSL e, .strm (List.mem_cons_self ..)⟩
    · obtain ⟨v, e1, r⟩ := ok.slots j d q
      exact ⟨v, e1, hs d v r⟩
  · exact ok.ownS j a ds (hat (.inl j) a ds q).1
  · obtain ⟨q1, q2⟩ := hat p a ds q
    obtain ⟨g1, g2, g3, us, g4, g5⟩ := ok.owns p a ds q1
    refine ⟨g1, fun z => ?_, g3, us, g4, RC.mono (Same.refl _) (fun b z => List.mem_cons_of_mem _ z) g5⟩
    rcases List.mem_cons.mp z with rfl | z
    · exact q2 (ok.dist _ _ _ _ _ q1 (at_of e))
    · exact g2 z
  · exact ok.dist p q a ds ds' (hat p a ds z1).1 (hat q a ds' z2).1
  · show (ρ.sl.set i (.dat .strm)).length ≤ σ.length
    rw [List.length_set]
    exact ok.len
/-- x = e, e a new list of three numbers: from then on a stream -/
theorem ds_strm {x : Str} {i : Nat} {pos' : Pos} (hN : X.N.Nodup) (h : DV X T A ρ e (fun r ρ1 => ∃ (a : Addr) (c m : Int) (g' : Nat), r = .l a [.int c, .int m, .int 0] ∧ 0 ≤ c ∧ 0 ≤ m ∧ m < (big : Int) ∧ (∀ b ∈ ρ1.ws, g' ≤ ρ1.g) ∧ g' ≤ big ∧ i < ρ1.sl.length ∧ O.nx ⟨ρ1.sl.set i (.dat .strm), ρ1.hid, a :: ρ1.ws, g'⟩)) (hi : slotOf X.N x = some i := by rfl) (hx : Loc X.env.scope x := by first | exact Or.inl rfl | exact Or.inr rfl)
    (hs : swapsWith e (some (.Name x pos')) pos.line X.env = pure false := by rfl) (hf : X.fn x = true ∨ X.env.scope.names.lookup x = some .local := by first | exact .inl rfl | exact .inr rfl | assumption) : DS X T A ρ (.Assign [.Name x pos'] e pos) O :=
  DS.of (ps_set hN (slotOf_ok hi) hx pv_go hs hf) fun E σ H ⟨F, ok, hn, _⟩ => ⟨ρ, _, h, F, ok, fun r ρ1 ⟨a, c, m, g', e1, h1, h2, h3, h4, h5, h6, hc⟩ v F1 H1 s1 w1 ok1 g1 => by
    subst e1
    have ok2 := ok1.put (i := i) g1
    have e2 : (ρ1.put i (.of (.l a [.int c, .int m, .int 0]))).sl[i]? = some (.own a [.int c, .int m, .int 0]) := by
      show (ρ1.sl.set i _)[i]? = _
      rw [List.getElem?_set_self h6]
      rfl
    have ok3 := ok2.toStrm e2 h1 h2 h3 h4 h5
    have e3 : (ρ1.put i (.of (.l a [.int c, .int m, .int 0]))).sl.set i (.dat .strm) = ρ1.sl.set i (.dat .strm) := by
      show (ρ1.sl.set i _).set i _ = _
      rw [List.set_set]
    rw [e3] at ok3
    exact hn _ hc _ F1 H1 s1 (fun b z => List.mem_cons_of_mem _ (mem_eq w1 b z)) ok3⟩
end
end DL
end

section
/-! comprehensions whose items draw. -/
namespace DL
open PySem PySem.Spec L2
section
variable {X : Cx} {T : List (Addr × Str)} {A : Anc} {ρ : Ev} {tg elt iter a e2 : Expr} {ifs : List Expr} {scope : Scope} {C : CV} {own : List (Str × Nat)} {p pos tpos : Pos}
theorem lcd_gas {ds : List D} {vs : List Nat} {slW : List Sl} (J : Nat → List D → Nat → Prop) (no : noOwn ρ.sl (own.map (·.2)) = true) (h0 : J 0 [] ρ.g) (hz : ds.length < sizeLine)
    (h : ∀ (i : Nat) d (acc : List D) D0 g, ds[i]? = some d → J i acc g → Blk X scope fun X' => DG X' T A vs ⟨slW, (D0, .lst acc) :: ρ.hid, ρ.ws, g⟩ tg d (fun ρ3 => Blk X scope fun X' => DTs X' T A ρ3 ifs (fun k ρ4 =>
      branch (Blk X scope fun X' => DE X' T A ρ4 elt (fun y ρ5 => ρ5.hid = (D0, .lst acc) :: ρ.hid ∧ wipeS ρ5.sl vs = slW ∧ J (i + 1) (acc ++ [y]) ρ5.g)) (ρ4.hid = (D0, .lst acc) :: ρ.hid ∧ wipeS ρ4.sl vs = slW ∧ J (i + 1) acc ρ4.g) k)))
    (q : ∀ acc g a, J ds.length acc g → C (.l a acc) (ρ.gas g)) (hv : own.map (·.2) = vs := by simp only [List.map_cons, List.map_nil]; rfl)
    (hW : wipeS ρ.sl vs = slW := by simp only [wipeS, List.map_cons, List.map_nil, List.set_cons_zero, List.set_cons_succ]; rfl) : LcD X T A scope own tg elt ifs C ds ρ := by
  subst hv
  subst hW
  exact ⟨J, no, h0, hz, fun i d acc g D0 ed hl hi => h i d acc D0 g ed hi, fun acc g hi a => q acc g a hi⟩
end
end DL
end

section
/-! repr(x) of lists and tuples, where nothing is being shown already; texts compared. -/
namespace DL
open PySem PySem.Spec L2
section
variable {X : Cx} {T : List (Addr × Str)} {A : Anc} {ρ : Ev} {e a b : Expr} {es : List Expr} {p pos : Pos}
def Shows (d : PyData) : Prop := d.showable = true ∧ d.hasDict = false ∧ d.depth ≤ 64 ∧ d.shown.length ≤ sizeLine
def rRepr (K : PySem.W.Frag) : List V → Hp → VK → Prop := fun xs H Q => ∃ (ad : Addr) (d : PyData), xs = [.ref ad] ∧ Dp K H (.ref ad) d ∧ Shows d ∧ Q (.str d.shown) H
theorem call_reprD (hg : X.A.guards = some []) (hu : X.A.units + 70 < cLine) : CallR X (.builtin "repr") (rRepr X.K) := by
  intro pins s σ H xs us Q I r h
  obtain ⟨ad, d, rfl, hd, ⟨h1, h2, h3, h4⟩, q⟩ := h
  obtain ⟨u, rfl, ru⟩ := vals1 r
  cases ru
  obtain ⟨as, rd⟩ := Dp.reads I d _ _ hd (show RelV (.ref ad) (.ref ad) from rfl)
  exact repr_of_reads' rd h1 (PyData.noDict_hsm h2) hg (by omega) (fun _ _ z => z) (fun h' t tk hk => ⟨.str d.shown, H, I.kept (t' := tk) fun b o z => hk b o z, ⟨t, rfl⟩, q⟩) h4
def reprD : List D → CV → Ev → Prop
  | [.lst ds], C, ρ => ∃ d, toPy (.lst ds) = some d ∧ Shows d ∧ C (.v (.str d.shown)) ρ
  | [.tup ds], C, ρ => ∃ d, toPy (.tup ds) = some d ∧ Shows d ∧ C (.v (.str d.shown)) ρ
  | _, _, _ => False
theorem dv_repr {C : CV} (hgd : X.A.guards = some []) (hu : X.A.units + 70 < cLine) (hm : X.mg "repr" = none) (h : DA X T A ρ (e :: es) (fun ds ρ1 => reprD ds C ρ1)) (hg : Gl X "repr" := by rfl) (he : starEach (e :: es) X.env = (false, eval e X.env) :: starEach es X.env := by rfl) (hpl : (backTo pos (starEach es X.env)).any (·.1) = false := by rfl) : DV X T A ρ (.Call (.Name "repr" p) (e :: es) [] pos) C :=
  dv_callB (call_reprD hgd hu) (by
    intro ds C F H σ ρ xs Q h ok r0 q
    unfold reprD at h
    split at h
    · obtain ⟨v, rfl, r⟩ := r0.one
      obtain ⟨d, e1, e2, c⟩ := h
      have hd := dp_of ok.sub _ _ _ r e1
      cases r with
      | lst h1 t => exact ⟨_, d, rfl, hd, e2, q _ _ c _ F H (Same.refl _) rfl ok (.str _)⟩
    · obtain ⟨v, rfl, r⟩ := r0.one
      obtain ⟨d, e1, e2, c⟩ := h
      have hd := dp_of ok.sub _ _ _ r e1
      cases r with
      | tup h1 t => exact ⟨_, d, rfl, hd, e2, q _ _ c _ F H (Same.refl _) rfl ok (.str _)⟩
    · exact h.elim) hm (by decide +kernel) h hg (by decide) (by decide) he hpl
/-- texts compared -/
def neSD : D → D → CD → Ev → Prop
  | .str x, .str y, C, ρ => C (.bl (!(x == y))) ρ
  | _, _, _, _ => False
theorem lk_neS : Lk X T A rNe neSD := by
  intro d1 d2 C F H σ ρ x y Q h ok r1 r2 q
  unfold neSD at h
  split at h
  · cases r1
    cases r2
    refine ⟨rfl, ?_⟩
    rw [dec_str]
    exact q _ _ h _ F H (Same.refl _) rfl ok (.bl _)
  · exact h.elim
theorem dt_neS {C : CB} (h : In2 X T A ρ a b neSD (asB C)) : DT X T A ρ (.Compare a [.NotEq] [b] pos) C := dt_cmp op_ne lk_neS (nomark _) h
end
/-! how long a text of numbers is -/
theorem textFrom_le : ∀ (ts : List Str) (k : Nat) (acc : Str), (textFrom k acc ts).length ≤ acc.length + piled ts
  | [], k, acc => Nat.le_add_right _ _
  | t :: r, k, acc => by
    have ih := textFrom_le r (k + 1) (acc ++ (if k > 0 then ", " else "" : String) ++ t)
    have e : (acc ++ (if k > 0 then ", " else "" : String) ++ t).length = acc.length + (if k > 0 then 2 else 0) + t.length := by
      rw [strLen_append, strLen_append]
      split <;> rfl
    rw [e] at ih
    rw [piled_cons]
    show (textFrom (k + 1) (acc ++ (if k > 0 then ", " else "" : String) ++ t) r).length ≤ _
    have e2 : (if k > 0 then 2 else 0 : Nat) ≤ 2 := by split <;> decide
    generalize (if k > 0 then 2 else 0 : Nat) = n at ih e2
    omega
theorem listText_le (ts : List Str) : (listText ts).length ≤ 2 + piled ts := by
  unfold listText
  rw [strLen_append]
  have h := textFrom_le ts 0 "["
  have e1 : ("[" : Str).length = 1 := rfl
  have e2 : ("]" : Str).length = 1 := rfl
  omega
theorem tupleText_le (ts : List Str) : (tupleText ts).length ≤ 3 + piled ts := by
  unfold tupleText
  rw [strLen_append, strLen_append]
  have e1 : ("(" : Str).length = 1 := rfl
  have e2 : ((if ts.length == 1 then ",)" else ")" : String) : Str).length ≤ 2 := by split <;> decide
  cases ts with
  | nil =>
    have e3 : (Str.join ", " []).length = 0 := rfl
    omega
  | cons t ts =>
    have := join_length_add (t :: ts) (by simp)
    omega
theorem piled_le {ts : List Str} {B : Nat} (h : ∀ t ∈ ts, t.length ≤ B) : piled ts ≤ ts.length * (B + 2) := by
  induction ts with
  | nil => simp [piled]
  | cons t ts ih =>
    rw [piled_cons, List.length_cons, Nat.succ_mul]
    have h1 := h t (List.mem_cons_self ..)
    have h2 := ih fun x m => h x (List.mem_cons_of_mem _ m)
    omega
end DL
end

section
/-! The end of a law that shows things (repr): its run is told for the claim's own caller alone, where nothing is being shown. -/
namespace DL
open PySem PySem.Spec PyProof.Rows L2 LamX
abbrev emptyTab : Obj := { cls := .none, data := .fields #[] }
/-- what the layer sees of the head's heap: the tables, and the script where the frame does not hold it -/
def seenHp (K : PySem.W.Frag) (a : Addr) (ts : List Addr) (o : Obj) (ns : List Int) : Hp := fun b =>
  if b ∈ ts then some (.tbl #[]) else if b = a ∧ (K.lookup a).isNone = true then some (.frz o (.lst (ns.map V.int))) else none
section
variable {K : PySem.W.Frag} {a b : Addr} {ts : List Addr} {o : Obj} {ns : List Int}
theorem seen_tab (h : b ∈ ts) : seenHp K a ts o ns b = some (.tbl #[]) := if_pos h
theorem seen_scr (h1 : a ∉ ts) (h2 : K.lookup a = none) : seenHp K a ts o ns a = some (.frz o (.lst (ns.map V.int))) := by
  unfold seenHp
  rw [if_neg h1, if_pos ⟨rfl, by rw [h2]; rfl⟩]
theorem seen_not (h1 : b ∉ ts) (h2 : b = a → K.lookup a ≠ none) : seenHp K a ts o ns b = none := by
  unfold seenHp
  rw [if_neg h1, if_neg]
  rintro ⟨e, q⟩
  refine h2 e ?_
  cases z : K.lookup a with
  | none => rfl
  | some _ => rw [z] at q; cases q
theorem seen_cases {u : HO} (h : seenHp K a ts o ns b = some u) : (b ∈ ts ∧ u = .tbl #[]) ∨ (b ∉ ts ∧ b = a ∧ K.lookup a = none ∧ u = .frz o (.lst (ns.map V.int))) := by
  by_cases h1 : b ∈ ts
  · rw [seen_tab h1] at h
    exact .inl ⟨h1, (Option.some.inj h).symm⟩
  · unfold seenHp at h
    rw [if_neg h1] at h
    by_cases h2 : b = a ∧ (K.lookup a).isNone = true
    · rw [if_pos h2] at h
      exact .inr ⟨h1, h2.1, Option.isNone_iff_eq_none.mp h2.2, (Option.some.inj h).symm⟩
    · rw [if_neg h2] at h
      cases h
end
/-- the run of the law where it is called by the claim -/
def RunG (P : Program) (w : World) (K : PySem.W.Frag) (mg : Str → Option Value) (fa : Addr) (cs : List (Addr × Addr)) (n : Nat) : Prop :=
  ∀ (base : Heap) (s : Shared) (H : Hp) (a : Addr) (ns : List Int), K.In base → base.Ns mainGlobals mg → (∀ p ∈ cs, TabB base mg p.1 p.2) → Env0 P w K mg base callerA [] s H → (∀ p ∈ cs, H p.2 = some (.tbl #[])) → (∀ b u, H b = some u → b ∈ cs.map (·.2) ∨ ∃ o, u = .frz o (.lst (ns.map V.int))) →
    SqL K H a (ns.map V.int) → ns.length ≤ n → codeAny (model P w) callerA (.call (.ref fa) ⟨[.ref a], []⟩) (CR (L2.CX P w) [] P w H s (fun v _ => v = .bl true) fun _ _ _ => False) s
section
variable {P : Program} {w : World} {K : PySem.W.Frag} {mg mb : Str → Option Value} {fa a : Addr} {cs : List (Addr × Addr)} {s : Shared} {vs : List Value} {ns : List Int} {n : Nat}
theorem callG (run : RunG P w K mg fa cs n) (hK : K.In s.heap) (hG : s.heap.Ns mainGlobals mg) (hB : s.heap.Ns builtinsNs mb) (hboot : ∀ x : Str, x ≠ "__name__" → mb x = bootBuiltins x) (hL : s.heap.NoLimit) (hgen : s.gens = #[])
    (tab : ∀ p ∈ cs, s.heap.get? p.2 = some emptyTab ∧ K.lookup p.2 = none ∧ PySem.W.CodeHd s.heap p.1 p.2)
    (hbm : ∃ (bm : Addr) (ob : Obj), mg "__builtins__" = some (.ref bm) ∧ bm ≠ builtinsNs ∧ s.heap.get? bm = some ob ∧ ob.cls = .type "module" ∧ ob.dict = some builtinsNs ∧ ob.data = .plain)
    (hscr : s.heap.get? a = some { cls := .type "list", data := .seq vs.toArray }) (hints : IntsAre vs ns) (hlen : ns.length ≤ n) (hn : n ≤ sizeLine) :
    codeAny (model P w) callerA (.call (.ref fa) ⟨[.ref a], []⟩) (fun r s' => r = .ok (.ret (.bool true)) ∧ OldK s.heap s'.heap ∧ s'.os = s.os ∧ AllBare s'.gens) s := by
  have hvals := vals_ints hints
  have hvl := hints.length
  obtain ⟨H, eH⟩ : ∃ H, H = seenHp K a (cs.map (·.2)) { cls := .type "list", data := .seq vs.toArray } ns := ⟨_, rfl⟩
  have cases_ : ∀ b u, H b = some u → (b ∈ cs.map (·.2) ∧ u = .tbl #[]) ∨ (b ∉ cs.map (·.2) ∧ b = a ∧ K.lookup a = none ∧ u = .frz { cls := .type "list", data := .seq vs.toArray } (.lst (ns.map V.int))) := fun b u e => seen_cases (by rw [← eH]; exact e)
  have tabObjAt : ∀ b ∈ cs.map (·.2), s.heap.get? b = some emptyTab := fun b hb => by
    obtain ⟨p, hp, rfl⟩ := List.mem_map.mp hb
    exact (tab p hp).1
  have scr_not_tab : a ∉ cs.map (·.2) := fun z => by
    have := hscr.symm.trans (tabObjAt a z)
    injection this with e
    injection e with _ _ e3
    cases e3
  -- all else is not seen
  have unseen : ∀ {b : Addr} {o : Obj}, s.heap.get? b = some o → (∀ xs m, o.data ≠ .seq xs m) → o.data ≠ .fields #[] → H b = none := fun {b o} e h1 h2 => by
    cases q : H b with
    | none => rfl
    | some u =>
      rcases cases_ b u q with ⟨hb, _⟩ | ⟨_, rfl, _, _⟩
      · rw [tabObjAt b hb] at e
        cases e
        exact (h2 rfl).elim
      · rw [hscr] at e
        cases e
        exact (h1 _ _ rfl).elim
  have ofDict : ∀ {b : Addr} {o : Obj} {es : Array DictEntry} {ep : Nat}, s.heap.get? b = some o → o.data = .dict es ep → (hidT s.heap H).get? b = some o := fun {b o es ep} e d =>
    hidT_get e (unseen e (fun xs m z => by rw [d] at z; cases z) fun z => by rw [d] at z; cases z)
  have nsB : ∀ {b : Addr} {m : Str → Option Value}, s.heap.Ns b m → (hidT s.heap H).Ns b m := fun {b m} ⟨o, es, ep, e, d, r⟩ => ⟨o, es, ep, ofDict e d, d, r⟩
  have inB : K.In (hidT s.heap H) := fun b o e => by
    refine hidT_get (hK b o e) ?_
    cases q : H b with
    | none => rfl
    | some u =>
      rcases cases_ b u q with ⟨hb, _⟩ | ⟨_, rfl, hk, _⟩
      · obtain ⟨p, hp, rfl⟩ := List.mem_map.mp hb
        rw [(tab p hp).2.1] at e
        cases e
      · rw [hk] at e
        cases e
  have tabB : ∀ p ∈ cs, TabB (hidT s.heap H) mg p.1 p.2 := fun p hp => by
    obtain ⟨t1, t2, t3⟩ := tab p hp
    refine ⟨?_, ?_, fun z => ?_⟩
    · obtain ⟨o, us, file, tf, flags, tg, inF, text, tt, e1, r1, r2, r3, rest⟩ := t3
      refine ⟨o, us, file, tf, flags, tg, inF, text, tt, hidT_get e1 (unseen e1 (fun xs m z => ?_) fun z => ?_), r1, r2, r3, rest⟩
      · rw [r2] at z
        cases z
      · rw [r2] at z
        injection z with z
        rw [z] at r3
        cases r3
    · obtain ⟨bm, ob, b1, b2, b3, b4, b5, b6⟩ := hbm
      refine ⟨bm, ob, b1, b2, fun z => ?_, fun z => ?_, hidT_get b3 (unseen b3 (fun xs m z => ?_) fun z => ?_), b4, b5, b6⟩
      · obtain ⟨o, es, ep, e, d, _⟩ := hG
        rw [← z, b3] at e
        cases e
        rw [b6] at d
        cases d
      · rw [← z, b3] at t1
        cases t1
        cases b6
      · rw [b6] at z
        cases z
      · rw [b6] at z
        cases z
    · obtain ⟨o, es, ep, e, d, _⟩ := hG
      rw [z, t1] at e
      cases e
      cases d
  have hok : HOk P w H s.heap := fun b u e => by
    rcases cases_ b u e with ⟨hb, rfl⟩ | ⟨_, rfl, _, rfl⟩
    · exact tabObjAt b hb
    · exact ⟨hscr, by rw [List.length_map]; omega, vs, _, hvals, hscr⟩
  have env : Env0 P w K mg (hidT s.heap H) callerA [] s H :=
    ⟨rfl, ⟨inB, nsB hG, ⟨mb, nsB hB, hboot⟩, by obtain ⟨mc, l1, l2⟩ := hL; exact ⟨mc, nsB l1, l2⟩⟩, fun b o e => of_hidT e, Nat.le_of_eq (hidT_size _ _), trivial, (fun b hb => absurd hb (by simp [frs])), hok, .of_eq hgen⟩
  have sq : SqL K H a (ns.map V.int) := by
    cases hk : K.lookup a with
    | none => exact .inl (.inr ⟨_, by rw [eH]; exact seen_scr scr_not_tab hk⟩)
    | some o =>
      have e := hK a o hk
      rw [hscr] at e
      cases e
      exact .inr ⟨_, vs.toArray, _, hk, rfl, rfl, rfl, by rw [List.size_toArray, hvl]; omega, by simpa using hvals⟩
  have go := run (hidT s.heap H) s H a ns inB (nsB hG) tabB env (fun p hp => by rw [eH]; exact seen_tab (List.mem_map.mpr ⟨p, hp, rfl⟩)) (fun b u e => by
    rcases cases_ b u e with ⟨hb, _⟩ | ⟨_, _, _, q⟩
    · exact .inl hb
    · exact .inr ⟨_, q⟩) sq hlen
  refine codeAny_mono go fun r s' done => ?_
  match r, done with
  | .error e, ⟨_, _, _, _, _, _, _, _, _, _, _, _, z⟩ => exact z.elim
  | .ok (.ret u), ⟨v, H', hos, hbare, un, hok', rv, qv⟩ =>
    have qv' : v = .bl true := qv
    subst qv'
    have eu : u = Value.bool true := rv
    subst eu
    have kept : ∀ b o, b ∉ cs.map (·.2) → s.heap.get? b = some o → s'.heap.get? b = some o := fun b o nb e => by
      cases q : H b with
      | none => exact un.keep b o e q (fun z => by cases z) (fun z => by cases z)
      | some u =>
        rcases cases_ b u q with ⟨hb, _⟩ | ⟨_, rfl, _, rfl⟩
        · exact (nb hb).elim
        · have z := (hok' b _ (un.frzs b _ _ q)).1
          rw [hscr] at e
          cases e
          exact z
    have grown : ∀ b ∈ cs.map (·.2), ∃ more : Array Value, s'.heap.get? b = some { cls := .none, data := .fields more } := fun b hb => by
      obtain ⟨more, z⟩ := un.tbls b #[] (by rw [eH]; exact seen_tab hb)
      exact ⟨_, hok' b _ z⟩
    refine ⟨rfl, ⟨fun b o e => ?_, fun b o e => ?_⟩, hos, hbare⟩
    · by_cases hb : b ∈ cs.map (·.2)
      · obtain ⟨p, hp, ep⟩ := List.mem_map.mp hb
        obtain ⟨more, hm⟩ := grown b hb
        have e0 := tabObjAt b hb
        rw [e] at e0
        cases e0
        refine .inr (.inl ⟨?_, rfl, #[], more, rfl, by rw [Array.empty_append]; exact hm⟩)
        rw [← ep]
        exact ((tab p hp).2.2.tab (tab p hp).1).isCodeTable
      · exact .inl (kept b o hb e)
    · by_cases hb : b ∈ cs.map (·.2)
      · obtain ⟨more, hm⟩ := grown b hb
        exact ⟨_, hm⟩
      · exact ⟨o, kept b o hb e⟩
end
/-- the law row's walk -/
theorem walkG {l : PySem.W.OpenLaw} {n : Nat} {q : Program} {loose : List Str} {XP : (Str → Option Value) → Heap → Prop} {YP : World → Heap → Prop} {d : DefRec} {K : Params → PySem.W.Frag} (hmost : l.most = some n) (hn : n ≤ sizeLine) (hdf : d.params.defaults = []) (hY : ∀ (w : World) (h : Heap), YP w h → (K w.params).In h)
    (F : ∀ (w : World) (mg : Str → Option Value) (fa : Addr) (h : Heap), YP w h → (K w.params).In h → h.Ns mainGlobals mg → mg d.name = some (.ref fa) →
      ∃ cs : List (Addr × Addr), (∀ p ∈ cs, h.get? p.2 = some emptyTab ∧ (K w.params).lookup p.2 = none ∧ PySem.W.CodeHd h p.1 p.2) ∧ RunG l.prog w (K w.params) mg fa cs n) :
    PySem.W.WalkO q loose XP YP l.row.toRowW d [] (fun f vs => PySem.call f vs) := by
  refine Att.attach_callB hmost hdf ?_
  intro w s₀ s₁ mg mb fa o pm cd doc a vs ns G Y ho hd hcd hmg hobj hints hlen hbits hg
  obtain ⟨cs, tab, run⟩ := F w mg fa _ Y (hY w _ Y) G.T.g hmg
  exact callG run (hY w _ Y) G.T.g G.T.b G.T.builtins G.T.nolimit hg tab G.T.bmain hobj hints hlen hn
end DL
end

section
/-! a def run at given surroundings; the law's start. -/
namespace DL
open PySem PySem.Spec PyProof.Rows L2 LamX
theorem okRun {P : Program} {w : World} {K : PySem.W.Frag} {mg : Str → Option Value} {base : Heap} {T : List (Addr × Str)} {x qual : Str} {st : Stmt} {f : Addr} {fd : FuncData} {N ps : List Str} {k : Nat} (F : Fun K x qual st f fd) (S : FnScope N ps (defScope st)) {A : Around} {outer : List Env} {s : Shared} {H : Hp} {args : Args} {us : List Value} {vs : List V} {ds : List D} {Q : VK} {E : XK} {Fz : Hp} {g : Nat} {C : Out → Prop}
    (hr : Room (k + 1) A) (e0 : Env0 P w K mg base A outer s H) (hb : BindsTo s fd args (ps.zip us)) (r : Vals vs us) (hl : vs.length = ps.length) (ok : Ok K T ⟨Fz, H, []⟩ Fz H [] (.bare [] g)) (rd : Rs K Fz [] vs ds)
    (hQ : ∀ d g', C (.ret d g') → ∀ v F' H', R K F' [] v d → Q v H') (hN : ∀ ds g', C (.new ds g') → ∀ a H', Q (.ref a) H') (hNB : ∀ c g', C (.newB c g') → ∀ a H', Q (.ref a) H')
    (hbody : ∀ cdv, Room k (A.deeper (PyProof.Rows.envOfC qual (defScope st) s.heap.objs.size f cdv)) → DSs (bodyCx P w K mg base N qual st f cdv A outer s H E) T ⟨Fz, H, []⟩ ⟨pad ds (N.length - ds.length), [], [], g⟩ (defBody st) (bodyO [] C)) :
    codeAny (model P w) A (.call (.ref f) args) (CR (L2.CX P w) outer P w H s Q E) s := by
  obtain ⟨oc, od, kV, doc, pm, an, cdv, ct, osl, rfl, lk, hcd⟩ := F.ex
  refine run_ofS lk hcd S hr e0 hb r hl fun hr' => ?_
  have hb2 := hbody cdv hr'
  refine ⟨_, hb2.pe, Fz, ?_, fun ρ' c σ' F2 H2 s2 w2 ok2 => ?_, fun rv ρ' c v σ' F2 H2 ok2 gv => ?_, fun ρ' c => c.elim, fun ρ' c => c.elim⟩
  · exact ok.padded rd
  · exact hQ _ _ c .non F2 H2 .non
  · cases rv with
    | v d =>
      obtain ⟨hw, c⟩ := c
      refine hQ _ _ c v F2 H2 ?_
      rcases hw with hw | ⟨b, rfl⟩
      · have gv' : R K F2 ρ'.ws v d := gv
        rw [hw] at gv'
        exact gv'
      · cases (show R K F2 ρ'.ws v (.bl b) from gv)
        exact .bl _
    | l a es =>
      obtain ⟨hw, c⟩ := c
      obtain ⟨rfl, _⟩ := id gv
      exact hN _ _ c a H2
    | b a cc =>
      obtain ⟨hw, c⟩ := c
      obtain ⟨rfl, _⟩ := id gv
      exact hNB _ _ c a H2
/-- the frozen heap at the law's start -/
def startF (H : Hp) : Hp := fun b => match H b with
  | some (.tbl _) => none
  | o => o
theorem startF_of {H : Hp} {b : Addr} {o : HO} (h : startF H b = some o) : H b = some o ∧ NoTbl o := by
  unfold startF at h
  split at h
  · cases h
  · rename_i x hx
    refine ⟨h, fun ps z => ?_⟩
    subst z
    exact hx ps h
theorem startF_at {H : Hp} {b : Addr} {o : HO} (h : H b = some o) (n : NoTbl o) : startF H b = some o := by
  unfold startF
  split
  · rename_i ps e
    rw [h] at e
    cases e
    exact absurd rfl (n ps)
  · exact h
theorem start_ok {K : PySem.W.Frag} {T : List (Addr × Str)} {H : Hp} {g : Nat} (t : Tabs T H) : Ok K T ⟨startF H, H, []⟩ (startF H) H [] (.bare [] g) := by
  refine ⟨Same.refl _, fun b o e => (startF_of e).1, fun _ _ e _ _ => e, fun _ _ n => n, fun _ h => h, ⟨t, fun b o e => (startF_of e).2⟩, fun _ h => h, fun _ h => .inl h, fun a m => (by cases m), fun i d e => (by simp at e), fun i a ds e => (by simp [ownOf] at e), fun p a ds e => (by rw [at_bare] at e; cases e), fun p q a ds es e => (by rw [at_bare] at e; cases e), Nat.le_refl _⟩
theorem start_sq {K : PySem.W.Frag} {H : Hp} {a : Addr} {xs : List V} (h : SqL K H a xs) : SqL K (startF H) a xs := by
  rcases h with (h | ⟨o, h⟩) | h
  · exact .inl (.inl (startF_at h (by intro ps z; cases z)))
  · exact .inl (.inr ⟨o, startF_at h (by intro ps z; cases z)⟩)
  · exact .inr h
theorem start_tabs {T : List (Addr × Str)} {H : Hp} (h : ∀ p ∈ T, H p.1 = some (.tbl #[])) : Tabs T H := fun p hp => by
  refine ⟨#[], h p hp, ?_, fun pos cv e => ?_⟩
  · first | trivial | exact .nil | rfl | decide
  · cases e
end DL
end

section
/-! what the head tells of a def, of an exception class. -/
namespace DL
open PySem PySem.Spec PyProof.Rows L2 LamX
structure DefK (K : PySem.W.Frag) (x : Str) (st : Stmt) (f : Addr) : Prop where
  ns : PySem.W.nsIn K mainGlobals x = some (some (.ref f))
  ex : ∃ (oc : Value) (od : Option Addr) (kV doc pm : Value) (an : Option Addr) (cdv ct : Value) (osl : Array (Option Value)), K.lookup f = some ⟨oc, od, .func (PySem.W.fnOf x x (defArgs st) (defBody st) (defScope st) .none kV doc pm an cdv ct), osl⟩ ∧ PySem.W.codeIn K cdv x = true
  kp : PySem.W.keepIn K (.ref f) = true
  fn : PySem.W.isFn K (.ref f) = true
/-- a def that makes lambdas: its code object, its table -/
structure DefCK (K : PySem.W.Frag) (x : Str) (st : Stmt) (f c p : Addr) : Prop where
  ns : PySem.W.nsIn K mainGlobals x = some (some (.ref f))
  ex : ∃ (oc : Value) (od : Option Addr) (kV doc pm : Value) (an : Option Addr) (ct : Value) (osl : Array (Option Value)), K.lookup f = some ⟨oc, od, .func (PySem.W.fnOf x x (defArgs st) (defBody st) (defScope st) .none kV doc pm an (.ref c) ct), osl⟩ ∧ PySem.W.codeIn K (.ref c) x = true
  kp : PySem.W.keepIn K (.ref f) = true
  fn : PySem.W.isFn K (.ref f) = true
  hd : PySem.W.codeHdIn K c p = true
  out : K.lookup p = none
/-- an exception class of one field -/
structure ExcK (P : Program) (K : PySem.W.Frag) (mg : Str → Option Value) (x px fn : Str) (C : Addr) : Prop where
  ns : PySem.W.nsIn K mainGlobals x = some (some (.ref C))
  oex : OexC K C
  xf : XfC K C
  no : PySem.W.findIn K (.ref C) fn = some none
  ini : ∃ (fI : Addr) (fd : FuncData), PySem.W.findIn K (.ref C) "__init__" = some (some (.ref fI)) ∧ PySem.W.typeIn K (.ref fI) = some (.type "function") ∧ IniFn P K mg C fI px fn fd ∧ Binds K fd ["self", px] []
theorem defK {K : PySem.W.Frag} {x : Str} {st : Stmt} {f : Addr} {oc : Value} {od : Option Addr} {kV doc pm : Value} {an : Option Addr} {cdv ct : Value} {osl : Array (Option Value)} (ns : PySem.W.nsIn K mainGlobals x = some (some (.ref f)))
    (l : K.lookup f = some ⟨oc, od, .func (PySem.W.fnOf x x (defArgs st) (defBody st) (defScope st) .none kV doc pm an cdv ct), osl⟩) (c : PySem.W.codeIn K cdv x = true) (kp : PySem.W.keepIn K (.ref f) = true) (fn : PySem.W.isFn K (.ref f) = true) : ∃ f, DefK K x st f :=
  ⟨f, ns, ⟨_, _, _, _, _, _, _, _, _, l, c⟩, kp, fn⟩
theorem defCK {K : PySem.W.Frag} {x : Str} {st : Stmt} {f c0 p : Addr} {oc : Value} {od : Option Addr} {kV doc pm : Value} {an : Option Addr} {ct : Value} {osl : Array (Option Value)} (ns : PySem.W.nsIn K mainGlobals x = some (some (.ref f)))
    (l : K.lookup f = some ⟨oc, od, .func (PySem.W.fnOf x x (defArgs st) (defBody st) (defScope st) .none kV doc pm an (.ref c0) ct), osl⟩) (c : PySem.W.codeIn K (.ref c0) x = true) (kp : PySem.W.keepIn K (.ref f) = true) (fn : PySem.W.isFn K (.ref f) = true)
    (hd : PySem.W.codeHdIn K c0 p = true) (out : K.lookup p = none) : ∃ f c, DefCK K x st f c p :=
  ⟨f, c0, ns, ⟨_, _, _, _, _, _, _, _, l, c⟩, kp, fn, hd, out⟩
/-- a method call on one line -/
theorem line_call {o : Expr} {m x : Str} {apos p3 pos : Pos} (hl : (apos.endLine == pos.line) = true) (env : Env) : ∃ pl : Sem Bool, eval (.Call (.Attribute o m apos) [.Name x p3] [] pos) env = (do
    let ov ← attributeBase o m env (eval o env)
    standAt apos.atName
    let (f, first) ← holding [ov] (getMethod ov m pl)
    callWith pos f first (backTo pos (starEach [.Name x p3] env)) []) := by
  refine ⟨plainOf o env, ?_⟩
  rw [arm_eval_Call]
  congr 1
  funext ov
  congr 1
  funext _
  exact mcall_line rfl hl
theorem excK {P : Program} {K : PySem.W.Frag} {mg : Str → Option Value} {x px fn : Str} {C fI : Addr} {oc cl ccl : Value} {od cdd cld : Option Addr} {osl ccs csl : Array (Option Value)} {qual file : Str} {tf : Tok} {params : Arguments} {scope : Scope} {dV kV doc pm ct : Value} {an : Option Addr} {cda cc : Addr} {vs : Array Value} {p0 p1 p2 p3 p4 p5 p6 p7 p8 p9 : Pos}
    {nm q : Str} {N : Addr} {bs bm : List Value} {sn : List Str} {sub : List Value} {ab : Bool} {col : Option Bool} {dd : Option Addr} {k0 k1 k2 k3 k5 : Option Value}
    (ns : PySem.W.nsIn K mainGlobals x = some (some (.ref C))) (lC : K.lookup C = some (excClassObj nm q C N bs bm true sn sub ab col dd k0 k1 k2 k3 k5 "ValueError.__new__")) (ve : PySem.HandSPX.refsVE bm = true)
    (sa : PySem.W.findIn K (.ref C) "__setattr__" = some (some (.builtin "object.__setattr__"))) (exC : PySem.W.subIn K (.ref C) (.type "BaseException") = some true) (tyC : PySem.W.typeIn K (.ref C) = some (.type "type")) (kC : PySem.W.keepIn K (.ref C) = true)
    (ga : PySem.W.findIn K (.ref C) "__getattribute__" = some (some (.builtin "BaseException.__getattribute__"))) (gg : PySem.W.findIn K (.ref C) "__getattr__" = some none) (hdC : PySem.W.hasDictIn K C = true)
    (no : PySem.W.findIn K (.ref C) fn = some none) (i1 : PySem.W.findIn K (.ref C) "__init__" = some (some (.ref fI))) (i2 : PySem.W.typeIn K (.ref fI) = some (.type "function"))
    (l : K.lookup fI = some ⟨oc, od, .func (PySem.W.ksFn "__init__" qual params [.Expr (.Call (.Attribute (.Call (.Name "super" p0) [] [] p1) "__init__" p2) [.Name px p3] [] p4) p5, .Assign [.Attribute (.Name "self" p6) fn p7] (.Name px p8) p9] scope dV kV doc pm an (.ref cda) ct cc), osl⟩)
    (hcd : PySem.W.codeIn K (.ref cda) qual = true) (lc : K.lookup cda = some ⟨ccl, cdd, .fields vs, ccs⟩) (hv : vs[2]? = some (.str file tf)) (hf : ((P.main.file : Str) == file) = true) (lcc : K.lookup cc = some ⟨cl, cld, .cell (some (.ref C)), csl⟩)
    (hp : ((params.posonlyargs ++ params.args).head?.map (·.arg)) = some "self") (Si : iniSB px scope = true) (hl : (p2.endLine == p4.line) = true)
    (sup : PySem.W.ks_superIn K C C "__init__" = some (some (.builtin "ValueError.__init__"))) (sb : PySem.W.subIn K (.ref C) (.type "ValueError") = some true) (own : PySem.W.mroIn K C (.ref C) = some true) (ic : PySem.W.isClsIn K C = true)
    (hb : ∀ us : List Value, us.length = 2 → bindArgs (PySem.W.ksFn "__init__" qual params [.Expr (.Call (.Attribute (.Call (.Name "super" p0) [] [] p1) "__init__" p2) [.Name px p3] [] p4) p5, .Assign [.Attribute (.Name "self" p6) fn p7] (.Name px p8) p9] scope dV kV doc pm an (.ref cda) ct cc) ⟨us, []⟩ = pure (([("self" : Str), px] : List Str).zip us)) :
    ExcK P K mg x px fn C := by
  have ox : OexC K C := ⟨⟨_, _, _, _, _, _, _, _, _, _, _, _, _, _, _, lC, ve⟩, sa, exC, tyC, kC⟩
  have ic' : (PySem.W.clsIn K C).isSome = true := ic
  exact ⟨ns, ox, ⟨ga, gg, exC, hdC⟩, no, fI, _, i1, i2, ⟨⟨_, _, _, _, _, _, _, _, _, _, _, _, _, _, _, _, _, _, _, _, _, _, _, _, _, _, _, _, _, _, _, _, _, rfl, l, hcd, lc, hv, hf, lcc, hp, iniS_by Si, line_call hl⟩, sup, sb, own, Option.isSome_iff_exists.mp ic', no, ox⟩, .all hb⟩
end DL
end

section
/-! x.pop() of an own list, *e in a list, e[::-1], list(range(e)). -/
namespace DL
open PySem PySem.Spec L2
theorem Rs.rev {K : PySem.W.Frag} {F : Hp} {ws : List Addr} : ∀ {ds : List D} {vs : List V}, Rs K F ws vs ds → Rs K F ws vs.reverse ds.reverse
  | [], _, r => by cases r; exact .nil
  | d :: ds, _, r => by
    cases r with
    | cons r t =>
      rw [List.reverse_cons, List.reverse_cons]
      exact (Rs.rev t).app (.cons r .nil)
section
variable {X : Cx} {T : List (Addr × Str)} {A : Anc} {ρ : Ev} {e : Expr} {es : List Expr} {C : CD} {x : Str} {i : Nat} {p p1 p2 p3 pos : Pos}
theorem de_pop (h : ownAt ρ i fun a ds => ∃ rest d, ds = rest ++ [d] ∧ C d (ρ.put i (.own a rest)))
    (hi : slotOf X.N x = some i := by rfl) (hv : Vis X.env.scope x := by first | exact Or.inl rfl | exact Or.inr (Or.inl rfl) | exact Or.inr (Or.inr rfl)) (hd : (x == ("__debug__" : Str)) = false := by decide) (hcd : (x == ("__classdict__" : Str)) = false := by decide)
    (hbase : attributeBase (.Name x p1) "pop" X.env (eval (.Name x p1) X.env) = eval (.Name x p1) X.env := by rfl)
    (hline : (p2.endLine == p3.line) = true := by rfl) : DE X T A ρ (.Call (.Attribute (.Name x p1) "pop" p2) [] [] p3) C :=
  DE.of (pe_bm0 F.plainAttrs_list F.slot_list_pop F.type_list_pop (mt_pop (X := X)) (pvS hi hv hd hcd) hbase hline) fun σ H Q F ok q => by
    obtain ⟨a, ds, e0, rest, d, ed, c⟩ := ownAt_ok h
    obtain ⟨f1, f2, f3, vs, f4, f5⟩ := ok.ownL e0
    subst ed
    have hl : vs.length = rest.length + 1 := by rw [f5.len, List.length_append]; rfl
    obtain ⟨v, ev, rv⟩ := Rs.get (i := rest.length) (d := d) f5 (by rw [List.getElem?_append_right (Nat.le_refl _), Nat.sub_self]; rfl)
    have f6 : Rs X.K F ρ.ws vs.dropLast rest := by
      have := f5.take rest.length
      rw [List.take_left] at this
      rw [List.dropLast_eq_take, hl]
      exact this
    have c2 := q d _ c
    refine ⟨.ref a, ok.ownSL e0, .inl ⟨rfl, _, .of f4⟩, a, vs, v, rfl, rfl, f4, by rw [hl]; exact ev, ?_⟩
    exact c2 v F _ (Same.refl _) rfl (ok.ownUpd e0 f6) rv
theorem da_star {C : CL} (h : DE X T A ρ e (fun d ρ1 => ∃ ds, seqD d = some ds ∧ DA X T A ρ1 es (fun fs ρ2 => C (ds ++ fs) ρ2))) (hs : starEach (.Starred e p :: es) X.env = (true, eval e X.env) :: starEach es X.env := by rfl) : DA X T A ρ (.Starred e p :: es) C :=
  DA.of (StX.pa_star (pe_go (T := T) (A := A)) (pa_go (T := T) (A := A)) hs) fun σ H Q F ok q => by
    refine ⟨ρ, _, h, F, ok, fun d ρ1 ⟨ds, ed, h1⟩ v1 F1 H1 s1 w1 ok1 r1 => ?_⟩
    obtain ⟨a, xs, ev, sq, t⟩ := seq_of ok1.sub r1 ed
    refine ⟨a, xs, ev, sq.symm, ρ1, _, h1, F1, ok1, fun fs ρ2 c vs F2 H2 s2 w2 ok2 r2 => ?_⟩
    refine q _ _ c _ F2 H2 (s1.trans s2) (w2.trans w1) ok2 ?_
    have t2 := t.mo s2
    rw [← w2] at t2
    exact t2.app r2
theorem dv_rev {C : CV} {k : Nat} {p4 : Pos} (h : DE X T A ρ e (fun d ρ1 => ∃ ds, seqL d = some ds ∧ ∀ a, C (.l a ds.reverse) ρ1)) : DV X T A ρ (.Subscript e (.Slice none none (some (.UnaryOp .USub (.Constant (.int 1) k p1) p2)) p3) p4) C :=
  DV.of (pe_revL (pe_go (T := T) (A := A))) fun σ H Q F ok q => by
    refine ⟨ρ, _, h, F, ok, fun d ρ1 ⟨ds, ed, h1⟩ v1 F1 H1 s1 w1 ok1 r1 => ?_⟩
    obtain ⟨a, xs, ev, sq, t⟩ := seqL_of ok1.sub r1 ed
    refine ⟨a, xs, ev, sq, fun p hp => ?_⟩
    obtain ⟨ok3, g3⟩ := ok1.mine hp t.rev
    exact q _ _ (h1 p) _ F1 _ s1 w1 ok3 g3
theorem dv_lstRg {C : CV} {pr : Pos} (hc : X.calm = true) (hm : X.mg "list" = none) (hm2 : X.mg "range" = none) (h : DE X T A ρ e (fun d ρ1 => ∃ n : Nat, d = .int (n : Int) ∧ n ≤ 16777216 ∧ ∀ a, C (.l a (rngD 0 n)) ρ1)) (hg : Gl X "list" := by rfl) (hg2 : Gl X "range" := by rfl)
    (na : starEach [e] X.env = (false, eval e X.env) :: starEach [] X.env := by rfl) (na2 : starEach [.Call (.Name "range" p) [e] [] p1] X.env = (false, eval (.Call (.Name "range" p) [e] [] p1) X.env) :: starEach [] X.env := by rfl) :
    DV X T A ρ (.Call (.Name "list" pr) [.Call (.Name "range" p) [e] [] p1] [] p2) C :=
  DV.of (pe_listRg hc hg hm (prg_1 hg2 hm2 (pe_go (T := T) (A := A)) na) na2) fun σ H Q F ok q => by
    refine ⟨ρ, _, h, F, ok, fun d ρ1 ⟨n, ed, hn, h1⟩ v1 F1 H1 s1 w1 ok1 r1 => ?_⟩
    subst ed
    cases r1
    refine ⟨n, rfl, .of_le (by omega) (by omega) (by omega) (by omega), fun a hp => ?_⟩
    have rr : Rs X.K F1 ρ1.ws (rgV 0 n) (rngD 0 n) := by
      unfold rgV rngD
      rw [show ((n : Int) - 0).toNat = n by omega]
      generalize List.range n = js
      induction js with
      | nil => exact .nil
      | cons j js ih => exact .cons (.int _) ih
    obtain ⟨ok3, g3⟩ := ok1.mine hp rr
    exact q _ _ (h1 a) _ F1 _ s1 w1 ok3 g3
end
end DL
end

section
/-! a list that a def returns is the caller's own; [[..]] of own lists. -/
namespace DL
open PySem PySem.Spec L2
section
variable {K : PySem.W.Frag} {T : List (Addr × Str)} {A : Anc} {F F' H H' F0 : Hp} {σ : L2.St} {ρ : Ev} {g : Nat}
noncomputable def dropF (F : Hp) : Hp := fun b => by
  classical
  exact if ∃ i r, F b = some (.lst (.int i :: r)) then none else F b
theorem dropF_of {b : Addr} {o : HO} (h : dropF F b = some o) : F b = some o ∧ ∀ i r, o ≠ .lst (.int i :: r) := by
  unfold dropF at h
  split at h
  · cases h
  · rename_i z
    refine ⟨h, fun i r e => z ⟨i, r, ?_⟩⟩
    rw [h, e]
theorem dropF_at {b : Addr} {o : HO} (h : F b = some o) (n : ∀ i r, o ≠ .lst (.int i :: r)) : dropF F b = some o := by
  unfold dropF
  rw [if_neg, h]
  rintro ⟨i, r, e⟩
  rw [h] at e
  exact n i r (Option.some.inj e)
/-- data that stand without lists of numbers -/
def Keeps (d : D) : Prop := ∀ (K : PySem.W.Frag) (F : Hp) (ws : List Addr) (v : V), R K F ws v d → R K (dropF F) ws v d
theorem keeps_ground {d : D} (h : ground d = true) : Keeps d := fun K F ws v r => r.ground h
theorem keeps_all {ds : List D} (h : ∀ d ∈ ds, Keeps d) : ∀ {K : PySem.W.Frag} {F : Hp} {ws : List Addr} {vs : List V}, Rs K F ws vs ds → Rs K (dropF F) ws vs ds := by
  induction ds with
  | nil =>
    intro K F ws vs r
    cases r
    exact .nil
  | cons d ds ih =>
    intro K F ws vs r
    cases r with
    | cons r t => exact .cons (h d (List.mem_cons_self ..) K F ws _ r) (ih (fun x m => h x (List.mem_cons_of_mem _ m)) t)
theorem keeps_tup {ds : List D} (h : ∀ d ∈ ds, Keeps d) : Keeps (.tup ds) := fun K F ws v r => by
  cases r with
  | tup q t =>
    refine .tup ?_ (keeps_all h t)
    rcases q with (q | ⟨o, q⟩) | q
    · exact .inl (.inl (dropF_at q (fun _ _ z => by cases z)))
    · exact .inl (.inr ⟨o, dropF_at q (fun _ _ z => by cases z)⟩)
    · exact .inr q
theorem keeps_lst {d : D} {ds : List D} (h : ∀ x ∈ d :: ds, Keeps x) (n : ∀ i, d ≠ .int i) : Keeps (.lst (d :: ds)) := fun K F ws v r => by
  cases r with
  | lst q t =>
    refine .lst (dropF_at q fun i r z => ?_) (keeps_all h t)
    cases z
    cases t with
    | cons r1 t1 =>
      cases r1
      exact n _ rfl
theorem Ok.regainF (ok : Ok K T A F H σ ρ) (ok' : Ok K T ⟨F0, H, ρ.ws⟩ F' H' [] (.bare ρ.ws g)) : Ok K T A F H' σ (ρ.gas g) := by
  have hk : ∀ a o, H a = some o → NoTbl o → a ∉ ρ.ws → H' a = some o := ok'.keep
  have ht : ∀ a, H a ≠ none → H' a ≠ none := ok'.there
  refine ⟨ok.sub0, fun b o e => hk b o (ok.sub _ _ e) (ok.tabs.2 _ _ e) fun z => ?_, fun a o e n w => hk a o (ok.keep a o e n w) n fun z => ?_, ok.apart, fun a h => ht a (ok.there a h), ⟨ok'.tabs.1, ok.tabs.2⟩, ok.wsub, ok.wnew, fun a m => ⟨?_, (ok.strm a m).2⟩, ok.slots, ok.ownS, fun p a ds e => ?_, ok.dist, ok.len⟩
  · rw [(ok.strm b z).2] at e; cases e
  · rcases ok.wnew a z with q | q
    · exact w q
    · rw [e] at q; cases q
  · exact (ok'.strm a m).1
  · obtain ⟨h1, h2, h3, vs, h4, h5⟩ := ok.owns p a ds e
    exact ⟨h1, h2, h3, vs, hk a _ h4 h5.noTbl h2, h5⟩
theorem Ok.dropped (ok : Ok K T A F H σ ρ) : Ok K T ⟨dropF F, H, ρ.ws⟩ (dropF F) H [] (.bare ρ.ws ρ.g) :=
  ⟨Same.refl _, fun b o e => ok.sub _ _ (dropF_of e).1, fun _ _ e _ _ => e, fun _ _ n => n, fun _ h => h, ⟨ok.tabs.1, fun b o e => ok.tabs.2 b o (dropF_of e).1⟩, fun _ h => h, fun _ h => .inl h, fun a m => ⟨(ok.strm a m).1, by
    cases e : dropF F a with
    | none => rfl
    | some o =>
      have z := (dropF_of e).1
      rw [(ok.strm a m).2] at z
      cases z⟩, fun i d e => (by simp at e), fun i a ds e => (by simp [ownOf] at e), fun p a ds e => (by rw [at_bare] at e; cases e), fun p q a ds es e => (by rw [at_bare] at e; cases e), Nat.le_refl _⟩
theorem Ok.newG (ok : Ok K T A F H σ ρ) {a : Addr} {ds : List D} {vs : List V} (hn : H a = none) (ok2 : Ok K T A F H' σ (ρ.gas g)) (h4 : H' a = some (.lst vs)) (r : Rs K F' ρ.ws vs ds) (gd : ∀ d ∈ ds, DL.ground d = true) : Gv K A F H' (ρ.gas g) (.ref a) (.l a ds) := by
  have fn : F a = none := by
    cases z : F a with
    | none => rfl
    | some o =>
      have := ok.sub _ _ z
      rw [hn] at this
      cases this
  refine ⟨rfl, fn, fun m => ?_, ok.anone hn, ⟨_, h4, .lst (r.ground gd)⟩, fun p ds' z => ?_⟩
  · obtain ⟨⟨c, m1, n, e, _⟩, _⟩ := ok.strm a m
    rw [hn] at e
    cases e
  · obtain ⟨_, _, _, us, z2, _⟩ := ok.owns p a ds' z
    rw [hn] at z2
    cases z2
end
def outF (C : CV) (ρ : Ev) : Out → Prop
  | .ret .non g => C (.v .non) (ρ.gas g)
  | .ret (.lst (.int i :: r)) g => (∀ d ∈ r, ground d = true) ∧ ∀ a, C (.l a (.int i :: r)) (ρ.gas g)
  | .ret _ _ => False
  | .new ds g => (∀ d ∈ ds, ground d = true) ∧ ∀ a, C (.l a ds) (ρ.gas g)
  | .newB _ _ => False
  | .exc _ _ _ => False
section
variable {X : Cx} {T : List (Addr × Str)} {A : Anc} {ρ : Ev} {e : Expr} {es : List Expr} {C : CV} {O : DO} {sts : List Stmt} {x : Str} {i : Nat} {p pos : Pos}
theorem dv_callF {k : Nat} {N : DF} {xc : XC} (F : Kn X.prog X.w X.K X.mg X.base T x k N) (hr : Room k X.A) (tk : Takes X (WD X.K T A xc)) (h : DA X T A ρ (e :: es) (fun ds ρ1 => (∀ d ∈ ds, Keeps d) ∧ N ds ρ1.g (outF C ρ1)))
    (hg : Gl X x := by rfl) (hdb : (x == ("__debug__" : Str)) = false := by decide) (he : starEach (e :: es) X.env = (false, eval e X.env) :: starEach es X.env := by rfl) (hpl : (backTo pos (starEach es X.env)).any (·.1) = false := by rfl) : DV X T A ρ (.Call (.Name x p) (e :: es) [] pos) C := by
  obtain ⟨f, fd, ps, F, hm, hk, hb⟩ := F.ex
  refine DV.of (pe_call F hr hg hm hk hb .nil (E := fun cls d H => WD X.K T A xc cls d [] H) (passes_call tk fun _ _ _ _ z => z) pa_go hdb he hpl) fun σ H Q F ok q => ⟨ρ, _, h, F, ok, fun ds ρ1 h1 vs F1 H1 s1 w1 ok1 r1 => ?_⟩
  obtain ⟨hk1, h1⟩ := h1
  show spD X.K T N (vs ++ []) H1 Q _
  rw [List.append_nil]
  refine ⟨dropF F1, ρ1.ws, ds, ρ1.g, _, ok1.dropped, keeps_all hk1 r1, h1, fun d g c v F' H' ok' r' => ?_, fun es g c a F' H' ok' g' => ?_, fun cc g c => c.elim, fun cl fs g c => c.elim⟩
  · have ok2 : Ok X.K T A F1 H' σ (ρ1.gas g) := ok1.regainF ok'
    unfold outF at c
    split at c
    · rename_i g0 e0
      cases e0
      cases r'
      exact q _ _ c _ F1 H' s1 w1 ok2 .non
    · rename_i j r g0 e0
      cases e0
      obtain ⟨gd, c⟩ := c
      cases r' with
      | @lst a xs _ hf t =>
        have hn : H1 a = none := by
          refine Classical.byContradiction fun hn => ?_
          cases t with
          | cons ra ta =>
            cases ra
            cases e1 : dropF F1 a with
            | none =>
              have := ok'.apart a hn e1
              rw [hf] at this
              cases this
            | some o =>
              have e2 : F' a = some o := ok'.sub0 _ _ e1
              rw [hf] at e2
              cases e2
              exact (dropF_of e1).2 _ _ rfl
        exact q _ _ (c a) _ F1 H' s1 w1 ok2 (ok1.newG hn ok2 (ok'.sub _ _ hf) t (fun d m => by
          rcases List.mem_cons.mp m with rfl | m
          · rfl
          · exact gd d m))
    · exact c.elim
    all_goals (rename_i e0; cases e0)
  · obtain ⟨gd, c⟩ := c
    have ok2 : Ok X.K T A F1 H' σ (ρ1.gas g) := ok1.regainF ok'
    obtain ⟨_, h1, h2, h3, ⟨o, h4, h5⟩, _⟩ := g'
    obtain ⟨us, rfl, h6⟩ := h5.list
    exact q _ _ (c a) _ F1 H' s1 w1 ok2 (ok1.newG h3 ok2 h4 h6 gd)
/-- [e], e a new list -/
theorem dv_list1 (h : DV X T A ρ e (fun r ρ1 => ∃ a ds, r = .l a ds ∧ ∀ p, C (.l p [.ref a]) { ρ1 with hid := (a, .lst ds) :: ρ1.hid })) (hst : starEach [e] X.env = (false, eval e X.env) :: starEach [] X.env := by rfl) : DV X T A ρ (.List [e] pos) C :=
  DV.of (pe_lst (pa_cons pv_go pa_nil hst)) fun σ H Q F ok q => by
    refine ⟨ρ, _, h, F, ok, fun r ρ1 ⟨a, ds, er, h1⟩ v F1 H1 s1 w1 ok1 g1 => ⟨by show 1 ≤ sizeLine; decide, fun p hp => ?_⟩⟩
    subst er
    obtain ⟨ev, _⟩ := id g1
    subst ev
    have ok2 := ok1.hide g1
    obtain ⟨ok3, g3⟩ := ok2.mine (vs := [.ref a]) (ds := [.ref a]) hp (.cons .ref .nil)
    exact q _ _ (h1 p) _ F1 _ s1 w1 ok3 g3
/-- a hidden list that a name holds -/
theorem Ok.unref {K : PySem.W.Frag} {F H : Hp} {σ : L2.St} {sl : List Sl} {hid : List (Addr × Con)} {ws : List Addr} {g : Nat} {a : Addr} {ds : List D} (ok : Ok K T A F H σ ⟨sl, (a, .lst ds) :: hid, ws, g⟩) (e : sl[i]? = some (.dat (.ref a))) : Ok K T A F H σ ⟨sl.set i (.own a ds), hid, ws, g⟩ := by
  obtain ⟨ok1, g1⟩ := ok.unhide
  obtain ⟨v, e1, r1⟩ := ok.slots i _ e
  cases r1
  have ok2 := ok1.put (i := i) (v := .ref a) g1
  have hσ : σ.set i (some (.ref a)) = σ := by
    refine List.ext_getElem? fun j => ?_
    by_cases hj : i = j
    · subst hj
      obtain ⟨hl, _⟩ := List.getElem?_eq_some_iff.mp e1
      rw [List.getElem?_set_self hl, e1]
    · rw [List.getElem?_set_ne hj]
  rw [hσ] at ok2
  exact ok2
theorem dss_unref {sl : List Sl} {hid : List (Addr × Con)} {ws : List Addr} {g : Nat} {a : Addr} {ds : List D} (e : sl[i]? = some (.dat (.ref a))) (h : DSs X T A ⟨sl.set i (.own a ds), hid, ws, g⟩ sts O) : DSs X T A ⟨sl, (a, .lst ds) :: hid, ws, g⟩ sts O :=
  ⟨⟨fun pins s σ H E I ⟨F, ok, q⟩ => h.pe.run pins s σ H E I ⟨F, ok.unref e, q⟩⟩⟩
end
end DL
end

section
/-! from what the head tells of a def to what a caller knows. -/
open PySem L2 DL PyProof.Rows
namespace DL
section
variable {P : Program} {w : World} {K : PySem.W.Frag} {mg : Str → Option Value} {base : Heap} {T : List (Addr × Str)} {x : Str} {st : Stmt} {f c p : Addr} {k : Nat} {N : DF} {ps : List Str}
abbrev Bnd (x : Str) (st : Stmt) (ps : List Str) : Prop := ∀ (kV doc pm : Value) (an : Option Addr) (cdv ct : Value) (us : List Value), us.length = ps.length → bindArgs (PySem.W.fnOf x x (defArgs st) (defBody st) (defScope st) .none kV doc pm an cdv ct) ⟨us, []⟩ = pure (ps.zip us)
abbrev BndK (x : Str) (st : Stmt) (ps ks : List Str) (idx : List Nat) : Prop := ∀ (kV doc pm : Value) (an : Option Addr) (cdv ct : Value) (us : List Value), us.length = ks.length → bindArgs (PySem.W.fnOf x x (defArgs st) (defBody st) (defScope st) .none kV doc pm an cdv ct) ⟨[], ks.zip us⟩ = pure (ps.zip (perm idx us))
theorem knOf (X : K.In base) (G : base.Ns mainGlobals mg) (d : DefK K x st f) (ok : ∀ fd, Fun K x x st f fd → FnOk P w K mg base (L2.CX P w) k f fd ps (spD K T N)) (hb : Bnd x st ps) : Kn P w K mg base T x k N := by
  obtain ⟨ns, ⟨oc, od, kV, doc, pm, an, cdv, ct, osl, l, hc⟩, kp, fn⟩ := d
  exact ⟨f, _, ps, ok _ (fun_mk l hc kp), PySem.W.mg_of X G ns, kp, .all (hb kV doc pm an cdv ct)⟩
theorem knAOf (X : K.In base) (G : base.Ns mainGlobals mg) (d : DefK K x st f) (ok : ∀ fd, Fun K x x st f fd → FnOk P w K mg base (L2.CX P w) k f fd ps (spD K T N)) (hb : Bnd x st ps) : KnA P w K mg base T f k N := by
  obtain ⟨ns, ⟨oc, od, kV, doc, pm, an, cdv, ct, osl, l, hc⟩, kp, fn⟩ := d
  exact ⟨_, ps, ok _ (fun_mk l hc kp), kp, .all (hb kV doc pm an cdv ct)⟩
theorem knKOf {ks : List Str} {idx : List Nat} (X : K.In base) (G : base.Ns mainGlobals mg) (d : DefK K x st f) (ok : ∀ fd, Fun K x x st f fd → FnOk P w K mg base (L2.CX P w) k f fd ps (spD K T N)) (hb : BndK x st ps ks idx) : KnK P w K mg base T x k N ks idx := by
  obtain ⟨ns, ⟨oc, od, kV, doc, pm, an, cdv, ct, osl, l, hc⟩, kp, fn⟩ := d
  exact ⟨f, _, ps, ok _ (fun_mk l hc kp), PySem.W.mg_of X G ns, kp, hb kV doc pm an cdv ct⟩
theorem knCOf (X : K.In base) (G : base.Ns mainGlobals mg) (d : DefCK K x st f c p) (ok : ∀ fd, FunC K x x st f fd c → FnOk P w K mg base (L2.CX P w) k f fd ps (spD K T N)) (hb : Bnd x st ps) : Kn P w K mg base T x k N := by
  obtain ⟨ns, ⟨oc, od, kV, doc, pm, an, ct, osl, l, hc⟩, kp, fn, _, _⟩ := d
  exact ⟨f, _, ps, ok _ ⟨oc, od, kV, doc, pm, an, ct, osl, rfl, l, hc⟩, PySem.W.mg_of X G ns, kp, .all (hb kV doc pm an (.ref c) ct)⟩
theorem DefK.at_ (d : DefK K x st f) : FnAt K f := ⟨d.fn, d.kp⟩
theorem excOf {fn px : Str} {C : Addr} (X : K.In base) (G : base.Ns mainGlobals mg) (S : SupM P K mg) (e : ExcK P K mg x px fn C) : KnE P w K mg base x C fn := by
  obtain ⟨fI, fd, i1, i2, i3, i4⟩ := e.ini
  exact ⟨PySem.W.mg_of X G e.ns, e.oex, e.xf, e.no, fI, fd, px, i1, i2, ini_ok S i3, i4⟩
end
end DL
end

section
/-! dicts, texts, membership in data. -/
namespace DL
open PySem PySem.Spec L2
/-! ### dicts as data -/
def lookD (kvs : List (Key × D)) (k : Key) : Option D := (kvs.find? fun kv => decide (kv.1 = k)).map (·.2)
def putD (kvs : List (Key × D)) (k : Key) (d : D) : List (Key × D) := if (kvs.any fun kv => decide (kv.1 = k)) = true then kvs.map (fun kv => if kv.1 = k then (kv.1, d) else kv) else kvs ++ [(k, d)]
def mergeD (kvs more : List (Key × D)) : List (Key × D) := more.foldl (fun acc kv => putD acc kv.1 kv.2) kvs
def keyD : D → Option Key
  | .int i => some (.inl i)
  | .str x => some (.inr x)
  | _ => none
section
variable {K : PySem.W.Frag} {F H : Hp} {ws : List Addr}
theorem keyD_V {v : V} {d : D} {k : Key} (r : R K F ws v d) (e : keyD d = some k) : v = kV k := by
  cases r <;> first | (cases e; rfl) | cases e
theorem Rk.look {k : Key} : ∀ {ds : List (Key × D)} {vs : List (Key × V)}, Rk K F ws vs ds → (∃ v d, valV vs k = some v ∧ lookD ds k = some d ∧ R K F ws v d) ∨ (valV vs k = none ∧ lookD ds k = none)
  | [], _, r => by cases r; exact .inr ⟨rfl, rfl⟩
  | (k', d') :: ds, _, r => by
    cases r with
    | @cons _ v vs _ _ h t =>
      by_cases e : k' = k
      · refine .inl ⟨v, d', by rw [valV_pos e], ?_, h⟩
        unfold lookD
        rw [List.find?_cons, decide_eq_true (show (k', d').1 = k from e)]
        rfl
      · have e2 : lookD ((k', d') :: ds) k = lookD ds k := by
          unfold lookD
          rw [List.find?_cons, decide_eq_false (show ¬ (k', d').1 = k from e)]
        rw [valV_neg (show ¬ (k', v).1 = k from e), e2]
        exact Rk.look t
theorem Rk.any {k : Key} : ∀ {ds : List (Key × D)} {vs : List (Key × V)}, Rk K F ws vs ds → (vs.any fun kv => decide (kv.1 = k)) = ds.any fun kv => decide (kv.1 = k)
  | [], _, r => by cases r; rfl
  | _ :: _, _, r => by
    cases r with
    | cons h t => rw [List.any_cons, List.any_cons, Rk.any t]
theorem Rk.app : ∀ {ds es : List (Key × D)} {vs us : List (Key × V)}, Rk K F ws vs ds → Rk K F ws us es → Rk K F ws (vs ++ us) (ds ++ es)
  | [], _, _, _, r, s => by cases r; exact s
  | _ :: _, _, _, _, r, s => by
    cases r with
    | cons h t => exact .cons h (Rk.app t s)
theorem Rk.repl {k : Key} {v : V} {d : D} (r : R K F ws v d) : ∀ {ds : List (Key × D)} {vs : List (Key × V)}, Rk K F ws vs ds → Rk K F ws (vs.map fun kv => if kv.1 = k then (kv.1, v) else kv) (ds.map fun kv => if kv.1 = k then (kv.1, d) else kv)
  | [], _, t => by cases t; exact .nil
  | (k', d') :: _, _, t => by
    cases t with
    | @cons _ v' _ _ _ h t =>
      rw [List.map_cons, List.map_cons]
      by_cases e : k' = k
      · rw [if_pos (show (k', v').1 = k from e), if_pos (show (k', d').1 = k from e)]
        exact .cons r (Rk.repl r t)
      · rw [if_neg (show ¬ (k', v').1 = k from e), if_neg (show ¬ (k', d').1 = k from e)]
        exact .cons h (Rk.repl r t)
theorem Rk.put {k : Key} {v : V} {d : D} (r : R K F ws v d) {ds : List (Key × D)} {vs : List (Key × V)} (t : Rk K F ws vs ds) : Rk K F ws (putK vs k v) (putD ds k d) := by
  unfold putK putD
  rw [Rk.any t]
  split
  · exact Rk.repl r t
  · exact t.app (.cons r .nil)
theorem Rk.merge : ∀ {es ds : List (Key × D)} {us vs : List (Key × V)}, Rk K F ws us es → Rk K F ws vs ds → Rk K F ws (mergeK vs us) (mergeD ds es)
  | [], _, _, _, r, t => by cases r; exact t
  | _ :: _, _, _, _, r, t => by
    cases r with
    | cons h r2 =>
      exact Rk.merge (ds := putD _ _ _) (vs := putK _ _ _) r2 (Rk.put h t)
theorem Rk.mo' {F' : Hp} {ds : List (Key × D)} {vs : List (Key × V)} (r : Rk K F ws vs ds) (s : Same F F') : Rk K F' ws vs ds := Rk.mono s (fun _ z => z) _ _ r
end
section
variable {X : Cx} {T : List (Addr × Str)} {A : Anc} {ρ : Ev} {a b e : Expr} {es : List Expr} {C : CD} {pos p : Pos} {O : DO} {x : Str} {i : Nat}
/-- d[k], d a dict -/
def ixK : D → D → CD → Ev → Prop
  | .dK kvs, k, C, ρ => ∃ key d, keyD k = some key ∧ lookD kvs key = some d ∧ C d ρ
  | _, _, _, _ => False
theorem lk_ixK : Lk X T A (fun x y H Q => ∃ a v, x = .ref a ∧ DGet H a y (some v) ∧ Q v H) ixK := by
  intro d1 d2 C F H σ ρ x y Q h ok r1 r2 q
  unfold ixK at h
  split at h
  · obtain ⟨key, d, e1, e2, c⟩ := h
    cases r1 with
    | @dK a o xs _ h1 t =>
      rw [keyD_V r2 e1]
      rcases t.look (k := key) with ⟨v, d', e3, e4, r⟩ | ⟨_, e4⟩
      · rw [e2] at e4
        cases e4
        exact ⟨a, v, rfl, .inl ⟨xs, key, .inr ⟨o, ok.sub _ _ h1⟩, rfl, e3.symm⟩, q _ _ c _ F H (Same.refl _) rfl ok r⟩
      · rw [e2] at e4
        cases e4
  · exact h.elim
theorem de_ixK (hu : X.A.units + 64 < cLine) (h : In2 X T A ρ a b ixK C) (hs : NoSl b := by exact fun _ _ => rfl) : DE X T A ρ (.Subscript a b pos) C := DE.of (pe_dget (by omega) pe_go pe_go hs) (go2 lk_ixK h)
/-- k in d -/
theorem op_inKd (hu : X.A.units + 1 < cLine) : OpR X (compareOp .In) (fun x y H Q => ∃ a o, y = .ref a ∧ DGet H a x o ∧ Q (.bl o.isSome) H) := by
  intro pins s σ H x y v u Q I rx ry h
  obtain ⟨a, o, rfl, g, q⟩ := h
  obtain rfl : u = Value.ref a := ry
  exact d_in hu I g rx fun s' I' => ⟨.bl _, H, I', rfl, q⟩
theorem op_notinKd (hu : X.A.units + 1 < cLine) : OpR X (compareOp .NotIn) (fun x y H Q => ∃ a o, y = .ref a ∧ DGet H a x o ∧ Q (.bl (!o.isSome)) H) := by
  intro pins s σ H x y v u Q I rx ry h
  obtain ⟨a, o, rfl, g, q⟩ := h
  obtain rfl : u = Value.ref a := ry
  exact d_notIn hu I g rx fun s' I' => ⟨.bl _, H, I', rfl, q⟩
def inK (f : Bool → Bool) : D → D → CD → Ev → Prop
  | k, .dK kvs, C, ρ => ∃ key, keyD k = some key ∧ C (.bl (f (lookD kvs key).isSome)) ρ
  | _, _, _, _ => False
theorem lk_inK {f : Bool → Bool} : Lk X T A (fun x y H Q => ∃ a o, y = .ref a ∧ DGet H a x o ∧ Q (.bl (f o.isSome)) H) (inK f) := by
  intro d1 d2 C F H σ ρ x y Q h ok r1 r2 q
  unfold inK at h
  split at h
  · obtain ⟨key, e1, c⟩ := h
    cases r2 with
    | @dK a o xs _ h1 t =>
      rw [keyD_V r1 e1]
      refine ⟨a, valV xs key, rfl, .inl ⟨xs, key, .inr ⟨o, ok.sub _ _ h1⟩, rfl, rfl⟩, ?_⟩
      have e : (valV xs key).isSome = (lookD ‹_› key).isSome := by
        rcases t.look (k := key) with ⟨v, d', e3, e4, r⟩ | ⟨e3, e4⟩ <;> rw [e3, e4] <;> rfl
      rw [e]
      exact q _ _ c _ F H (Same.refl _) rfl ok (.bl _)
  · exact h.elim
theorem de_inK (hu : X.A.units + 64 < cLine) (h : In2 X T A ρ a b (inK id) C) (hm : behindInMarks .In b = false := by rfl) : DE X T A ρ (.Compare a [.In] [b] pos) C := de_cmp (op_inKd (by omega)) lk_inK hm h
theorem de_ninK (hu : X.A.units + 64 < cLine) (h : In2 X T A ρ a b (inK not) C) (hm : behindInMarks .NotIn b = false := by rfl) : DE X T A ρ (.Compare a [.NotIn] [b] pos) C := de_cmp (op_notinKd (by omega)) lk_inK hm h
theorem dt_inK {B : CB} (hu : X.A.units + 64 < cLine) (h : In2 X T A ρ a b (inK id) (asB B)) (hm : behindInMarks .In b = false := by rfl) : DT X T A ρ (.Compare a [.In] [b] pos) B := dt_cmp (op_inKd (by omega)) lk_inK hm h
theorem dt_ninK {B : CB} (hu : X.A.units + 64 < cLine) (h : In2 X T A ρ a b (inK not) (asB B)) (hm : behindInMarks .NotIn b = false := by rfl) : DT X T A ρ (.Compare a [.NotIn] [b] pos) B := dt_cmp (op_notinKd (by omega)) lk_inK hm h
/-! ### membership in lists and tuples of plain things -/
def flatD : D → Bool
  | .non => true
  | .bl _ => true
  | .int _ => true
  | .str _ => true
  | _ => false
def eqFl : D → D → Bool
  | .non, .non => true
  | .bl a, .bl b => a == b
  | .bl a, .int b => (if a then 1 else 0) == b
  | .int a, .bl b => a == (if b then 1 else 0)
  | .int a, .int b => a == b
  | .str a, .str b => a == b
  | _, _ => false
theorem flat_R {K : PySem.W.Frag} {F : Hp} {ws : List Addr} {v : V} {d : D} (r : R K F ws v d) (h : flatD d = true) : flatV v = true := by
  cases r <;> first | rfl | cases h
theorem flats_R {K : PySem.W.Frag} {F : Hp} {ws : List Addr} : ∀ {ds : List D} {vs : List V}, Rs K F ws vs ds → ds.all flatD = true → vs.all flatV = true
  | [], _, r, _ => by cases r; rfl
  | d :: ds, _, r, h => by
    cases r with
    | cons r t =>
      rw [List.all_cons, Bool.and_eq_true] at h
      rw [List.all_cons, flat_R r h.1, flats_R t h.2]
      rfl
theorem eqFl_R {K : PySem.W.Frag} {F : Hp} {ws : List Addr} {v u : V} {d e : D} (r : R K F ws v d) (s : R K F ws u e) (h : flatD d = true) (h2 : flatD e = true) : eqV v u = eqFl d e := by
  cases r <;> cases s <;> first | rfl | cases h | cases h2
theorem any_R {K : PySem.W.Frag} {F : Hp} {ws : List Addr} {u : V} {e : D} (s : R K F ws u e) (h2 : flatD e = true) : ∀ {ds : List D} {vs : List V}, Rs K F ws vs ds → ds.all flatD = true → (vs.any fun y => eqV y u) = ds.any fun y => eqFl y e
  | [], _, r, _ => by cases r; rfl
  | d :: ds, _, r, h => by
    cases r with
    | cons r t =>
      rw [List.all_cons, Bool.and_eq_true] at h
      rw [List.any_cons, List.any_cons, eqFl_R r s h.1 h2, any_R s h2 t h.2]
def inS (neg : Bool) : D → D → CD → Ev → Prop := fun d1 d2 C ρ => ∃ ds, seqD d2 = some ds ∧ flatD d1 = true ∧ ds.all flatD = true ∧ C (.bl (if neg then !(ds.any fun y => eqFl y d1) else ds.any fun y => eqFl y d1)) ρ
theorem lk_inS {neg : Bool} : Lk X T A (rIn X.K neg) (inS neg) := by
  intro d1 d2 C F H σ ρ x y Q h ok r1 r2 q
  obtain ⟨ds, e, f1, f2, c⟩ := h
  obtain ⟨p, xs, rfl, hs, t⟩ := seq_of ok.sub r2 e
  refine ⟨p, xs, rfl, hs, flat_R r1 f1, flats_R t f2, ?_⟩
  unfold inV
  rw [any_R r1 f1 t f2]
  exact q _ _ c _ F H (Same.refl _) rfl ok (.bl _)
theorem de_inS (h : In2 X T A ρ a b (inS false) C) (hm : behindInMarks .In b = false := by rfl) : DE X T A ρ (.Compare a [.In] [b] pos) C := de_cmp op_in_seq lk_inS hm h
theorem de_ninS (h : In2 X T A ρ a b (inS true) C) (hm : behindInMarks .NotIn b = false := by rfl) : DE X T A ρ (.Compare a [.NotIn] [b] pos) C := de_cmp op_notIn_seq lk_inS hm h
theorem dt_inS {B : CB} (h : In2 X T A ρ a b (inS false) (asB B)) (hm : behindInMarks .In b = false := by rfl) : DT X T A ρ (.Compare a [.In] [b] pos) B := dt_cmp op_in_seq lk_inS hm h
theorem dt_ninS {B : CB} (h : In2 X T A ρ a b (inS true) (asB B)) (hm : behindInMarks .NotIn b = false := by rfl) : DT X T A ρ (.Compare a [.NotIn] [b] pos) B := dt_cmp op_notIn_seq lk_inS hm h
end
end DL
end

section
/-! dict comprehensions; own dicts stored into; x.pop(i), x.insert(0, e) of own lists; wide division. -/
namespace DL
open PySem PySem.Spec L2
section comp
variable {X : Cx} {T : List (Addr × Str)} {A : Anc} {ρ : Ev} {tg iter kx vx : Expr} {ifs : List Expr} {pos : Pos} {scope : Scope}
abbrev Ev.inK (ρ : Ev) (vs : List Nat) (D0 : Addr) (acc : List (Key × D)) (g : Nat) : Ev := ⟨wipeS ρ.sl vs, (D0, .dK acc) :: ρ.hid, ρ.ws, g⟩
def KeptK (ρ : Ev) (own : List (Str × Nat)) (D0 : Addr) (acc : List (Key × D)) (I : List (Key × D) → Nat → Prop) (acc' : List (Key × D)) (ρ5 : Ev) : Prop :=
  ρ5.hid = (D0, .dK acc) :: ρ.hid ∧ wipeS ρ5.sl (own.map (·.2)) = wipeS ρ.sl (own.map (·.2)) ∧ I acc' ρ5.g
def DcD (X : Cx) (T : List (Addr × Str)) (A : Anc) (scope : Scope) (own : List (Str × Nat)) (tg kx vx : Expr) (ifs : List Expr) (C : CV) (ds : List D) (ρ1 : Ev) : Prop :=
  ∃ I : Nat → List (Key × D) → Nat → Prop, noOwn ρ1.sl (own.map (·.2)) = true ∧ I 0 [] ρ1.g ∧ ds.length < sizeLine ∧
    (∀ i d (acc : List (Key × D)) g D0, ds[i]? = some d → acc.length ≤ i → I i acc g → Blk X scope fun X' => DG X' T A (own.map (·.2)) (ρ1.inK (own.map (·.2)) D0 acc g) tg d (fun ρ3 => Blk X scope fun X' => DTs X' T A ρ3 ifs (fun k ρ4 =>
      branch (Blk X scope fun X' => DE X' T A ρ4 kx (fun dk ρ5 => Blk X scope fun X' => DE X' T A ρ5 vx (fun dv ρ6 => ∃ key, keyD dk = some key ∧ KeptK ρ1 own D0 acc (I (i + 1)) (putD acc key dv) ρ6))) (KeptK ρ1 own D0 acc (I (i + 1)) acc ρ4) k))) ∧
    (∀ acc g, I ds.length acc g → ∀ a, C (.b a (.dK acc)) (ρ1.gas g))
theorem putD_len (acc : List (Key × D)) (k : Key) (d : D) : (putD acc k d).length ≤ acc.length + 1 := by
  unfold putD
  split
  · rw [List.length_map]; omega
  · rw [List.length_append]; exact Nat.le_refl _
theorem dc_read {own : List (Str × Nat)} {C : CV} (h : DI X T A ρ tg iter (fun ds ρ1 => DcD X T A scope own tg kx vx ifs C ds ρ1)) (σ : L2.St) (H : Hp) (Q : VK) (F : Hp) (ok : Ok X.K T A F H σ ρ)
    (q : ∀ r ρ', C r ρ' → ∀ v F' H', Same F F' → ρ'.ws = ρ.ws → Ok X.K T A F' H' σ ρ' → Gv X.K A F' H' ρ' v r → Q v H') : tDc (goI X T A tg iter) (goGB X T A scope tg) (goTB X T A scope ifs) (goEB X T A scope kx) (goEB X T A scope vx) (own.map (·.2)) σ H Q := by
  refine ⟨ρ, _, h, F, ok, fun ds ρ1 ⟨I, no, i0, hz, it, ie⟩ J F1 H1 s1 w1 ok1 y D0 hD => ?_⟩
  obtain ⟨okD, gD⟩ := ok1.mineB (c := .dK []) hD (.dK .nil)
  have ok0 := okD.hideB gD
  refine ⟨fun i m H2 => m = ds.length - i ∧ i ≤ ds.length ∧ ∃ (F2 : Hp) (acc : List (Key × D)) (g : Nat), Same F1 F2 ∧ acc.length ≤ i ∧ Ok X.K T A F2 H2 σ ⟨ρ1.sl, (D0, .dK acc) :: ρ1.hid, ρ1.ws, g⟩ ∧ I i acc g, ⟨_, rfl, Nat.zero_le _, F1, [], ρ1.g, Same.refl _, Nat.le_refl _, ok0, i0⟩, ?_⟩
  rintro i m H2 ⟨rfl, hi, F2, acc, g, s2, ha, ok2, i2⟩
  by_cases hl : i < ds.length
  · refine .inr ⟨y.1 i F2 H2 s2 ok2.sub hl, fun H3 => ∃ (F3 : Hp) (acc : List (Key × D)) (g : Nat), Same F1 F3 ∧ acc.length ≤ i + 1 ∧ Ok X.K T A F3 H3 σ ⟨ρ1.sl, (D0, .dK acc) :: ρ1.hid, ρ1.ws, g⟩ ∧ I (i + 1) acc g, fun H3 ⟨F3, acc', g', s3, ha', ok3, i3⟩ => ⟨ds.length - (i + 1), by omega, rfl, hl, F3, acc', g', s3, ha', ok3, i3⟩, fun x H3 hy => ?_⟩
    have ed : ds[i]? = some ds[i] := List.getElem?_eq_getElem hl
    obtain ⟨F3, s3, ok3, r3⟩ := y.2.2 i _ F2 H2 σ _ x H3 ed s2 ok2 (fun _ z => z) hy
    have okB : Ok X.K T A F3 H3 (wipe σ (own.map (·.2))) (ρ1.inK (own.map (·.2)) D0 acc g) := ok3.wiped
    have gg := it i _ acc g D0 ed ha i2
    refine ⟨own.map (·.2), _, _, _, gg, F3, okB, r3, fun ρ4 c4 σ4 F4 H4 s4 w4 e4 ok4 => ⟨?_, ?_⟩⟩
    · rw [e4]
      exact wipe_id _ fun u m x e => absurd m (wipe_some e).2
    · have hw4 : ρ4.ws = ρ1.ws := w4
      refine ⟨ρ4, _, c4, F4, ok4, fun k ρ5 c5 F5 H5 s5 w5 ok5 => ?_⟩
      have hw5 : ρ5.ws = ρ1.ws := w5.trans hw4
      cases k with
      | false =>
        dsimp only
        rw [if_neg Bool.false_ne_true]
        obtain ⟨e1, e2, e3⟩ := c5.2 rfl
        obtain ⟨sl5, hid5, ws5, g5⟩ := ρ5
        cases e1
        cases hw5
        exact ⟨F5, acc, g5, s2.trans (s3.trans (s4.trans s5)), by omega, ok3.unwiped (s4.trans s5) ok5 e2 no, e3⟩
      | true =>
        dsimp only
        rw [if_pos rfl]
        refine ⟨ρ5, _, c5.1 rfl, F5, ok5, fun dk ρ6 c6 v F6 H6 s6 w6 ok6 r6 => ?_⟩
        refine ⟨ρ6, _, c6, F6, ok6, fun dv ρ7 ⟨key, ek, e1, e2, e3⟩ u F7 H7 s7 w7 ok7 r7 => ?_⟩
        have := keyD_V r6 ek
        subst this
        obtain ⟨sl7, hid7, ws7, g7⟩ := ρ7
        cases e1
        have hw7 : ws7 = ρ1.ws := w7.trans (w6.trans hw5)
        subst hw7
        have ok8 := ok3.unwiped (s4.trans (s5.trans (s6.trans s7))) ok7 e2 no
        obtain ⟨_, _, _, o4, e4, r4⟩ := ok8.owns (.inr 0) D0 (.dK acc) rfl
        obtain ⟨xs, rfl, t4⟩ := r4.dict
        have l4 := t4.len
        exact ⟨xs, key, rfl, e4, by omega, F7, putD acc key dv, g7, s2.trans (s3.trans (s4.trans (s5.trans (s6.trans s7)))), Nat.le_trans (putD_len _ _ _) (by omega), ok8.hidChg (.dK (Rk.put r7 t4)), e3⟩
  · have ei : i = ds.length := by omega
    subst ei
    obtain ⟨ok3, gv⟩ := ok2.unhideB
    exact .inl ⟨y.2.1 _ F2 H2 s2 ok2.sub rfl, q _ _ (ie acc g i2 D0) _ F2 H2 (s1.trans s2) w1 ok3 gv⟩
theorem dv_dc {own : List (Str × Nat)} {C : CV} (hc : X.calm = true) (hN : X.N.Nodup) (ok : BlkOk X.N X.env.scope scope own) (h : DI X T A ρ tg iter (fun ds ρ1 => DcD X T A scope own tg kx vx ifs C ds ρ1))
    (hs : ∀ x, foldedSetIterable iter X.env x = pure x := by intro _; rfl) : DV X T A ρ (.DictComp kx vx [⟨tg, iter, ifs, 0⟩] scope pos) C :=
  DV.of (pe_dc (g := goGB X T A scope tg) (tt := goTB X T A scope ifs) (tk := goEB X T A scope kx) (tv := goEB X T A scope vx) hc hN pi_go ok
    (fun s H Cc cl fp => ⟨fun pins s' σ H' v u Q I r ⟨_, _, _, _, h, q⟩ => (h s H Cc cl fp).pe.run pins s' σ H' v u Q I r q⟩)
    (fun s H Cc cl fp => ⟨fun pins s' σ H' Q I ⟨_, _, h, q⟩ => (h s H Cc cl fp).pe.run pins s' σ H' Q I q⟩)
    (fun s H Cc cl fp => ⟨fun pins s' σ H' Q I ⟨_, _, h, q⟩ => (h s H Cc cl fp).pe.run pins s' σ H' Q I q⟩)
    (fun s H Cc cl fp => ⟨fun pins s' σ H' Q I ⟨_, _, h, q⟩ => (h s H Cc cl fp).pe.run pins s' σ H' Q I q⟩) hs) (dc_read h)
/-- a dict comprehension that maps: each item puts none or one pair -/
theorem dcd_fold {own : List (Str × Nat)} {C : CV} {ds : List D} {vs : List Nat} {slW : List Sl} (f : D → Option (Key × D)) (no : noOwn ρ.sl (own.map (·.2)) = true) (hz : ds.length < sizeLine)
    (h : ∀ (i : Nat) d (acc : List (Key × D)) D0, ds[i]? = some d → Blk X scope fun X' => DG X' T A vs ⟨slW, (D0, .dK acc) :: ρ.hid, ρ.ws, ρ.g⟩ tg d (fun ρ3 => Blk X scope fun X' => DTs X' T A ρ3 ifs (fun k ρ4 =>
      branch (Blk X scope fun X' => DE X' T A ρ4 kx (fun dk ρ5 => Blk X scope fun X' => DE X' T A ρ5 vx (fun dv ρ6 => ∃ key, keyD dk = some key ∧ f d = some (key, dv) ∧ ρ6.hid = (D0, .dK acc) :: ρ.hid ∧ wipeS ρ6.sl vs = slW ∧ ρ6.g = ρ.g))) (f d = none ∧ ρ4.hid = (D0, .dK acc) :: ρ.hid ∧ wipeS ρ4.sl vs = slW ∧ ρ4.g = ρ.g) k)))
    (q : ∀ a, C (.b a (.dK (mergeD [] (ds.filterMap f)))) ρ) (hv : own.map (·.2) = vs := by rfl) (hW : wipeS ρ.sl (own.map (·.2)) = slW := by rfl) : DcD X T A scope own tg kx vx ifs C ds ρ := by
  subst hv hW
  refine ⟨fun i acc g => g = ρ.g ∧ acc = mergeD [] ((ds.take i).filterMap f), no, ⟨rfl, rfl⟩, hz, fun i d acc g D0 ed ha ⟨eg, ea⟩ => ?_, fun acc g ⟨eg, ea⟩ a => ?_⟩
  · subst eg
    have et : ds.take (i + 1) = ds.take i ++ [d] := by rw [List.take_add_one, ed]; rfl
    intro s H Cc cl fp
    refine ⟨⟨fun pins s' σ H' v u Q I r ⟨F, ok, rr, qq⟩ => (h i d acc D0 ed s H Cc cl fp).pe.run pins s' σ H' v u Q I r ⟨F, ok, rr, fun ρ' c => qq ρ' (fun s H Cc cl fp => ?_)⟩⟩⟩
    refine ⟨⟨fun pins s' σ H' Q I ⟨F, ok, qq⟩ => (c s H Cc cl fp).pe.run pins s' σ H' Q I ⟨F, ok, fun b ρ4 c4 => qq b ρ4 ⟨fun e s H Cc cl fp => ?_, fun e => ?_⟩⟩⟩⟩
    · refine ⟨⟨fun pins s' σ H' Q I ⟨F, ok, qq⟩ => (c4.1 e s H Cc cl fp).pe.run pins s' σ H' Q I ⟨F, ok, fun dk ρ5 c5 => qq dk ρ5 (fun s H Cc cl fp => ?_)⟩⟩⟩
      refine ⟨⟨fun pins s' σ H' Q I ⟨F, ok, qq⟩ => (c5 s H Cc cl fp).pe.run pins s' σ H' Q I ⟨F, ok, fun dv ρ6 ⟨key, ek, ef, e1, e2, e3⟩ => qq dv ρ6 ⟨key, ek, e1, e2, e3, ?_⟩⟩⟩⟩
      rw [et, List.filterMap_append, ea]
      unfold mergeD
      rw [List.foldl_append]
      have ef' : [d].filterMap f = [(key, dv)] := by simp [ef]
      rw [ef']
      rfl
    · obtain ⟨ef, e1, e2, e3⟩ := c4.2 e
      refine ⟨e1, e2, e3, ?_⟩
      have ef' : [d].filterMap f = [] := by simp [ef]
      rw [et, List.filterMap_append, ea, ef', List.append_nil]
  · subst eg
    rw [ea, List.take_length]
    exact q a
end comp
section
variable {X : Cx} {T : List (Addr × Str)} {A : Anc} {ρ : Ev} {e b : Expr} {es : List Expr} {C : CD} {x : Str} {i : Nat} {p p1 p2 p3 pos : Pos} {O : DO}
def boxK (ρ : Ev) (i : Nat) (P : Addr → List (Key × D) → Prop) : Prop := match ρ.sl[i]? with
  | some (.box a (.dK kvs)) => P a kvs
  | _ => False
theorem boxK_ok {ρ : Ev} {P : Addr → List (Key × D) → Prop} (h : boxK ρ i P) : ∃ a kvs, ρ.sl[i]? = some (.box a (.dK kvs)) ∧ P a kvs := by
  unfold boxK at h
  split at h
  · exact ⟨_, _, by assumption, h⟩
  · exact h.elim
/-- x[k] as a target, x one's own dict -/
theorem dg_ownK {vs : List Nat} {d : D} {C : Ev → Prop} (hu : X.A.units + 64 < cLine) (h0 : boxK ρ i fun _ _ => True) (h : DE X T A ρ b (fun d2 ρ1 => boxK ρ1 i fun a kvs => ∃ key, keyD d2 = some key ∧ kvs.length < sizeLine ∧ C (ρ1.put i (.box a (.dK (putD kvs key d)))))) (hi : slotOf X.N x = some i := by rfl)
    (hv : Vis X.env.scope x := by first | exact Or.inl rfl | exact Or.inr (Or.inl rfl) | exact Or.inr (Or.inr rfl)) (hd : (x == ("__debug__" : Str)) = false := by decide) (hcd : (x == ("__classdict__" : Str)) = false := by decide)
    (ha : ∀ v, assign (.Subscript (.Name x p) b pos) X.env v = (do
      let ov ← holding [v] (eval (.Name x p) X.env)
      let iv ← holding [v, ov] (eval b X.env)
      standAt pos
      holding [v, ov, iv] (setItem ov iv v)
      release [v, ov, iv] []) := by intro _; rfl) : DG X T A vs ρ (.Subscript (.Name x p) b pos) d C :=
  ⟨⟨fun pins s σ H v u Q I r ⟨F, ok, rr, q⟩ => (pg_sub (pe_var (slotOf_ok hi) hv hd hcd) (pe_go (T := T) (A := A)) (set_dict (by omega)) ha).run pins s σ H v u Q I r (by
    obtain ⟨a0, ds0, e0, _⟩ := boxK_ok h0
    have es0 := ok.ownS i a0 _ (ownOf_of e0 rfl)
    refine ⟨.ref a0, es0, ρ, _, h, F, ok, fun d2 ρ1 h1 v2 F1 H1 s1 w1 ok1 r1 => ?_⟩
    obtain ⟨a, kvs, e1, key, ek, hz, c⟩ := boxK_ok h1
    have e2 := ok1.ownS i a _ (ownOf_of e1 rfl)
    rw [es0] at e2
    cases e2
    obtain ⟨g1, g2, g3, o, g4, g5⟩ := ok1.owns _ a0 _ (at_ofB e1 rfl)
    obtain ⟨us, rfl, t⟩ := g5.dict
    have := keyD_V r1 ek
    subst this
    exact ⟨a0, _, rfl, .inl ⟨us, key, g4, rfl, by rw [t.len]; exact hz, rfl⟩, q _ c σ F1 _ s1 w1 rfl (ok1.boxUpd (s2 := .box a0 (.dK (putD kvs key d))) e1 rfl rfl (.dK (Rk.put (by rw [w1]; exact rr.mo s1) t)))⟩)⟩⟩
/-- x[k] read, x one's own dict -/
theorem de_ixBox (hu : X.A.units + 64 < cLine) (h0 : boxK ρ i fun _ _ => True) (h : DE X T A ρ b (fun d ρ1 => boxK ρ1 i fun _ kvs => ∃ key d', keyD d = some key ∧ lookD kvs key = some d' ∧ C d' ρ1)) (hi : slotOf X.N x = some i := by rfl)
    (hv : Vis X.env.scope x := by first | exact Or.inl rfl | exact Or.inr (Or.inl rfl) | exact Or.inr (Or.inr rfl)) (hd : (x == ("__debug__" : Str)) = false := by decide) (hcd : (x == ("__classdict__" : Str)) = false := by decide)
    (hs : NoSl b := by exact fun _ _ => rfl) : DE X T A ρ (.Subscript (.Name x p) b pos) C :=
  DE.of (pe_dget (by omega) (pe_var (slotOf_ok hi) hv hd hcd) pe_go hs) fun σ H Q F ok q => by
    obtain ⟨a0, ds0, e0, _⟩ := boxK_ok h0
    have es0 := ok.ownS i a0 _ (ownOf_of e0 rfl)
    refine ⟨.ref a0, es0, ρ, _, h, F, ok, fun d ρ1 h1 v F1 H1 s1 w1 ok1 r1 => ?_⟩
    obtain ⟨a, kvs, e1, key, d', ek, el, c⟩ := boxK_ok h1
    have e2 := ok1.ownS i a _ (ownOf_of e1 rfl)
    rw [es0] at e2
    cases e2
    obtain ⟨g1, g2, g3, o, g4, g5⟩ := ok1.owns _ a0 _ (at_ofB e1 rfl)
    obtain ⟨us, rfl, t⟩ := g5.dict
    have := keyD_V r1 ek
    subst this
    rcases t.look (k := key) with ⟨u, d2, e3, e4, r⟩ | ⟨_, e4⟩
    · rw [el] at e4
      cases e4
      exact ⟨a0, u, rfl, .inl ⟨us, key, .inl g4, rfl, e3.symm⟩, q _ _ c u F1 H1 s1 w1 ok1 r⟩
    · rw [el] at e4
      cases e4
end
end DL
end

section
/-! a, b, c = .., .., .. of own things; x.get(k) of an own dict; x.insert(i, e); xs.index(e); e.append(f), e a new list. -/
namespace DL
open PySem PySem.Spec L2
section
variable {X : Cx} {T : List (Addr × Str)} {A : Anc} {ρ : Ev} {a b c e f : Expr} {es : List Expr} {C : CD} {O : DO} {x y z : Str} {i j l : Nat} {p p1 p2 p3 pos px py pz pt : Pos}
theorem Ev.put_comm {ρ : Ev} {i j : Nat} {s t : Sl} (h : i ≠ j) : (ρ.put i s).put j t = (ρ.put j t).put i s := by
  unfold Ev.put
  dsimp only
  rw [List.set_comm _ _ h]
theorem held_put {r : RV} {j : Nat} {s : Sl} : (held r ρ).put j s = held r (ρ.put j s) := by cases r <;> rfl
theorem ds_parV3 {kt k2 pt2} (hc : X.calm = true) (hN : X.N.Nodup) (h : DV X T A ρ a (fun r1 ρ1 => DV X T A (held r1 ρ1) b (fun r2 ρ2 => ∃ ρ3, ρ2 = held r1 ρ3 ∧ ρ3.ws = ρ1.ws ∧
      DV X T A (held r2 (held r1 ρ3)) c (fun r3 ρ4 => ∃ ρ5, ρ4 = held r2 (held r1 ρ5) ∧ ρ5.ws = ρ3.ws ∧ O.nx (((ρ5.put i (.of r1)).put j (.of r2)).put l (.of r3))))))
    (hi : slotOf X.N x = some i := by rfl) (hj : slotOf X.N y = some j := by rfl) (hl : slotOf X.N z = some l := by rfl) (hij : i ≠ j := by decide) (hil : i ≠ l := by decide) (hjl : j ≠ l := by decide)
    (hx : X.env.scope.names.lookup x = some .local := by rfl) (hy : X.env.scope.names.lookup y = some .local := by rfl) (hz : X.env.scope.names.lookup z = some .local := by rfl) (hst : starEach [a, b, c] X.env = (false, eval a X.env) :: starEach [b, c] X.env := by rfl) (hst2 : starEach [b, c] X.env = (false, eval b X.env) :: starEach [c] X.env := by rfl) (hst3 : starEach [c] X.env = (false, eval c X.env) :: starEach [] X.env := by rfl)
    (hw : swappedStores [.Tuple [.Name x px, .Name y py, .Name z pz] kt pt] (.Tuple [a, b, c] k2 pt2) X.env = pure (some [x, y, z]) := by rfl)
    (hs : swapsWithSole [.Tuple [.Name x px, .Name y py, .Name z pz] kt pt] (.Tuple [a, b, c] k2 pt2) pos.line X.env = pure false := by rfl) :
    DS X T A ρ (.Assign [.Tuple [.Name x px, .Name y py, .Name z pz] kt pt] (.Tuple [a, b, c] k2 pt2) pos) O :=
  DS.of (ps_par3 hc hN (slotOf_ok hi) (slotOf_ok hj) (slotOf_ok hl) hij hil hjl hx hy hz (pa_cons pv_go (pa_cons pv_go (pa_cons pv_go pa_nil hst3) hst2) hst) hw hs) fun E σ H ⟨F, ok, hn, _⟩ => by
    refine ⟨ρ, _, h, F, ok, fun r1 ρ1 h1 v1 F1 H1 s1 w1 ok1 g1 => ?_⟩
    refine ⟨held r1 ρ1, _, h1, F1, ok1.held g1, fun r2 ρ2 ⟨ρ3, e2, w3, h2⟩ v2 F2 H2 s2 w2 ok2 g2 => ?_⟩
    subst e2
    refine ⟨held r2 (held r1 ρ3), _, h2, F2, ok2.held g2, fun r3 ρ4 ⟨ρ5, e4, w5, q⟩ v3 F3 H3 s3 w4 ok3 g3 => ⟨_, _, _, rfl, ?_⟩⟩
    subst e4
    obtain ⟨b1, b2⟩ := ok3.unheld g2 s3 (by rw [held_ws, held_ws]; exact w5)
    obtain ⟨c1, c2⟩ := b1.unheld g1 (s2.trans s3) (w5.trans w3)
    have d2 : Gv X.K A F3 H3 (ρ5.put i (.of r1)) v2 r2 := gv_put b2 (held_ws _ _)
    have d3 : Gv X.K A F3 H3 ((held r1 ρ5).put j (.of r2)) v3 r3 := gv_put g3 (held_ws _ _)
    rw [held_put] at d3
    have d4 : Gv X.K A F3 H3 ((ρ5.put j (.of r2)).put i (.of r1)) v3 r3 := gv_put d3 (held_ws _ _)
    rw [← Ev.put_comm hij] at d4
    exact hn _ q _ F3 H3 (s1.trans (s2.trans s3)) (by rw [show (((ρ5.put i (.of r1)).put j (.of r2)).put l (.of r3)).ws = ρ5.ws from rfl, w5, w3]; exact mem_eq w1) (((c1.put c2).put d2).put d4)
/-- x.get(k), x one's own dict -/
theorem de_getBox (hu : X.A.units + 64 < cLine) (h0 : boxK ρ i fun _ _ => True) (h : DE X T A ρ b (fun d ρ1 => boxK ρ1 i fun _ kvs => ∃ key, keyD d = some key ∧ C ((lookD kvs key).getD .non) ρ1)) (hi : slotOf X.N x = some i := by rfl)
    (hv : Vis X.env.scope x := by first | exact Or.inl rfl | exact Or.inr (Or.inl rfl) | exact Or.inr (Or.inr rfl)) (hd : (x == ("__debug__" : Str)) = false := by decide) (hcd : (x == ("__classdict__" : Str)) = false := by decide)
    (m : M1 X (.Name x p) "get" p2 b p3 := by exact ⟨by rfl, by rfl, by rfl, by rfl⟩) : DE X T A ρ (.Call (.Attribute (.Name x p) "get" p2) [b] [] p3) C :=
  DE.of (pe_dget1 (by omega) (pe_var (slotOf_ok hi) hv hd hcd) pe_go m) fun σ H Q F ok q => by
    obtain ⟨a0, ds0, e0, _⟩ := boxK_ok h0
    have es0 := ok.ownS i a0 _ (ownOf_of e0 rfl)
    obtain ⟨_, _, _, o0, g40, g50⟩ := ok.owns _ a0 _ (at_ofB e0 rfl)
    obtain ⟨us0, rfl, _⟩ := g50.dict
    refine ⟨.ref a0, es0, a0, rfl, .inl ⟨us0, .inl g40⟩, ρ, _, h, F, ok, fun d ρ1 h1 v F1 H1 s1 w1 ok1 r1 => ?_⟩
    obtain ⟨a, kvs, e1, key, ek, c⟩ := boxK_ok h1
    have e2 := ok1.ownS i a _ (ownOf_of e1 rfl)
    rw [es0] at e2
    cases e2
    obtain ⟨g1, g2, g3, o, g4, g5⟩ := ok1.owns _ a0 _ (at_ofB e1 rfl)
    obtain ⟨us, rfl, t⟩ := g5.dict
    have := keyD_V r1 ek
    subst this
    rcases t.look (k := key) with ⟨u, d2, e3, e4, r⟩ | ⟨e3, e4⟩
    · rw [e4] at c
      exact ⟨some u, .inl ⟨us, key, .inl g4, rfl, e3.symm⟩, q _ _ c u F1 H1 s1 w1 ok1 r⟩
    · rw [e4] at c
      exact ⟨none, .inl ⟨us, key, .inl g4, rfl, e3.symm⟩, q _ _ c .non F1 H1 s1 w1 ok1 .non⟩
/-- x.insert(i, e), x one's own list -/
theorem ds_ins (h0 : ownAt ρ i fun _ _ => True) (h : DA X T A ρ [e, f] (fun es ρ1 => ownAt ρ1 i fun a ds => ∃ (k : Int) (d : D), es = [.int k, d] ∧ 0 ≤ k ∧ k < 2 ^ 63 ∧ ds.length < sizeLine ∧ O.nx (ρ1.put i (.own a (ds.take k.toNat ++ [d] ++ ds.drop k.toNat)))))
    (hi : slotOf X.N x = some i := by rfl) (hv : Vis X.env.scope x := by first | exact Or.inl rfl | exact Or.inr (Or.inl rfl) | exact Or.inr (Or.inr rfl)) (hd : (x == ("__debug__" : Str)) = false := by decide) (hcd : (x == ("__classdict__" : Str)) = false := by decide)
    (hbase : attributeBase (.Name x p1) "insert" X.env (eval (.Name x p1) X.env) = eval (.Name x p1) X.env := by rfl)
    (hfew : ((backTo p3 (starEach [e, f] X.env)).all (fun x => !x.1) && (backToKw p3 (keywordEach [] X.env)).all (fun x => x.1.isSome)
      && decide (([e, f] : List Expr).length + ([] : List Keyword).length + (if ([] : List Keyword).isEmpty then 0 else 1) < 30)) = true := by rfl)
    (hline : (p2.endLine == p3.line) = true := by rfl) (hst : starEach [e, f] X.env = (false, eval e X.env) :: starEach [f] X.env := by rfl) (hplain : (backTo p3 (starEach [f] X.env)).any (·.1) = false := by rfl)
    (hs : swapsWith (.Call (.Attribute (.Name x p1) "insert" p2) [e, f] [] p3) none pos.line X.env = pure false := by rfl) :
    DS X T A ρ (.Expr (.Call (.Attribute (.Name x p1) "insert" p2) [e, f] [] p3) pos) O :=
  DS.of (ps_expr (pe_bm F.plainAttrs_list F.slot_list_insert F.type_list_insert mt_insert (pvS hi hv hd hcd) (pa_go (T := T) (A := A)) hbase hfew hline hst hplain) hs) fun E σ H ⟨F, ok, hn, _⟩ => by
    obtain ⟨a0, ds0, e0, _⟩ := ownAt_ok h0
    obtain ⟨f1, f2, f3, vs, f4, f5⟩ := ok.ownL e0
    refine ⟨.ref a0, ok.ownSL e0, .inl ⟨rfl, _, .of f4⟩, ρ, _, h, F, ok, fun es ρ1 h1 us F1 H1 s1 w1 ok1 r1 => ?_⟩
    obtain ⟨a, ds, e1, k, d, e3, k0, k1, hz, c⟩ := ownAt_ok h1
    subst e3
    have e2 := ok1.ownSL e1
    rw [ok.ownSL e0] at e2
    cases e2
    obtain ⟨v1, v2, rfl, q1, q2⟩ := r1.two
    cases q1
    obtain ⟨g1, g2, g3, us, g4, g5⟩ := ok1.ownL e1
    exact ⟨a0, us, k, v2, rfl, rfl, g4, by rw [g5.len]; exact hz, k0, k1, hn _ c σ F1 _ s1 (mem_eq w1) (ok1.ownUpd e1 (((g5.take k.toNat).app (.cons q2 .nil)).app (g5.drop k.toNat)))⟩
/-- xs.index(e): the first place of an equal one, all of them plain -/
theorem de_index (h : DE X T A ρ a (fun d ρ1 => ∃ ds, seqL d = some ds ∧ DA X T A ρ1 [e] (fun es ρ2 => ∃ (y z : D) (j : Nat), es = [y] ∧ flatD y = true ∧ ds.all flatD = true ∧ ds[j]? = some z ∧ eqFl z y = true ∧ (∀ (m : Nat) (z' : D), m < j → ds[m]? = some z' → eqFl z' y = false) ∧ C (.int (j : Nat)) ρ2)))
    (hbase : attributeBase a "index" X.env (eval a X.env) = eval a X.env := by rfl)
    (hfew : ((backTo p3 (starEach [e] X.env)).all (fun x => !x.1) && (backToKw p3 (keywordEach [] X.env)).all (fun x => x.1.isSome)
      && decide (([e] : List Expr).length + ([] : List Keyword).length + (if ([] : List Keyword).isEmpty then 0 else 1) < 30)) = true := by rfl)
    (hline : (p2.endLine == p3.line) = true := by rfl) (hst : starEach [e] X.env = (false, eval e X.env) :: starEach [] X.env := by rfl) (hplain : (backTo p3 (starEach [] X.env)).any (·.1) = false := by rfl) :
    DE X T A ρ (.Call (.Attribute a "index" p2) [e] [] p3) C :=
  DE.of (pe_bm F.plainAttrs_list F.slot_list_index F.type_list_index mt_index (pe_go (T := T) (A := A)) (pa_go (T := T) (A := A)) hbase hfew hline hst hplain) fun σ H Q F ok q => by
    refine ⟨ρ, _, h, F, ok, fun d ρ1 ⟨ds, e1, h1⟩ v F1 H1 s1 w1 ok1 r1 => ?_⟩
    obtain ⟨ad, xs, rfl, hs, t⟩ := seqL_of ok1.sub r1 e1
    refine ⟨?_, ρ1, _, h1, F1, ok1, fun es ρ2 ⟨y, z, j, e2, fy, fds, hz, hzy, hno, c⟩ us F2 H2 s2 w2 ok2 r2 => ?_⟩
    · exact .inl ⟨rfl, _, hs⟩
    · subst e2
      obtain ⟨u, rfl, ru⟩ := r2.one
      obtain ⟨ad', xs', ea, hs', t'⟩ := seqL_of ok2.sub (r1.mo s2) e1
      cases ea
      obtain ⟨zv, ez, rz⟩ := t'.get hz
      rw [← w2] at t' rz
      refine ⟨ad, xs', u, j, zv, rfl, rfl, hs', flat_R ru fy, flats_R t' fds, ez, ?_, fun m z' hm em => ?_, q _ _ c _ F2 H2 (s1.trans s2) (w2.trans w1) ok2 (.int _)⟩
      · rw [eqFl_R rz ru (List.all_eq_true.mp fds z (List.mem_of_getElem? hz)) fy]; exact hzy
      · have hl : m < ds.length := by
          have := (List.getElem?_eq_some_iff.mp em).1
          rw [t'.len] at this
          exact this
        obtain ⟨zv2, ez2, rz2⟩ := t'.get (List.getElem?_eq_getElem hl)
        rw [em] at ez2
        cases ez2
        rw [eqFl_R rz2 ru (List.all_eq_true.mp fds _ (List.getElem_mem hl)) fy]
        exact hno m _ hm (List.getElem?_eq_getElem hl)
/-- e.append(f), e a list that nobody has -/
theorem ds_appNew (h : DV X T A ρ a (fun r ρ1 => ∃ ad ds, r = .l ad ds ∧ DE X T A (held r ρ1) e (fun d ρ2 => ∃ ρ3, ρ2 = held r ρ3 ∧ ρ3.ws = ρ1.ws ∧ ds.length < sizeLine ∧ O.nx ρ3)))
    (hbase : attributeBase a "append" X.env (eval a X.env) = eval a X.env := by rfl)
    (hfew : ((backTo p3 (starEach [e] X.env)).all (fun x => !x.1) && (backToKw p3 (keywordEach [] X.env)).all (fun x => x.1.isSome)
      && decide (([e] : List Expr).length + ([] : List Keyword).length + (if ([] : List Keyword).isEmpty then 0 else 1) < 30)) = true := by rfl)
    (hline : (p2.endLine == p3.line) = true := by rfl) (hst : starEach [e] X.env = (false, eval e X.env) :: starEach [] X.env := by rfl) (hplain : (backTo p3 (starEach [] X.env)).any (·.1) = false := by rfl)
    (hs : swapsWith (.Call (.Attribute a "append" p2) [e] [] p3) none pos.line X.env = pure false := by rfl) :
    DS X T A ρ (.Expr (.Call (.Attribute a "append" p2) [e] [] p3) pos) O :=
  DS.of (ps_expr (pe_bm F.plainAttrs_list F.slot_list_append F.type_list_append mt_append (pv_go (T := T) (A := A)) (pa_cons pe_go pa_nil hst) hbase hfew hline hst hplain) hs) fun E σ H ⟨F, ok, hn, _⟩ => by
    refine ⟨ρ, _, h, F, ok, fun r ρ1 ⟨ad, ds, er, h1⟩ v F1 H1 s1 w1 ok1 g1 => ?_⟩
    subst er
    obtain ⟨rfl, k1, k2, k3, ⟨o, k4, k5⟩, k6⟩ := id g1
    obtain ⟨xs, rfl, k7⟩ := k5.list
    refine ⟨.inl ⟨rfl, _, .of k4⟩, held (.l ad ds) ρ1, _, h1, F1, ok1.held g1, fun d ρ2 ⟨ρ3, e2, w3, hz, c⟩ u F2 H2 s2 w2 ok2 r2 => ?_⟩
    subst e2
    obtain ⟨sl, hid, ws, gg⟩ := ρ3
    obtain ⟨m1, m2, m3, vs, m4, m5⟩ := ok2.owns (.inr 0) ad (.lst ds) rfl
    obtain ⟨ys, rfl, m7⟩ := m5.list
    have ok3 := ok2.hidApp m4 r2
    obtain ⟨ok4, _⟩ := ok3.unhide
    exact ⟨ad, ys, u, rfl, rfl, m4, by rw [m7.len]; exact hz, hn _ c σ F2 _ (s1.trans s2) (by rw [show (⟨sl, hid, ws, gg⟩ : Ev).ws = ws from rfl]; rw [show ws = ρ1.ws from w3]; exact mem_eq w1) ok4⟩
/-- x += e, x a plain name with a whole number -/
theorem ds_augI {pos' : Pos} (hN : X.N.Nodup) (h : ∃ k : Int, ρ.sl[i]? = some (.dat (.int k)) ∧ DE X T A ρ e (fun d ρ1 => ∃ j : Int, d = .int j ∧ O.nx (ρ1.put i (.dat (.int (k + j)))))) (hi : slotOf X.N x = some i := by rfl) (hx : Loc X.env.scope x := by first | exact Or.inl rfl | exact Or.inr rfl)
    (hf : X.fn x = true ∨ X.env.scope.names.lookup x = some .local := by first | exact .inl rfl | exact .inr rfl | assumption) : DS X T A ρ (.AugAssign (.Name x pos') .Add e pos) O :=
  DS.of (ps_aug hN (slotOf_ok hi) hx (pe_go (T := T) (A := A)) ip_add hf) fun E σ H ⟨F, ok, hn, _⟩ => by
    obtain ⟨k, e0, h⟩ := h
    obtain ⟨v, e1, r⟩ := ok.slots i _ e0
    cases r
    refine ⟨_, e1, ρ, _, h, F, ok, fun d ρ1 ⟨j, ed, c⟩ y F1 H1 s1 w1 ok1 r1 => ?_⟩
    subst ed
    cases r1
    exact ⟨k, j, rfl, rfl, hn _ c _ F1 H1 s1 (mem_eq w1) (ok1.put (r := .v (.int (k + j))) (show R X.K F1 ρ1.ws (.int (k + j)) (.int (k + j)) from .int _))⟩
end
end DL
end

section
/-! y = [.. for .. in ..], own lists only read. -/
namespace DL
open PySem PySem.Spec L2
section
variable {X : Cx} {T : List (Addr × Str)} {A : Anc} {ρ ρ' : Ev} {F F' H H' : Hp} {σ : L2.St} {C : CV} {O : DO}
theorem look_back {K : PySem.W.Frag} {r : RV} {v : V} (ok : Ok K T A F H σ ρ) (c : lookV C ρ r ρ') (w' : ρ'.ws = ρ.ws) (ok' : Ok K T ⟨lentF F H ρ, H, ρ.ws⟩ F' H' σ ρ') (g' : Gv K ⟨lentF F H ρ, H, ρ.ws⟩ F' H' ρ' v r) :
    C r (ρ.gas ρ'.g) ∧ Ok K T A F H' σ (ρ.gas ρ'.g) ∧ Gv K A F H' (ρ.gas ρ'.g) v r := by
  have ok2 := ok.regain ok' w'
  cases r with
  | v d =>
    obtain ⟨hg, c⟩ := c
    have g2 : R K F' ρ'.ws v d := g'
    rw [w'] at g2
    exact ⟨c, ok2, g2.ground hg⟩
  | l a ds =>
    obtain ⟨hg, c⟩ := c
    obtain ⟨e1, e2, e3, e4, ⟨o, e5, e6⟩, _⟩ := g'
    obtain ⟨vs, rfl, e7⟩ := e6.list
    rw [w'] at e3 e7
    have e4 : H a = none := e4
    have fn : F a = none := by
      cases z : F a with
      | none => rfl
      | some o =>
        rw [ok.sub _ _ z] at e4
        cases e4
    refine ⟨c, ok2, e1, fn, e3, ok.anone e4, ⟨_, e5, .lst (e7.ground hg)⟩, fun p ds' z => ?_⟩
    obtain ⟨_, _, _, us, z2, _⟩ := ok.owns p a ds' z
    rw [e4] at z2
    cases z2
  | b a cc => exact c.elim
theorem ds_setLcLook {own : List (Str × Nat)} {y : Str} {py spos pos : Pos} {i : Nat} {elt tg iter : Expr} {ifs : List Expr} {scope : Scope} (hc : X.calm = true) (hN : X.N.Nodup) (ok : BlkOk X.N X.env.scope scope own) (hyl : X.env.scope.names.lookup y = some .local)
    (hsw : swapsWith (.ListComp elt [⟨tg, iter, ifs, 0⟩] scope pos) (some (.Name y py)) spos.line X.env = pure true)
    (h : ∀ An : Anc, An.ws = ρ.ws → DI X T An (lookE ρ) tg iter (fun ds ρ1 => LcD X T An scope own tg elt ifs (lookV (fun r ρ2 => O.nx (ρ2.put i (.of r))) ρ) ds ρ1)) (hi : slotOf X.N y = some i := by rfl)
    (hs : ∀ x, foldedSetIterable iter X.env x = pure x := by intro _; rfl) : DS X T A ρ (.Assign [.Name y py] (.ListComp elt [⟨tg, iter, ifs, 0⟩] scope pos) spos) O :=
  ⟨⟨fun pins s σ H E I ⟨F, ok0, hn, _⟩ => by
    refine (ps_setLc (g := goGB X T ⟨lentF F H ρ, H, ρ.ws⟩ scope tg) (tt := goTB X T ⟨lentF F H ρ, H, ρ.ws⟩ scope ifs) (te := goEB X T ⟨lentF F H ρ, H, ρ.ws⟩ scope elt) hc hN (slotOf_ok hi) hyl hsw (pi_go (T := T) (A := ⟨lentF F H ρ, H, ρ.ws⟩)) ok
      (fun s H Cc cl fp => ⟨fun pins s' σ H' v u Q I r ⟨_, _, _, _, h, q⟩ => (h s H Cc cl fp).pe.run pins s' σ H' v u Q I r q⟩)
      (fun s H Cc cl fp => ⟨fun pins s' σ H' Q I ⟨_, _, h, q⟩ => (h s H Cc cl fp).pe.run pins s' σ H' Q I q⟩)
      (fun s H Cc cl fp => ⟨fun pins s' σ H' Q I ⟨_, _, h, q⟩ => (h s H Cc cl fp).pe.run pins s' σ H' Q I q⟩) hs).run pins s σ H E I ?_
    have := lc_read (h ⟨lentF F H ρ, H, ρ.ws⟩ rfl) σ H (fun v H' => E.nx (σ.set i (some v)) H') (lentF F H ρ) ok0.lend fun r ρ' c v F' H' s' w' ok' gv => by
      obtain ⟨c2, ok2, g2⟩ := look_back ok0 c w' ok' gv
      exact hn _ c2 _ F H' (Same.refl _) (mem_eq rfl) (ok2.put g2)
    exact this⟩⟩
/-- a + b, a new list -/
theorem dv_cat {a b : Expr} {pos : Pos} (h : DE X T A ρ a (fun d1 ρ1 => DE X T A ρ1 b (fun d2 ρ2 => ∃ xs ys, d1 = .lst xs ∧ d2 = .lst ys ∧ xs.length + ys.length ≤ sizeLine ∧ ∀ p, C (.l p (xs ++ ys)) ρ2))) : DV X T A ρ (.BinOp a .Add b pos) C :=
  DV.of (pe_op op_cat (pe_go (T := T) (A := A)) (pe_go (T := T) (A := A))) fun σ H Q F ok q => by
    refine ⟨ρ, _, h, F, ok, fun d1 ρ1 h1 v1 F1 H1 s1 w1 ok1 r1 => ?_⟩
    refine ⟨ρ1, _, h1, F1, ok1, fun d2 ρ2 ⟨xs, ys, e1, e2, hz, c⟩ v2 F2 H2 s2 w2 ok2 r2 => ?_⟩
    subst e1
    subst e2
    cases r1 with
    | lst k1 t1 =>
      cases r2 with
      | lst k2 t2 =>
        refine ⟨_, _, _, _, rfl, rfl, ok2.sub _ _ (s2 _ _ k1), ok2.sub _ _ k2, by rw [t1.len, t2.len]; exact hz, fun p hp => ?_⟩
        obtain ⟨ok3, g3⟩ := ok2.mine hp (((by rw [w2]; exact t1.mo s2 : Rs X.K F2 ρ2.ws _ _)).app t2)
        exact q _ _ (c p) _ F2 _ (s1.trans s2) (w2.trans w1) ok3 g3
end
end DL
end

set_option hygiene false
local macro_rules | `(tactic| walk_at "n") => `(tactic| try dsimp only [nameD, addD, subD, mulD, ltD, leD, gtD, geD, isD, isntD, negD, fdivD, modD, powD, asB, isN, andD, orD, notD, RV.toD, Sl.of, absD, intD, boolD, maxD, minD, tupD, lstD, sumD, allD, anyD, isD1, isDs, truD, bodyO, excO, outD, partD, rng1D, rng2D, chD, chE, strmD, stGo, ownAt, tupG, List.getElem?_cons_zero, List.getElem?_cons_succ, List.set_cons_zero, List.set_cons_succ])
local macro_rules | `(tactic| walk_at "e1") => `(tactic| first
  | refine de_name ?_ | refine de_int ?_ | refine de_str ?_ | refine de_bl ?_ | refine de_non ?_
  | refine de_add ?_ | refine de_sub ?_ | refine de_mul ?_ | refine de_fdiv ?_ | refine de_mod ?_ | refine de_pow ?_ | refine de_neg ?_
  | refine de_lt ?_ | refine de_le ?_ | refine de_gt ?_ | refine de_ge ?_ | refine de_is ?_ | refine de_isnt ?_ | refine de_eq hr.units ?_ | refine de_ne hr.units ?_
  | refine de_chain op_le op_le ?_ | refine de_chain op_le op_lt ?_ | refine de_chain op_lt op_le ?_ | refine de_chain op_lt op_lt ?_
  | refine de_and ?_ | refine de_or ?_ | refine de_one ?_ | refine de_not ?_ | refine de_if ?_
  | refine de_isi bt_int B.isinstance B.int ?_ | refine de_isi bt_bool B.isinstance B.bool ?_ | refine de_isi bt_str B.isinstance B.str ?_ | refine de_isi bt_list B.isinstance B.list ?_ | refine de_isi bt_tuple B.isinstance B.tuple ?_ | refine de_isi bt_dict B.isinstance B.dict ?_
  | refine de_dict0 ?_ | refine de_tup ?_ | refine de_ix ?_)
local macro_rules | `(tactic| walk_at "es") => `(tactic| first
  | refine de_name ?_ | refine de_int ?_ | refine de_str ?_ | refine de_bl ?_ | refine de_non ?_
  | refine de_add ?_ | refine de_sub ?_ | refine de_mul ?_ | refine de_fdiv ?_ | refine de_mod ?_ | refine de_pow ?_ | refine de_neg ?_
  | refine de_lt ?_ | refine de_le ?_ | refine de_gt ?_ | refine de_ge ?_ | refine de_is ?_ | refine de_isnt ?_ | refine de_eq hr.units ?_ | refine de_ne hr.units ?_
  | refine de_chain op_le op_le ?_ | refine de_chain op_le op_lt ?_ | refine de_chain op_lt op_le ?_ | refine de_chain op_lt op_lt ?_
  | refine de_and ?_ | refine de_or ?_ | refine de_one ?_ | refine de_not ?_ | refine de_if ?_
  | refine de_isi bt_int B.isinstance B.int ?_ | refine de_isi bt_bool B.isinstance B.bool ?_ | refine de_isi bt_str B.isinstance B.str ?_ | refine de_isi bt_list B.isinstance B.list ?_ | refine de_isi bt_tuple B.isinstance B.tuple ?_ | refine de_isi bt_dict B.isinstance B.dict ?_
  | refine de_dict0 ?_ | refine de_tup ?_ | refine de_strm ?_)
local macro_rules | `(tactic| walk_at "t1") => `(tactic| first
  | refine dt_not ?_ | refine dt_lt ?_ | refine dt_le ?_ | refine dt_gt ?_ | refine dt_ge ?_ | refine dt_is ?_ | refine dt_isnt ?_ | refine dt_eq hr.units ?_ | refine dt_ne hr.units ?_
  | refine dt_chain op_le op_le ?_ | refine dt_chain op_le op_lt ?_ | refine dt_chain op_lt op_le ?_ | refine dt_chain op_lt op_lt ?_
  | refine dt_bool ?_ | refine dw_and1 ?_ | refine dw_or1 ?_ | refine dw_and ?_ | refine dw_or ?_ | refine dt_tru ?_)
local macro_rules | `(tactic| walk_at "v1") => `(tactic| first
  | refine dv_list ?_ | refine dv_if ?_ | refine dv_slice ?_
  | refine dv_len B.len ?_ | refine dv_abs B.abs ?_ | refine dv_int B.int ?_ | refine dv_bool B.bool ?_ | refine dv_max rfl B.max ?_ | refine dv_min rfl B.min ?_ | refine dv_sum rfl B.sum ?_ | refine dv_all rfl B.all ?_ | refine dv_any rfl B.any ?_ | refine dv_tuple B.tuple ?_ | refine dv_lst B.list ?_
  | refine dv_call (by assumption) (hr.mono (by decide)) tk ?_ | refine dv_call (by assumption) (hr.mono (by decide)) tkF ?_)
local macro_rules | `(tactic| walk_at "s1") => `(tactic| first
  | refine dss_nil ?_ | refine dss_cons ?_ | refine ds_ret ?_ | refine ds_if ?_ | refine ds_set nd ?_ | refine ds_retN ?_ | refine ds_pass ?_ | refine ds_break ?_ | refine ds_continue ?_ | refine da_nil ?_ | refine da_cons ?_ | refine dts_nil ?_ | refine dts_one ?_ | refine dp_none ?_ | refine dp_some ?_)
local macro_rules | `(tactic| walk_at "go") => `(tactic| repeat (first | walk_at "s1" | walk_at "v1" | walk_at "e1" | walk_at "t1" | (refine de_dv ?_; walk_at "v1") | (refine dv_de ?_; walk_at "e1")); walk_at "n")
local macro_rules | `(tactic| walk_at "gs") => `(tactic| repeat (first | walk_at "s1" | walk_at "v1" | walk_at "es" | walk_at "t1" | (refine de_dv ?_; walk_at "v1") | (refine dv_de ?_; walk_at "es")); walk_at "n")
local macro_rules | `(tactic| walk_at "g1") => `(tactic| first | refine dg_tup rfl (And.intro (by rfl) ?_) | refine dgs_cons ?_ | refine dgs_nil ?_ | refine dg_nm nd ?_)
local macro_rules | `(tactic| walk_at "gg") => `(tactic| (repeat (first | refine dg_tup rfl (And.intro (by rfl) ?_) | refine dgs_cons ?_ | refine dgs_nil ?_ | refine dg_nm nd ?_)); walk_at "n")
local macro_rules | `(tactic| walk_at "blk") => `(tactic| intro s1 H1 Cc cl fp)

section
open PySem L2 DL
namespace K68
abbrev topS (i : Nat) : Stmt := PySem.Challenge.pw_oldaddress_k68_whole_late_begins.main.body.getD i (.Pass ⟨0, 0, 0, 0⟩)
abbrev s_is_list : Stmt := topS 1
theorem sc_is_list : FnScope ["thing"] ["thing"] (defScope s_is_list) := ⟨rfl, rfl, rfl, by decide +kernel, rfl, by decide +kernel, by decide +kernel⟩
abbrev s_is_whole : Stmt := topS 2
theorem sc_is_whole : FnScope ["thing"] ["thing"] (defScope s_is_whole) := ⟨rfl, rfl, rfl, by decide +kernel, rfl, by decide +kernel, by decide +kernel⟩
abbrev s_is_number : Stmt := topS 3
theorem sc_is_number : FnScope ["thing"] ["thing"] (defScope s_is_number) := ⟨rfl, rfl, rfl, by decide +kernel, rfl, by decide +kernel, by decide +kernel⟩
abbrev s_is_positive : Stmt := topS 4
theorem sc_is_positive : FnScope ["thing"] ["thing"] (defScope s_is_positive) := ⟨rfl, rfl, rfl, by decide +kernel, rfl, by decide +kernel, by decide +kernel⟩
abbrev s_first_odd : Stmt := topS 5
theorem sc_first_odd : FnScope ["things", "is_right", "index", "thing", "odd"] ["things", "is_right"] (defScope s_first_odd) := ⟨rfl, rfl, rfl, by decide +kernel, rfl, by decide +kernel, by decide +kernel⟩
abbrev s_is_stay : Stmt := topS 14
theorem sc_is_stay : FnScope ["thing", "part"] ["thing"] (defScope s_is_stay) := ⟨rfl, rfl, rfl, by decide +kernel, rfl, by decide +kernel, by decide +kernel⟩
abbrev s_checked_stays : Stmt := topS 15
theorem sc_checked_stays : FnScope ["stays", "odd", "stay"] ["stays"] (defScope s_checked_stays) := ⟨rfl, rfl, rfl, by decide +kernel, rfl, by decide +kernel, by decide +kernel⟩
abbrev s_in_order : Stmt := topS 16
theorem sc_in_order : FnScope ["stays"] ["stays"] (defScope s_in_order) := ⟨rfl, rfl, rfl, by decide +kernel, rfl, by decide +kernel, by decide +kernel⟩
abbrev s_check_some : Stmt := topS 18
theorem sc_check_some : FnScope ["many"] ["many"] (defScope s_check_some) := ⟨rfl, rfl, rfl, by decide +kernel, rfl, by decide +kernel, by decide +kernel⟩
abbrev s_begun : Stmt := topS 19
theorem sc_begun : FnScope ["stays", "many", "free", "last", "found", "index", "begin", "end", "life", "day", "number", "first"] ["stays", "many"] (defScope s_begun) := ⟨rfl, rfl, rfl, by decide +kernel, rfl, by decide +kernel, by decide +kernel⟩
abbrev s_late_begins : Stmt := topS 20
theorem sc_late_begins : FnScope ["stays", "many", "known", "day", "_"] ["stays", "many"] (defScope s_late_begins) := ⟨rfl, rfl, rfl, by decide +kernel, rfl, by decide +kernel, by decide +kernel⟩
abbrev s_most_late : Stmt := topS 21
theorem sc_most_late : FnScope ["stays", "many", "day", "_", "stay"] ["stays", "many"] (defScope s_most_late) := ⟨rfl, rfl, rfl, by decide +kernel, rfl, by decide +kernel, by decide +kernel⟩
abbrev s_latest : Stmt := topS 22
theorem sc_latest : FnScope ["stays", "many", "known"] ["stays", "many"] (defScope s_latest) := ⟨rfl, rfl, rfl, by decide +kernel, rfl, by decide +kernel, by decide +kernel⟩
abbrev s_in_the_way : Stmt := topS 23
theorem sc_in_the_way : FnScope ["stays", "many", "index", "known", "days", "found"] ["stays", "many", "index"] (defScope s_in_the_way) := ⟨rfl, rfl, rfl, by decide +kernel, rfl, by decide +kernel, by decide +kernel⟩
abbrev s_addresses_for : Stmt := topS 24
theorem sc_addresses_for : FnScope ["stays", "late", "known", "many"] ["stays", "late"] (defScope s_addresses_for) := ⟨rfl, rfl, rfl, by decide +kernel, rfl, by decide +kernel, by decide +kernel⟩
abbrev s__law_stream : Stmt := topS 26
theorem sc__law_stream : FnScope ["script", "k", "cell", "at", "one", "mixed"] ["script", "k"] (defScope s__law_stream) := ⟨rfl, rfl, rfl, by decide +kernel, rfl, by decide +kernel, by decide +kernel⟩
abbrev s__law_draw : Stmt := topS 27
theorem sc__law_draw : FnScope ["stream", "many", "digit", "spread"] ["stream", "many"] (defScope s__law_draw) := ⟨rfl, rfl, rfl, by decide +kernel, rfl, by decide +kernel, by decide +kernel⟩
abbrev s__law_pick : Stmt := topS 28
theorem sc__law_pick : FnScope ["stream", "things"] ["stream", "things"] (defScope s__law_pick) := ⟨rfl, rfl, rfl, by decide +kernel, rfl, by decide +kernel, by decide +kernel⟩
abbrev s__law_same : Stmt := topS 29
theorem sc__law_same : FnScope ["found", "due", "one", "other", "key"] ["found", "due"] (defScope s__law_same) := ⟨rfl, rfl, rfl, by decide +kernel, rfl, by decide +kernel, by decide +kernel⟩
abbrev s__law_as_lists : Stmt := topS 30
theorem sc__law_as_lists : FnScope ["stream", "thing", "part", "found"] ["stream", "thing"] (defScope s__law_as_lists) := ⟨rfl, rfl, rfl, by decide +kernel, rfl, by decide +kernel, by decide +kernel⟩
abbrev s__law_stays : Stmt := topS 31
theorem sc__law_stays : FnScope ["stream", "most", "many", "span", "scale", "found", "k", "begin", "end"] ["stream", "most"] (defScope s__law_stays) := ⟨rfl, rfl, rfl, by decide +kernel, rfl, by decide +kernel, by decide +kernel⟩
abbrev s__law_odd_stay : Stmt := topS 32
theorem sc__law_odd_stay : FnScope ["stream", "odds"] ["stream"] (defScope s__law_odd_stay) := ⟨rfl, rfl, rfl, by decide +kernel, rfl, by decide +kernel, by decide +kernel⟩
abbrev s__law_order : Stmt := topS 33
theorem sc__law_order : FnScope ["stays"] ["stays"] (defScope s__law_order) := ⟨rfl, rfl, rfl, by decide +kernel, rfl, by decide +kernel, by decide +kernel⟩
abbrev s__law_late : Stmt := topS 34
theorem sc__law_late : FnScope ["stays", "many", "found", "bound", "at", "begin", "end", "life", "last", "days", "address"] ["stays", "many"] (defScope s__law_late) := ⟨rfl, rfl, rfl, by decide +kernel, rfl, by decide +kernel, by decide +kernel⟩
abbrev s__law_chain : Stmt := topS 35
theorem sc__law_chain : FnScope ["stays", "late", "index", "found", "day", "address", "at", "ahead"] ["stays", "late", "index"] (defScope s__law_chain) := ⟨rfl, rfl, rfl, by decide +kernel, rfl, by decide +kernel, by decide +kernel⟩
abbrev s__law_worst : Stmt := topS 36
theorem sc__law_worst : FnScope ["stays", "late", "pair", "stay"] ["stays", "late"] (defScope s__law_worst) := ⟨rfl, rfl, rfl, by decide +kernel, rfl, by decide +kernel, by decide +kernel⟩
abbrev s__law_met : Stmt := topS 37
theorem sc__law_met : FnScope ["ask", "e"] ["ask"] (defScope s__law_met) := ⟨rfl, rfl, rfl, by decide +kernel, rfl, by decide +kernel, by decide +kernel⟩
abbrev s__law_refused_right : Stmt := topS 38
theorem sc__law_refused_right : FnScope ["stream", "stays", "at", "found", "due", "ask", "odd", "wrong"] ["stream", "stays"] (defScope s__law_refused_right) := ⟨rfl, rfl, rfl, by decide +kernel, rfl, by decide +kernel, by decide +kernel⟩
abbrev s_law : Stmt := topS 39
theorem sc_law : FnScope ["script", "turn", "stream", "stays", "handed", "before", "worst", "many", "late", "pair", "due", "told", "one", "other", "index", "days"] ["script"] (defScope s_law) := ⟨rfl, rfl, rfl, by decide +kernel, rfl, by decide +kernel, by decide +kernel⟩
end K68
end

section
namespace DL
open PySem L2
theorem tkF {X : Cx} {T : List (Addr × Str)} {A : Anc} : Takes X (WD X.K T A fun _ _ _ => False) := L2.takes0.imp fun c d σ H ⟨_, _, _, _, _, _, _, _, _, _, _, z⟩ => z
theorem lenD_seq {d : D} {ds : List D} {C : CV} {ρ : Ev} (e : seqD d = some ds) (h : C (.v (.int (ds.length : Nat))) ρ) : lenD [d] C ρ := by
  cases d <;> first | (cases e; exact ⟨_, rfl, h⟩) | (cases e; exact h) | (cases e; done)
theorem ixD_seq {d e : D} {ds : List D} {j : Nat} {i : Int} {C : CD} {ρ : Ev} (e1 : seqD d = some ds) (hj : ds[j]? = some e) (hi : i = (j : Nat)) (h : C e ρ) : ixD d (.int i) C ρ := by
  subst hi
  cases d <;> first | (cases e1; exact ⟨_, e, rfl, atI_nat hj, h⟩) | (cases e1; done)
theorem eqP_int {i j : Int} : eqP (.int i) (.int j) = some (i == j) := rfl
/-! ### plain words of the stays -/
mutual
def wt : D → Bool
  | .lst ds => wts ds
  | .kl ds => wts ds
  | .tup ds => wts ds
  | .dK _ => true
  | d => (tyN d).isSome
def wts : List D → Bool
  | [] => true
  | d :: ds => wt d && wts ds
end
theorem wts_mem : ∀ {ds : List D}, wts ds = true → ∀ d ∈ ds, wt d = true
  | d :: ds, h, e, m => by
    unfold wts at h
    obtain ⟨h1, h2⟩ := Bool.and_eq_true_iff.mp h
    rcases List.mem_cons.mp m with rfl | m
    · exact h1
    · exact wts_mem h2 e m
def Typed (d : D) : Prop := (tyN d).isSome = true
theorem wt_typed {d : D} (h : wt d = true) : Typed d := by
  cases d <;> first | rfl | (unfold wt at h; exact h)
def isList : D → Bool
  | .lst _ => true
  | .kl _ => true
  | .tup _ => true
  | _ => false
def isWhole : D → Bool
  | .int _ => true
  | _ => false
def isNum : D → Bool
  | .int i => decide (0 ≤ i)
  | _ => false
def items : D → List D
  | .lst ds => ds
  | .kl ds => ds
  | .tup ds => ds
  | _ => []
theorem isList_seq {d : D} (h : isList d = true) : seqD d = some (items d) := by
  cases d <;> first | rfl | (cases h)
theorem wt_items {d : D} (h : wt d = true) : ∀ e ∈ items d, wt e = true := by
  cases d <;> first | (intro e m; cases m; done) | (unfold wt at h; exact wts_mem h)
def isStay (d : D) : Bool := match items d with
  | [.int b, .int e, .int l] => decide (0 ≤ b) && decide (0 ≤ e) && decide (0 ≤ l) && decide (b ≤ e)
  | _ => false
def pred (p : D → Bool) : DF := fun ds g C => ∃ d, ds = [d] ∧ wt d = true ∧ C (.ret (.bl (p d)) g)
theorem pred_len {p : D → Bool} (ds : List D) (g : Nat) (C : Out → Prop) (h : pred p ds g C) : ds.length = 1 := by
  obtain ⟨d, rfl, _⟩ := h
  rfl
/-- the first thing that is not right -/
def firstOdd (p : D → Bool) (es : List D) : Option Nat := es.findIdx? fun e => !p e
def natD : Option Nat → D
  | none => .non
  | some i => .int (i : Nat)
def oddFn (p : D → Bool) : D → List D := fun x => match x with
  | .tup [.int j, y] => if p y then [] else [.int j]
  | _ => []
theorem odd_none {p : D → Bool} : ∀ {es : List D} (k : Nat), firstOdd p es = none → (enumOf k es).flatMap (oddFn p) = []
  | [], k, _ => rfl
  | e :: es, k, h => by
    unfold firstOdd at h
    rw [List.findIdx?_cons] at h
    cases hp : p e with
    | false => rw [hp] at h; simp at h
    | true =>
      rw [hp] at h
      have h2 : firstOdd p es = none := by simpa [firstOdd] using h
      rw [enumOf, List.flatMap_cons, odd_none (k + 1) h2]
      simp [oddFn, hp]
theorem odd_some {p : D → Bool} : ∀ {es : List D} {j : Nat} (k : Nat), firstOdd p es = some j → ∃ r, (enumOf k es).flatMap (oddFn p) = .int ((k + j : Nat) : Int) :: r
  | [], j, k, h => by cases h
  | e :: es, j, k, h => by
    unfold firstOdd at h
    rw [List.findIdx?_cons] at h
    cases hp : p e with
    | false =>
      rw [hp] at h
      have h2 : j = 0 := by simpa using h.symm
      subst h2
      rw [enumOf, List.flatMap_cons]
      exact ⟨(enumOf (k + 1) es).flatMap (oddFn p), by simp [oddFn, hp]⟩
    | true =>
      rw [hp] at h
      obtain ⟨i, h2, rfl⟩ : ∃ i, firstOdd p es = some i ∧ j = i + 1 := by
        have h3 : (firstOdd p es).map (· + 1) = some j := by simpa [firstOdd] using h
        obtain ⟨i, e1, e2⟩ := Option.map_eq_some_iff.mp h3
        exact ⟨i, e1, e2.symm⟩
      obtain ⟨r, e2⟩ := odd_some (k + 1) h2
      refine ⟨r, ?_⟩
      rw [enumOf, List.flatMap_cons, e2]
      simp only [oddFn, hp, if_true, List.nil_append]
      rw [show k + 1 + i = k + (i + 1) by omega]
def oddOf (p : D → Bool) (d : D) : D := if isList d then natD (firstOdd p (items d)) else .int 0
end DL
open PySem L2 DL
namespace K68
section
variable {P : Program} {w : World} {K : PySem.W.Frag} {mg : Str → Option Value} {base : Heap} {T : List (Addr × Str)}
theorem ok_is_list (B : Bi mg) {f : Addr} {fd : FuncData} (F : Fun K "is_list" "is_list" s_is_list f fd) : FnOk P w K mg base (L2.CX P w) 1 f fd ["thing"] (spD K T (pred isList)) := by
  refine okD F sc_is_list pred_len (fun cdv A outer s H E An ds g C hr tk h => ?_)
  obtain ⟨d, rfl, ty, h⟩ := h
  replace ty := wt_typed ty
  show DSs _ T An ⟨[.dat d], [], An.ws, g⟩ _ _
  walk_at "go"
  refine dv_de (de_isis B.isinstance (.cons rfl B.list bt_list (by decide) (by decide) rfl (.cons rfl B.tuple bt_tuple (by decide) (by decide) rfl .nil)) (by decide) (by simp) ?_)
  walk_at "go"
  have e : isTys d ["list", "tuple"] = some (isList d) := by
    cases d <;> first | rfl | (cases ty)
  exact ⟨_, e, .inl rfl, h⟩
theorem ok_is_whole (B : Bi mg) {f : Addr} {fd : FuncData} (F : Fun K "is_whole" "is_whole" s_is_whole f fd) : FnOk P w K mg base (L2.CX P w) 1 f fd ["thing"] (spD K T (pred isWhole)) := by
  refine okD F sc_is_whole pred_len (fun cdv A outer s H E An ds g C hr tk h => ?_)
  obtain ⟨d, rfl, ty, h⟩ := h
  replace ty := wt_typed ty
  show DSs _ T An ⟨[.dat d], [], An.ws, g⟩ _ _
  walk_at "go"
  have e1 : ∃ b1 b2, isTy d "int" = some b1 ∧ isTy d "bool" = some b2 ∧ (b1 && !b2) = isWhole d := by
    cases d <;> first | exact ⟨_, _, rfl, rfl, rfl⟩ | (cases ty)
  obtain ⟨b1, b2, e1, e2, e3⟩ := e1
  refine ⟨b1, e1, fun e => ?_, fun e => ?_⟩
  · walk_at "go"
    exact ⟨b2, e2, .inl rfl, by subst e; rw [← e3] at h; exact h⟩
  · subst e
    rw [← e3] at h
    exact ⟨.inl rfl, h⟩
theorem ok_is_number (B : Bi mg) {f : Addr} {fd : FuncData} (F : Fun K "is_number" "is_number" s_is_number f fd) (h1 : Kn P w K mg base T "is_whole" 1 (pred isWhole)) : FnOk P w K mg base (L2.CX P w) 2 f fd ["thing"] (spD K T (pred isNum)) := by
  refine okD F sc_is_number pred_len (fun cdv A outer s H E An ds g C hr tk h => ?_)
  obtain ⟨d, rfl, ty, h⟩ := h
  show DSs _ T An ⟨[.dat d], [], An.ws, g⟩ _ _
  walk_at "go"
  refine ⟨_, rfl, ty, fun e => ?_, fun e => ?_⟩
  · cases d <;> first | (cases e; done) | skip
    walk_at "go"
    exact ⟨.inl rfl, h⟩
  · refine ⟨.inl rfl, ?_⟩
    have e2 : isNum d = false := by
      cases d <;> first | rfl | (cases e)
    rw [← e2]
    exact h
/-- first_odd(things, f), f's promise pred p -/
def fod (P : Program) (w : World) (K : PySem.W.Frag) (mg : Str → Option Value) (base : Heap) (T : List (Addr × Str)) (k : Nat) : DF := fun ds g C => ∃ d f p, ds = [d, .fn f] ∧ KnA P w K mg base T f k (pred p) ∧ wt d = true ∧ (items d).length < sizeLine ∧ C (.ret (oddOf p d) g)
theorem ok_first_odd (B : Bi mg) {f : Addr} {fd : FuncData} (F : Fun K "first_odd" "first_odd" s_first_odd f fd) (h1 : Kn P w K mg base T "is_list" 1 (pred isList)) : FnOk P w K mg base (L2.CX P w) 5 f fd ["things", "is_right"] (spD K T (fod P w K mg base T 3)) := by
  refine okD F sc_first_odd (fun ds g C h => by obtain ⟨d, f, p, rfl, _⟩ := h; rfl) (fun cdv A outer s H E An ds g C hr tk h => ?_)
  obtain ⟨d, ff, p, rfl, kn, ty, hz, h⟩ := h
  have nd := sc_first_odd.nd
  show DSs _ T An ⟨[.dat d, .dat (.fn ff), .non, .non, .non], [], An.ws, g⟩ _ _
  walk_at "go"
  refine ⟨d, rfl, ty, _, rfl, fun e => ?_, fun e => ?_⟩
  · walk_at "go"
    have e1 : isList d = false := by simpa using e
    refine ⟨.inl rfl, ?_⟩
    unfold oddOf at h
    rw [e1] at h
    exact h
  · have e1 : isList d = true := by simpa using e
    walk_at "go"
    refine ds_setLc rfl nd (blkOk_by (own := [("index", 2), ("thing", 3)]) (by kernel_rfl)) rfl rfl (di_enum B.enumerate ?_)
    walk_at "go"
    refine ⟨items d, isList_seq e1, ?_⟩
    refine lcd_fm (oddFn p) rfl (by rw [enumOf_len]; exact hz) (fun i x acc D0 ex => ?_) (fun a => ?_)
    · rw [enumOf_get] at ex
      obtain ⟨y, ey, rfl⟩ := Option.map_eq_some_iff.mp ex
      walk_at "blk"
      walk_at "gg"
      walk_at "blk"
      walk_at "go"
      refine de_dv ?_
      refine dv_callL kn ?_ (hr.mono (by decide)) tkF ?_
      · rfl
      walk_at "go"
      refine ⟨y, rfl, wt_items ty y (List.mem_of_getElem? ey), _, rfl, fun e => ?_, fun e => ?_⟩
      · walk_at "blk"
        walk_at "go"
        have e2 : p y = false := by simpa using e
        exact ⟨by simp [oddFn, e2], rfl, rfl, rfl⟩
      · have e2 : p y = true := by simpa using e
        exact ⟨by simp [oddFn, e2], rfl, rfl, rfl⟩
    · have eo : oddOf p d = natD (firstOdd p (items d)) := by unfold oddOf; rw [if_pos e1]
      rw [eo] at h
      walk_at "s1"
      walk_at "s1"
      refine dv_look fun An2 ew => ?_
      cases ho : firstOdd p (items d) with
      | none =>
        rw [odd_none 0 ho]
        rw [ho] at h
        refine dv_if (dt_tru (de_name ?_))
        refine ⟨_, rfl, fun z => (by cases z), fun _ => ?_⟩
        walk_at "go"
        exact ⟨rfl, .inl rfl, h⟩
      | some j =>
        obtain ⟨r, er⟩ := odd_some 0 ho
        rw [er]
        rw [ho] at h
        refine dv_if (dt_tru (de_name ?_))
        refine ⟨_, rfl, fun _ => ?_, fun z => (by cases z)⟩
        walk_at "go"
        refine ⟨_, _, rfl, atI_nat (j := 0) rfl, rfl, .inl rfl, ?_⟩
        rw [Nat.zero_add]
        exact h
end
end K68
end

section
open PySem L2 DL
namespace K68
section
variable {P : Program} {w : World} {K : PySem.W.Frag} {mg : Str → Option Value} {base : Heap} {T : List (Addr × Str)}
theorem nums_all {d : D} (hw : wt d = true) : ∃ bs : List Bool, (items d).flatMap (fun y => [D.bl (isNum y)]) = bs.map D.bl ∧ bs.all id = (items d).all isNum := by
  refine ⟨(items d).map isNum, ?_, ?_⟩
  · induction items d with
    | nil => rfl
    | cons x l ih => rw [List.flatMap_cons, ih]; rfl
  · rw [List.all_map]; rfl
theorem isStay_no {d : D} (h : (items d).length ≠ 3 ∨ (items d).all isNum = false) : isStay d = false := by
  unfold isStay
  split
  · rename_i b e l he
    rw [he] at h
    rcases h with h | h
    · exact absurd rfl h
    · simp only [List.all_cons, List.all_nil, Bool.and_true, isNum, Bool.and_eq_false_iff] at h
      rcases h with h | h | h <;> simp [h]
  · rfl
theorem isNum_int {d : D} (h : isNum d = true) : ∃ i : Int, d = .int i ∧ 0 ≤ i := by
  cases d with
  | int i => exact ⟨i, rfl, of_decide_eq_true h⟩
  | _ => cases h
theorem isStay_yes {d : D} (h : (items d).length = 3) (h2 : (items d).all isNum = true) : ∃ b e l : Int, items d = [.int b, .int e, .int l] ∧ isStay d = decide (b ≤ e) := by
  unfold isStay
  match items d, h, h2 with
  | [x, y, z], _, h2 =>
    simp only [List.all_cons, List.all_nil, Bool.and_true, Bool.and_eq_true] at h2
    obtain ⟨h3, h4, h5⟩ := h2
    obtain ⟨b, rfl, b0⟩ := isNum_int h3
    obtain ⟨e, rfl, e0⟩ := isNum_int h4
    obtain ⟨l, rfl, l0⟩ := isNum_int h5
    refine ⟨b, e, l, rfl, ?_⟩
    show (decide (0 ≤ b) && decide (0 ≤ e) && decide (0 ≤ l) && decide (b ≤ e)) = _
    rw [decide_eq_true b0, decide_eq_true e0, decide_eq_true l0]
    rfl
theorem ok_is_stay (B : Bi mg) {f : Addr} {fd : FuncData} (F : Fun K "is_stay" "is_stay" s_is_stay f fd) (h1 : Kn P w K mg base T "is_list" 1 (pred isList)) (h2 : Kn P w K mg base T "is_number" 2 (pred isNum)) : FnOk P w K mg base (L2.CX P w) 3 f fd ["thing"] (spD K T (pred isStay)) := by
  refine okD F sc_is_stay pred_len (fun cdv A outer s H E An ds g C hr tk h => ?_)
  obtain ⟨d, rfl, ty, h⟩ := h
  have nd := sc_is_stay.nd
  show DSs _ T An ⟨[.dat d, .non], [], An.ws, g⟩ _ _
  walk_at "go"
  refine ⟨d, rfl, ty, _, rfl, fun e => ?_, fun e => ?_⟩
  · have e1 : isList d = false := by simpa using e
    refine ⟨fun _ => ?_, fun z => (by cases z)⟩
    walk_at "go"
    have e2 : isStay d = false := isStay_no (by left; cases d <;> first | (cases e1; done) | simp [items])
    rw [← e2]
    exact ⟨.inl rfl, h⟩
  · have e1 : isList d = true := by simpa using e
    walk_at "go"
    refine lenD_seq (isList_seq e1) ?_
    walk_at "go"
    refine ⟨_, eqP_int, fun e2 => ?_, fun e2 => ?_⟩
    · refine ⟨fun _ => ?_, fun z => (by cases z)⟩
      walk_at "go"
      have e3 : isStay d = false := isStay_no (by left; intro z; rw [z] at e2; simp at e2)
      rw [← e3]
      exact ⟨.inl rfl, h⟩
    · have e3 : (items d).length = 3 := by
        have : ((items d).length : Int) = 3 := by simpa using e2
        omega
      walk_at "go"
      refine de_dv (dv_lc rfl nd (blkOk_by (own := [("part", 1)]) (by kernel_rfl)) (di_seq (de_name ?_)))
      refine ⟨items d, isList_seq e1, lcd_fm (fun y => [.bl (isNum y)]) rfl (by rw [e3]; decide) (fun i y acc D0 ey => ?_) fun a => ?_⟩
      · walk_at "blk"
        walk_at "gg"
        walk_at "blk"
        refine dts_nil ⟨fun _ => ?_, fun z => (by cases z)⟩
        walk_at "blk"
        walk_at "go"
        exact ⟨y, rfl, wt_items ty y (List.mem_of_getElem? ey), rfl, rfl, rfl, rfl⟩
      · obtain ⟨bs, eb, ea⟩ := nums_all ty
        walk_at "go"
        refine ⟨bs, by rw [← eb]; rfl, _, rfl, fun e4 => ?_, fun e4 => ?_⟩
        · walk_at "go"
          have e5 : isStay d = false := isStay_no (by right; rw [← ea]; simpa using e4)
          rw [← e5]
          exact ⟨.inl rfl, h⟩
        · have e5 : (items d).all isNum = true := by rw [← ea]; simpa using e4
          obtain ⟨b, e, l, ei, es⟩ := isStay_yes e3 e5
          rw [es] at h
          walk_at "go"
          refine ixD_seq (j := 0) (isList_seq e1) (by rw [ei]; rfl) rfl ?_
          walk_at "go"
          refine ixD_seq (j := 1) (isList_seq e1) (by rw [ei]; rfl) rfl ?_
          walk_at "n"
          exact ⟨.inl rfl, h⟩
/-- checked_stays -/
def tupS (d : D) : D := .tup (items d)
def chkN (CS : Addr) : DF := fun ds g C => ∃ d, ds = [d] ∧ wt d = true ∧ (items d).length < sizeLine ∧
  ((oddOf isStay d = .non ∧ C (.new ((items d).map tupS) g)) ∨ (oddOf isStay d ≠ .non ∧ C (.exc CS [("index", oddOf isStay d)] g)))
theorem natD_eq {p : D → Bool} {d : D} : (oddOf p d = .non ∧ isList d = true ∧ ∀ y ∈ items d, p y = true) ∨ ∃ i : Nat, oddOf p d = .int (i : Int) := by
  unfold oddOf
  cases e : isList d with
  | false => exact .inr ⟨0, rfl⟩
  | true =>
    rw [if_pos rfl]
    cases h : firstOdd p (items d) with
    | none =>
      refine .inl ⟨rfl, rfl, fun y hy => ?_⟩
      unfold firstOdd at h
      rw [List.findIdx?_eq_none_iff] at h
      simpa using h y hy
    | some i => exact .inr ⟨i, rfl⟩
theorem ok_checked_stays (B : Bi mg) {CS : Addr} (eS : KnE P w K mg base "BadStays" CS "index") {f : Addr} {fd : FuncData} (F : Fun K "checked_stays" "checked_stays" s_checked_stays f fd) (h1 : Kn P w K mg base T "first_odd" 5 (fod P w K mg base T 3))
    {fs : Addr} (hs : mg "is_stay" = some (.ref fs)) (hf : FnAt K fs) (hk : KnA P w K mg base T fs 3 (pred isStay)) : FnOk P w K mg base (L2.CX P w) 7 f fd ["stays"] (spD K T (chkN CS)) := by
  refine okD F sc_checked_stays (fun ds g C h => by obtain ⟨d, rfl, _⟩ := h; rfl) (fun cdv A outer s H E An ds g C hr tk h => ?_)
  obtain ⟨d, rfl, ty, hz, h⟩ := h
  have nd := sc_checked_stays.nd
  show DSs _ T An ⟨[.dat d, .non, .non], [], An.ws, g⟩ _ _
  walk_at "go"
  refine de_fn hs hf ?_
  walk_at "go"
  refine ⟨d, fs, isStay, rfl, hk, ty, hz, ?_⟩
  walk_at "n"
  rcases natD_eq (p := isStay) (d := d) with ⟨eo, el, ha⟩ | ⟨i, eo⟩
  · rw [eo] at h
    rw [eo]
    have hn : C (.new ((items d).map tupS) g) := by
      rcases h with ⟨_, h⟩ | ⟨z, _⟩
      · exact h
      · exact absurd rfl z
    walk_at "go"
    refine ⟨rfl, fun z => (by cases z), fun _ => ?_⟩
    walk_at "go"
    refine dv_lc rfl nd (blkOk_by (own := [("stay", 2)]) (by kernel_rfl)) (di_seq (de_name ?_))
    refine ⟨items d, isList_seq el, lcd_fm (fun y => [tupS y]) rfl hz (fun i y acc D0 ey => ?_) fun a => ?_⟩
    · have hy := ha y (List.mem_of_getElem? ey)
      have hl : isList y = true := by
        cases y <;> first | rfl | (cases hy; done)
      walk_at "blk"
      walk_at "gg"
      walk_at "blk"
      refine dts_nil ⟨fun _ => ?_, fun z => (by cases z)⟩
      walk_at "blk"
      refine de_dv (dv_tuple B.tuple ?_)
      walk_at "go"
      exact ⟨_, isList_seq hl, rfl, rfl, rfl, rfl⟩
    · rw [← List.map_eq_flatMap]
      exact ⟨rfl, hn⟩
  · rw [eo] at h
    rw [eo]
    have hn : C (.exc CS [("index", .int (i : Nat))] g) := by
      rcases h with ⟨z, _⟩ | ⟨_, h⟩
      · cases z
      · exact h
    walk_at "go"
    refine ⟨rfl, fun _ => ?_, fun z => (by cases z)⟩
    walk_at "s1"
    refine ds_raise eS (hr.mono (by decide)) tk ?_
    walk_at "go"
    exact ⟨rfl, hn⟩
/-- check_many -/
def cmN (p : D → Bool) (CM : Addr) (fn : Str) : DF := fun ds g C => ∃ d, ds = [d] ∧ wt d = true ∧ ((p d = true ∧ C (.ret .non g)) ∨ (p d = false ∧ C (.exc CM [(fn, d)] g)))
end
end K68
end

section
namespace DL
open PySem L2
abbrev Stay := Int × Int × Int
def stD (s : Stay) : D := .tup [.int s.1, .int s.2.1, .int s.2.2]
def begOf (l : List Stay) (j : Nat) : Int := ((l[j]?).getD (0, 0, 0)).1
def idD (i : Nat) : D := .int (i : Int)
theorem getI {α : Type} {l : List α} {i : Nat} {x : α} (f : α → D) (h : (l.map f)[i]? = some (f x) → True) : True := trivial
end DL
open PySem L2 DL
namespace K68
section
variable {P : Program} {w : World} {K : PySem.W.Frag} {mg : Str → Option Value} {base : Heap} {T : List (Addr × Str)}
/-- in_order -/
def ordN : DF := fun ds g C => ∃ (l : List Stay), ds = [.lst (l.map stD)] ∧ l.length ≤ 2 ^ 20 ∧ C (.new ((sortIx l.length (begOf l)).map idD) g)
end
end K68
end

section
namespace DL
open PySem L2
theorem toPys_stays : ∀ l : List Stay, toPys (l.map stD) = some (l.map fun s => PyData.tuple [.int s.1, .int s.2.1, .int s.2.2])
  | [] => by rw [List.map_nil, toPys]; rfl
  | s :: l => by
    rw [List.map_cons, toPys, toPys_stays l]
    rfl
theorem toPy_stays (l : List Stay) : toPy (.lst (l.map stD)) = some (.list (l.map fun s => PyData.tuple [.int s.1, .int s.2.1, .int s.2.2])) := by
  rw [toPy, toPys_stays]
  rfl
/-- what the law's own data is -/
def staysOf (d : D) : Option (List Stay) := if isList d then (items d).mapM fun y => match items y with
  | [.int b, .int e, .int l] => if 0 ≤ b ∧ 0 ≤ e ∧ 0 ≤ l ∧ b ≤ e then some (b, e, l) else none
  | _ => none
  else none
end DL
open PySem L2 DL
namespace K68
section
variable {P : Program} {w : World} {K : PySem.W.Frag} {mg : Str → Option Value} {base : Heap} {T : List (Addr × Str)}
/-- the code object at c of the def qual, its table at p -/
structure Tb (base : Heap) (mg : Str → Option Value) (T : List (Addr × Str)) (qual : Str) (c p : Addr) : Prop where
  tb : LamX.TabB base mg c p
  mem : (p, qual ++ ".<locals>." ++ "<lambda>") ∈ T
  uniq : ∀ q ∈ T, q.1 = p → q.2 = qual ++ ".<locals>." ++ "<lambda>"
theorem ok_in_order (B : Bi mg) {f c p : Addr} {fd : FuncData} (F : FunC K "in_order" "in_order" s_in_order f fd c) (tb : Tb base mg T "in_order" c p) : FnOk P w K mg base (L2.CX P w) 2 f fd ["stays"] (spD K T ordN) := by
  refine okDc F sc_in_order (fun ds g C h => by obtain ⟨l, rfl, _⟩ := h; rfl) (fun A outer s H E An ds g C hr tk h => ?_)
  obtain ⟨l, rfl, hz, h⟩ := h
  have nd := sc_in_order.nd
  show DSs _ T An ⟨[.dat (.lst (l.map stD))], [], An.ws, g⟩ _ _
  walk_at "s1"
  walk_at "s1"
  refine dv_sortKey B hr hr.hd ?_ (lam1S_by (by kernel_rfl)) rfl tb.tb rfl tb.mem tb.uniq
  walk_at "go"
  refine lenD_seq rfl ?_
  refine ⟨l.length, _, _, begOf l, by rw [List.length_map], hz, rfl, toPy_stays l, by rw [List.length_map]; omega, fun j hj => ?_, fun a => ?_⟩
  · have e : l[j]? = some l[j] := List.getElem?_eq_getElem hj
    refine ⟨[.int (l[j]).2.1, .int (l[j]).2.2], ?_, by show 2 ≤ 2 ^ 60; decide⟩
    rw [List.getElem?_map, e]
    unfold begOf
    rw [e]
    rfl
  · exact ⟨rfl, h⟩
end
end K68
end

section
open PySem L2 DL
namespace K68
section
variable {P : Program} {w : World} {K : PySem.W.Frag} {mg : Str → Option Value} {base : Heap} {T : List (Addr × Str)}
theorem ok_law_order (B : Bi mg) {f c p : Addr} {fd : FuncData} (F : FunC K "_law_order" "_law_order" s__law_order f fd c) (tb : Tb base mg T "_law_order" c p) : FnOk P w K mg base (L2.CX P w) 2 f fd ["stays"] (spD K T ordN) := by
  refine okDc F sc__law_order (fun ds g C h => by obtain ⟨l, rfl, _⟩ := h; rfl) (fun A outer s H E An ds g C hr tk h => ?_)
  obtain ⟨l, rfl, hz, h⟩ := h
  have nd := sc__law_order.nd
  show DSs _ T An ⟨[.dat (.lst (l.map stD))], [], An.ws, g⟩ _ _
  walk_at "s1"
  walk_at "s1"
  refine dv_sortKey B hr hr.hd ?_ (lam1S_by (by kernel_rfl)) rfl tb.tb rfl tb.mem tb.uniq
  walk_at "go"
  refine lenD_seq rfl ?_
  refine ⟨l.length, _, _, begOf l, by rw [List.length_map], hz, rfl, toPy_stays l, by rw [List.length_map]; omega, fun j hj => ?_, fun a => ?_⟩
  · have e : l[j]? = some l[j] := List.getElem?_eq_getElem hj
    refine ⟨[.int (l[j]).2.1, .int (l[j]).2.2], ?_, by show 2 ≤ 2 ^ 60; decide⟩
    rw [List.getElem?_map, e]
    unfold begOf
    rw [e]
    rfl
  · exact ⟨rfl, h⟩
end
end K68
end

section
open PySem L2 DL
namespace K68
section
variable {P : Program} {w : World} {K : PySem.W.Frag} {mg : Str → Option Value} {base : Heap} {T : List (Addr × Str)}
/-- _law_draw: a number from 0 on, below many; one of the stream's fuel -/
def draN : DF := fun ds g C => ∃ many : Nat, ds = [.strm, .int (many : Int)] ∧ 0 < many ∧ many < 1073741824 ∧ 1 ≤ g ∧ ∀ r : Nat, r < many → C (.ret (.int (r : Int)) (g - 1))
theorem ok_law_draw (B : Bi mg) {f : Addr} {fd : FuncData} (F : Fun K "_law_draw" "_law_draw" s__law_draw f fd) : FnOk P w K mg base (L2.CX P w) 1 f fd ["stream", "many"] (spD K T draN) := by
  refine okD F sc__law_draw (fun ds g C h => by obtain ⟨many, rfl, _⟩ := h; rfl) (fun cdv A outer s H E An ds g C hr tk h => ?_)
  obtain ⟨many, rfl, hm, hm2, hg, h⟩ := h
  have nd := sc__law_draw.nd
  have mod_lt : ∀ x : Int, ∃ r : Nat, r < many ∧ x.fmod (many : Int) = (r : Int) := fun x => by
    have h1 : 0 ≤ x.fmod (many : Int) := Int.fmod_nonneg_of_pos x (by omega)
    have h2 : x.fmod (many : Int) < many := Int.fmod_lt_of_pos x (by omega)
    exact ⟨(x.fmod (many : Int)).toNat, by omega, by omega⟩
  show DSs _ T An ⟨[.dat .strm, .dat (.int many), .non, .non], [], An.ws, g⟩ _ _
  refine dss_cons (ds_if ?_)
  walk_at "gs"
  refine ⟨.inl rfl, fun n sp => ?_⟩
  walk_at "gs"
  refine ⟨fun e1 => ?_, fun e1 => ?_⟩
  · walk_at "gs"
    refine ⟨.inl rfl, fun n2 sp2 => ?_⟩
    walk_at "gs"
    refine ⟨by omega, ?_⟩
    walk_at "gs"
    refine ds_store ?_
    walk_at "gs"
    refine ⟨.inl rfl, fun n3 sp3 => ?_⟩
    walk_at "gs"
    refine ⟨by omega, ?_⟩
    refine dg_strm ?_
    walk_at "gs"
    refine ⟨rfl, ?_⟩
    walk_at "gs"
    have q0 : 0 ≤ n3.fdiv (many : Int) := Int.fdiv_nonneg sp3.1 (by omega)
    refine ⟨_, g - 1, rfl, .inl rfl, by show g - 1 ≤ g; omega, ⟨q0, fun z => (by cases z), fun z => (by cases z)⟩, ?_⟩
    walk_at "gs"
    obtain ⟨r, hr1, hr2⟩ := mod_lt n2
    rw [hr2]
    exact ⟨.inl rfl, h r hr1⟩
  · walk_at "gs"
    refine ds_store ?_
    walk_at "gs"
    refine ⟨.inr (.inr rfl), fun n2 sp2 => ?_⟩
    walk_at "gs"
    refine dg_strm ?_
    walk_at "gs"
    refine ⟨rfl, ?_⟩
    walk_at "gs"
    obtain ⟨p1, p2, p3⟩ := sp2
    have p4 := p3 rfl
    have p4' : n2 + (g : Int) ≤ (big : Int) := p4
    refine ⟨_, g - 1, rfl, .inr (.inr rfl), by show g - 1 ≤ g; omega, ⟨by omega, fun z => (by cases z), fun _ => (by omega)⟩, ?_⟩
    walk_at "gs"
    refine ⟨.inr (.inl rfl), fun n3 sp3 => ?_⟩
    walk_at "gs"
    refine ⟨.inr (.inr rfl), fun n4 sp4 => ?_⟩
    have b0 : (big : Int) = 1099511627776 := rfl
    obtain ⟨u1, u2, _⟩ := sp3
    obtain ⟨v1, _, v3⟩ := sp4
    have u2 := u2 rfl
    have v3 := v3 rfl
    have v3' : n4 + ((g - 1 : Nat) : Int) ≤ (big : Int) := v3
    refine ⟨.inl (by omega), ?_⟩
    walk_at "gs"
    refine ⟨⟨by omega, by omega, by omega⟩, ?_⟩
    walk_at "gs"
    refine ⟨by omega, ?_⟩
    walk_at "gs"
    refine ⟨.inr (.inr rfl), fun n5 sp5 => ?_⟩
    walk_at "gs"
    refine ⟨.inr (by omega), ?_⟩
    walk_at "gs"
    refine ⟨by omega, ?_⟩
    walk_at "gs"
    refine ⟨by omega, ?_⟩
    walk_at "gs"
    refine ⟨by omega, ?_⟩
    walk_at "n"
    obtain ⟨r, hr1, hr2⟩ := mod_lt ((Int.fmod ((Int.fmod ((n3 + 7919 * n4 + 104729) ^ (5 : Int).toNat) 2147483647 + n5) * 40692) 2147483629).fdiv 7)
    rw [hr2]
    exact ⟨.inl rfl, h r hr1⟩
end
end K68
end

section
open PySem L2 DL
namespace K68
section
variable {P : Program} {w : World} {K : PySem.W.Frag} {mg : Str → Option Value} {base : Heap} {T : List (Addr × Str)}
/-- _law_pick: one of some things -/
def picN : DF := fun ds g C => ∃ xs : List D, ds = [.strm, .lst xs] ∧ 0 < xs.length ∧ xs.length < 1073741824 ∧ 1 ≤ g ∧ ∀ d ∈ xs, C (.ret d (g - 1))
theorem ok_law_pick (B : Bi mg) {f : Addr} {fd : FuncData} (F : Fun K "_law_pick" "_law_pick" s__law_pick f fd) (h1 : Kn P w K mg base T "_law_draw" 1 draN) : FnOk P w K mg base (L2.CX P w) 2 f fd ["stream", "things"] (spD K T picN) := by
  refine okD F sc__law_pick (fun ds g C h => by obtain ⟨many, rfl, _⟩ := h; rfl) (fun cdv A outer s H E An ds g C hr tk h => ?_)
  obtain ⟨xs, rfl, hm, hm2, hg, h⟩ := h
  have nd := sc__law_pick.nd
  show DSs _ T An ⟨[.dat .strm, .dat (.lst xs)], [], An.ws, g⟩ _ _
  walk_at "go"
  refine lenD_seq rfl ?_
  walk_at "go"
  refine ⟨xs.length, rfl, hm, hm2, hg, fun r hr1 => ?_⟩
  obtain ⟨d, ed⟩ : ∃ d, xs[r]? = some d := ⟨xs[r], List.getElem?_eq_getElem hr1⟩
  walk_at "n"
  refine ixD_seq (d := .lst xs) (j := r) rfl ed rfl ?_
  exact ⟨.inl rfl, h d (List.mem_of_getElem? ed)⟩
theorem mix_ints (ns : List Int) : ∀ i : Nat, ∃ ms : List Int, (enumOf i (ns.map D.int)).flatMap (fun x => match x with | .tup [.int i, .int j] => [D.int ((i + 1) * (if j < 0 then -j else j))] | _ => []) = ms.map D.int := by
  induction ns with
  | nil => exact fun i => ⟨[], rfl⟩
  | cons n ns ih =>
    intro i
    obtain ⟨ms, e⟩ := ih (i + 1)
    refine ⟨((i : Int) + 1) * (if n < 0 then -n else n) :: ms, ?_⟩
    rw [List.map_cons, enumOf, List.flatMap_cons, e]
    rfl
/-- _law_stream: a stream's three numbers -/
def strN : DF := fun ds g C => ∃ (ns : List Int) (k : Nat), ds = [.kl (ns.map D.int), .int (k : Int)] ∧ ns.length ≤ 63 ∧ k ≤ 1000 ∧ ∀ c m : Int, 0 ≤ c → 0 ≤ m → m < (big : Int) → C (.new [.int c, .int m, .int 0] g)
theorem ok_law_stream (B : Bi mg) {f : Addr} {fd : FuncData} (F : Fun K "_law_stream" "_law_stream" s__law_stream f fd) : FnOk P w K mg base (L2.CX P w) 1 f fd ["script", "k"] (spD K T strN) := by
  refine okD F sc__law_stream (fun ds g C h => by obtain ⟨ns, k, rfl, _⟩ := h; rfl) (fun cdv A outer s H E An ds g C hr tk h => ?_)
  obtain ⟨ns, k, rfl, hn, hk, h⟩ := h
  have nd := sc__law_stream.nd
  show DSs _ T An ⟨[.dat (.kl (ns.map D.int)), .dat (.int k), .non, .non, .non, .non], [], An.ws, g⟩ _ _
  refine dss_cons (ds_set nd (dv_imp (C1 := fun r ρ' => ∃ c : Int, 0 ≤ c ∧ r = .v (.int c) ∧ ρ' = ⟨[.dat (.kl (ns.map D.int)), .dat (.int k), .non, .non, .non, .non], [], An.ws, g⟩) ?_ ?_))
  · walk_at "go"
    refine lenD_seq rfl ?_
    walk_at "go"
    rw [List.length_map]
    refine ⟨fun e1 => ?_, fun e1 => ?_⟩
    · have e2 : k < ns.length := by simpa using e1
      walk_at "go"
      refine ixD_seq (d := .kl (ns.map D.int)) (j := k) (e := .int ns[k]) rfl (by rw [List.getElem?_map, List.getElem?_eq_getElem e2]; rfl) rfl ?_
      walk_at "go"
      refine ⟨_, ?_, rfl, rfl⟩
      split <;> omega
    · walk_at "go"
      refine ⟨_, rfl, fun a => ?_⟩
      obtain ⟨ms, em⟩ : ∃ ms : List Int, cutD (ns.map D.int) none (some 1) = ms.map D.int := ⟨_, by unfold cutD; rw [← List.map_drop, ← List.map_take]⟩
      rw [em]
      walk_at "go"
      refine ⟨ms, rfl, ?_⟩
      walk_at "go"
      refine ⟨by decide, ?_⟩
      walk_at "go"
      refine ⟨.inl ⟨by decide, by decide⟩, _, ?_, rfl, rfl⟩
      have h1 : 0 ≤ (ms.sum).fmod 1000003 := Int.fmod_nonneg_of_pos _ (by decide)
      omega
  · rintro r ρ' ⟨c, hc, rfl, rfl⟩
    refine dss_cons (ds_set nd (dv_de ?_))
    walk_at "e1"
    refine de_dv ?_
    walk_at "v1"
    walk_at "s1"
    refine de_dv (dv_lc rfl nd (blkOk_by (own := [("at", 3), ("one", 4)]) (by kernel_rfl)) (di_enum B.enumerate ?_))
    walk_at "go"
    refine ⟨_, rfl, lcd_fm (fun x => match x with | .tup [.int i, .int j] => [D.int ((i + 1) * (if j < 0 then -j else j))] | _ => []) rfl (by rw [enumOf_len, List.length_map, sizeLine_eq]; omega) (fun i y acc D0 ey => ?_) fun a => ?_⟩
    · rw [enumOf_get, List.getElem?_map] at ey
      obtain ⟨y1, ey1, rfl⟩ := Option.map_eq_some_iff.mp ey
      obtain ⟨n, en, rfl⟩ := Option.map_eq_some_iff.mp ey1
      have hi : i < 63 := by
        obtain ⟨z, _⟩ := List.getElem?_eq_some_iff.mp en
        omega
      walk_at "blk"
      walk_at "gg"
      walk_at "blk"
      walk_at "s1"
      refine ⟨fun _ => ?_, fun z => (by cases z)⟩
      walk_at "blk"
      walk_at "go"
      refine ⟨.inl (by omega), ?_⟩
      exact ⟨rfl, rfl, rfl, rfl⟩
    · obtain ⟨ms, em⟩ := mix_ints ns 0
      rw [em]
      walk_at "go"
      refine ⟨ms, rfl, ?_⟩
      walk_at "go"
      refine ⟨by decide, ?_⟩
      walk_at "go"
      refine ⟨⟨by decide, by decide, by decide⟩, fun e3 => ?_, fun e3 => ?_⟩
      · walk_at "go"
        refine ⟨by decide, ?_⟩
        walk_at "go"
        refine ⟨.inl (by decide), ?_⟩
        walk_at "go"
        refine ⟨by show 3 ≤ sizeLine; decide, fun a8 => ?_⟩
        have q1 := Int.fmod_nonneg_of_pos (c + Int.fmod ms.sum 2147483647) (show (0 : Int) < 2147483647 by decide)
        have q2 := Int.fmod_lt_of_pos (c + Int.fmod ms.sum 2147483647) (show (0 : Int) < 2147483647 by decide)
        refine ⟨rfl, h _ _ hc ?_ ?_⟩
        · omega
        · have b0 : (big : Int) = 1099511627776 := rfl
          omega
      · walk_at "go"
        refine ⟨by decide, ?_⟩
        walk_at "go"
        refine ⟨.inl (by decide), ?_⟩
        walk_at "go"
        refine ⟨by show 3 ≤ sizeLine; decide, fun a8 => ?_⟩
        have q1 := Int.fmod_nonneg_of_pos (c + Int.fmod ms.sum 2147483647) (show (0 : Int) < 2147483647 by decide)
        have q2 := Int.fmod_lt_of_pos (c + Int.fmod ms.sum 2147483647) (show (0 : Int) < 2147483647 by decide)
        refine ⟨rfl, h _ _ (Int.le_refl 0) ?_ ?_⟩
        · omega
        · have b0 : (big : Int) = 1099511627776 := rfl
          omega
end
end K68
end

section
open PySem L2 DL
namespace K68
section
variable {P : Program} {w : World} {K : PySem.W.Frag} {mg : Str → Option Value} {base : Heap} {T : List (Addr × Str)}
/-- _law_stays: stays as they are meant -/
def okStays (l : List Stay) : Prop := ∀ s ∈ l, 0 ≤ s.1 ∧ s.1 ≤ s.2.1 ∧ 0 ≤ s.2.2 ∧ s.2.1 ≤ 1000000000000 ∧ s.2.2 ≤ 1000000000000
def stsN : DF := fun ds g C => ∃ most : Nat, ds = [.strm, .int (most : Int)] ∧ most ≤ 100 ∧ 1000 ≤ g ∧ ∀ (l : List Stay) (g' : Nat), l.length ≤ most → okStays l → g - 1000 ≤ g' → g' ≤ g → C (.new (l.map stD) g')
theorem ok_law_stays (B : Bi mg) {f : Addr} {fd : FuncData} (F : Fun K "_law_stays" "_law_stays" s__law_stays f fd) (h1 : Kn P w K mg base T "_law_draw" 1 draN) (h2 : Kn P w K mg base T "_law_pick" 2 picN) : FnOk P w K mg base (L2.CX P w) 3 f fd ["stream", "most"] (spD K T stsN) := by
  refine okD F sc__law_stays (fun ds g C h => by obtain ⟨many, rfl, _⟩ := h; rfl) (fun cdv A outer s H E An ds g C hr tk h => ?_)
  obtain ⟨most, rfl, hm, hg, h⟩ := h
  have nd := sc__law_stays.nd
  show DSs _ T An ⟨[.dat .strm, .dat (.int most), .non, .non, .non, .non, .non, .non, .non], [], An.ws, g⟩ _ _
  refine dss_cons (ds_par rfl nd ?_)
  walk_at "gs"
  refine ⟨most + 1, by simp, by omega, by omega, by omega, fun many hmany => ?_⟩
  walk_at "gs"
  refine ⟨_, rfl, ?_⟩
  walk_at "gs"
  refine ⟨by show 3 ≤ sizeLine; decide, fun a1 => ?_⟩
  walk_at "gs"
  refine ⟨_, rfl, by decide, by decide, by show 1 ≤ g - 1; omega, fun d1 hd1 => ?_⟩
  obtain ⟨sp, rfl, hsp, hsp2⟩ : ∃ sp : Nat, d1 = .int sp ∧ 0 < sp ∧ sp ≤ 20 := by
    simp only [List.mem_cons, List.not_mem_nil, or_false] at hd1
    rcases hd1 with rfl | rfl | rfl
    · exact ⟨4, rfl, by decide, by decide⟩
    · exact ⟨9, rfl, by decide, by decide⟩
    · exact ⟨20, rfl, by decide, by decide⟩
  walk_at "gs"
  refine ⟨⟨by decide, by decide, by decide⟩, ?_⟩
  walk_at "gs"
  refine ⟨by show 4 ≤ sizeLine; decide, fun a2 => ?_⟩
  walk_at "gs"
  refine ⟨_, rfl, by decide, by decide, by show 1 ≤ g - 1 - 1; omega, fun d2 hd2 => ?_⟩
  obtain ⟨sc, rfl, hsc, hsc2⟩ : ∃ sc : Int, d2 = .int sc ∧ 0 < sc ∧ sc ≤ 2000000000 := by
    simp only [List.mem_cons, List.not_mem_nil, or_false] at hd2
    rcases hd2 with rfl | rfl | rfl | rfl
    · exact ⟨1, rfl, by decide, by decide⟩
    · exact ⟨1, rfl, by decide, by decide⟩
    · exact ⟨1, rfl, by decide, by decide⟩
    · exact ⟨1000000007, rfl, by decide, by decide⟩
  walk_at "gs"
  refine ⟨by show 0 ≤ sizeLine; decide, fun p1 => ?_⟩
  walk_at "n"
  refine dss_cons (ds_for (passes_of rfl) rfl (di_rng1 B.range ?_))
  walk_at "gs"
  refine ⟨by omega, by omega, fun i ρ => ∃ (l : List Stay) (s6 s7 s8 : Sl) (g1 : Nat), l.length = i ∧ okStays l ∧ g - 10 - 4 * i ≤ g1 ∧ g1 ≤ g ∧ ρ = ⟨[.dat .strm, .dat (.int most), .dat (.int many), .dat (.int sp), .dat (.int sc), .own p1 (l.map stD), s6, s7, s8], [], An.ws, g1⟩, ?_, fun i dd ρ2 ei hI => ?_, fun ρ2 hI => ?_⟩
  · exact ⟨[], .non, .non, .non, g - 1 - 1 - 1, rfl, fun s z => (by cases z), by omega, by omega, rfl⟩
  · obtain ⟨l, s6, s7, s8, g1, el, okl, hg1, hg2, rfl⟩ := hI
    unfold rngD at ei
    rw [List.getElem?_map] at ei
    obtain ⟨i6, e6, rfl⟩ := Option.map_eq_some_iff.mp ei
    have hi6 : i < many := by
      obtain ⟨z, _⟩ := List.getElem?_eq_some_iff.mp e6
      rw [List.length_range] at z
      omega
    have hz : i < sizeLine := by rw [sizeLine_eq]; omega
    refine ⟨[6], ?_⟩
    walk_at "gg"
    walk_at "gs"
    refine ⟨sp, rfl, hsp, by omega, by show 1 ≤ g1; omega, fun b hb => ?_⟩
    walk_at "gs"
    refine ⟨5, rfl, by decide, by decide, by show 1 ≤ g1 - 1; omega, fun r1 hr1 => ?_⟩
    walk_at "gs"
    refine ⟨2, rfl, by decide, by decide, by show 1 ≤ g1 - 1 - 1; omega, fun r2 hr2 => ?_⟩
    walk_at "gs"
    refine ⟨.inl (by omega), ?_⟩
    walk_at "gs"
    refine ds_app ?_ ?_
    · exact trivial
    walk_at "gs"
    refine ⟨.inl (by omega), ?_⟩
    walk_at "gs"
    refine ⟨.inl (by omega), ?_⟩
    walk_at "gs"
    refine ⟨7, rfl, by decide, by decide, by show 1 ≤ g1 - 1 - 1 - 1; omega, fun r3 hr3 => ?_⟩
    walk_at "gs"
    refine ⟨.inl (by omega), ?_⟩
    walk_at "gs"
    refine ⟨by show 3 ≤ sizeLine; decide, ?_⟩
    refine ⟨by rw [List.length_map, el]; exact hz, ?_⟩
    refine dss_nil ?_
    have m1 : (0 : Int) ≤ (r1 : Int) * (r2 : Int) := Int.mul_nonneg (by omega) (by omega)
    refine ⟨l ++ [(sc * (b : Int), sc * ((b : Int) + (r1 : Int) * (r2 : Int)), sc * (r3 : Int))], .dat (.int (0 + (i6 : Int))), .dat (.int (b : Int)), .dat (.int ((b : Int) + (r1 : Int) * (r2 : Int))), g1 - 1 - 1 - 1 - 1, by rw [List.length_append, el]; rfl, fun s hs => ?_, by omega, by omega, ?_⟩
    rotate_left
    · show Ev.mk _ _ _ _ = _
      rw [List.map_append]
      rfl
    · rcases List.mem_append.mp hs with hs | hs
      · exact okl s hs
      · obtain rfl := List.mem_singleton.mp hs
        have m2 : (r1 : Int) * (r2 : Int) ≤ 5 * 2 := Int.mul_le_mul (by omega) (by omega) (by omega) (by omega)
        have m3 : sc * ((b : Int) + (r1 : Int) * (r2 : Int)) ≤ 2000000000 * 40 := Int.mul_le_mul hsc2 (by omega) (by omega) (by omega)
        have m4 : sc * (r3 : Int) ≤ 2000000000 * 10 := Int.mul_le_mul hsc2 (by omega) (by omega) (by omega)
        exact ⟨Int.mul_nonneg (by omega) (by omega), Int.mul_le_mul_of_nonneg_left (by omega) (by omega), Int.mul_nonneg (by omega) (by omega), by show sc * ((b : Int) + (r1 : Int) * (r2 : Int)) ≤ _; omega, by show sc * (r3 : Int) ≤ _; omega⟩
  · obtain ⟨l, s6, s7, s8, g1, el, okl, hg1, hg2, rfl⟩ := hI
    have e2 : l.length ≤ most := by
      unfold rngD at el
      rw [List.length_map, List.length_range] at el
      omega
    have e3 : (rngD 0 (many : Int).toNat).length = many := by
      unfold rngD
      rw [List.length_map, List.length_range]
      omega
    walk_at "s1"
    walk_at "s1"
    refine dv_back ?_
    exact ⟨rfl, h l g1 e2 okl (by omega) hg2⟩
end
end K68
end

section
namespace DL
open PySem L2
end DL
open PySem L2 DL
namespace K68
section
variable {P : Program} {w : World} {K : PySem.W.Frag} {mg : Str → Option Value} {base : Heap} {T : List (Addr × Str)}
/-- _law_odd_stay: what is no stay -/
def oddN : DF := fun ds g C => ds = [.strm] ∧ 1 ≤ g ∧ ∀ d, isStay d = false → wt d = true → C (.ret d (g - 1))
theorem ok_law_odd_stay (B : Bi mg) {f : Addr} {fd : FuncData} (F : Fun K "_law_odd_stay" "_law_odd_stay" s__law_odd_stay f fd) (h2 : Kn P w K mg base T "_law_pick" 2 picN) : FnOk P w K mg base (L2.CX P w) 3 f fd ["stream"] (spD K T oddN) := by
  refine okD F sc__law_odd_stay (fun ds g C h => by obtain ⟨rfl, _⟩ := h; rfl) (fun cdv A outer s H E An ds g C hr tk h => ?_)
  obtain ⟨rfl, hg, h⟩ := h
  have nd := sc__law_odd_stay.nd
  show DSs _ T An ⟨[.dat .strm, .non], [], An.ws, g⟩ _ _
  walk_at "gs"
  refine ⟨by show 0 ≤ sizeLine; decide, ?_⟩
  walk_at "gs"
  refine ⟨by show 2 ≤ sizeLine; decide, ?_⟩
  walk_at "gs"
  refine ⟨by show 4 ≤ sizeLine; decide, ?_⟩
  walk_at "gs"
  refine ⟨by show 3 ≤ sizeLine; decide, ?_⟩
  walk_at "gs"
  refine ⟨by show 3 ≤ sizeLine; decide, ?_⟩
  walk_at "gs"
  refine ⟨by show 3 ≤ sizeLine; decide, ?_⟩
  walk_at "gs"
  refine ⟨by show 3 ≤ sizeLine; decide, ?_⟩
  walk_at "gs"
  refine ⟨by show 3 ≤ sizeLine; decide, ?_⟩
  walk_at "gs"
  refine ⟨by show 12 ≤ sizeLine; decide, fun a1 => ?_⟩
  walk_at "gs"
  refine ⟨_, rfl, by decide, by decide, hg, fun d hd => ⟨.inl rfl, ?_⟩⟩
  simp only [List.mem_cons, List.not_mem_nil, or_false] at hd
  rcases hd with rfl | rfl | rfl | rfl | rfl | rfl | rfl | rfl | rfl | rfl | rfl | rfl <;> exact h _ (by decide) (by decide)
end
end K68
end

section
namespace DL
open PySem L2
def asF (Dom : D → Prop) (Pr : D → D → Prop) (c : Nat) : DF := fun ds g C => ∃ x, ds = [.strm, x] ∧ Dom x ∧ c ≤ g ∧ ∀ y g', Pr x y → g - c ≤ g' → g' ≤ g → (C (.ret y g') ∧ ∀ es, y = .lst es → C (.new es g'))
def DomL (Dom : D → Prop) (N : Nat) : D → Prop := fun x => ∃ xs, (x = .lst xs ∨ x = .tup xs) ∧ xs.length ≤ N ∧ ∀ d ∈ xs, Dom d
def PrL (Pr : D → D → Prop) : D → D → Prop := fun x y => ∃ es, (y = .lst es ∨ y = .tup es) ∧ es.length = (items x).length ∧ ∀ (i : Nat) d e, (items x)[i]? = some d → es[i]? = some e → Pr d e
def isInt : D → Prop := fun x => ∃ i : Int, x = .int i
def eqI : D → D → Prop := fun x y => y = x
end DL
open PySem L2 DL
namespace K68
section
variable {P : Program} {w : World} {K : PySem.W.Frag} {mg : Str → Option Value} {base : Heap} {T : List (Addr × Str)}
theorem as_len {Dom Pr c} (ds : List D) (g : Nat) (C : Out → Prop) (h : asF Dom Pr c ds g C) : ds.length = 2 := by
  obtain ⟨x, rfl, _⟩ := h
  rfl
theorem ok_as0 (B : Bi mg) {f : Addr} {fd : FuncData} (F : Fun K "_law_as_lists" "_law_as_lists" s__law_as_lists f fd) : FnOk P w K mg base (L2.CX P w) 1 f fd ["stream", "thing"] (spD K T (asF isInt eqI 0)) := by
  refine okD F sc__law_as_lists as_len (fun cdv A outer s H E An ds g C hr tk h => ?_)
  obtain ⟨x, rfl, ⟨i, rfl⟩, hg, h⟩ := h
  have nd := sc__law_as_lists.nd
  show DSs _ T An ⟨[.dat .strm, .dat (.int i), .non, .non], [], An.ws, g⟩ _ _
  refine dss_cons (ds_if ?_)
  refine dt_tru (de_isis B.isinstance (.cons rfl B.list bt_list (by decide) (by decide) rfl (.cons rfl B.tuple bt_tuple (by decide) (by decide) rfl .nil)) (by decide) (by simp) ?_)
  walk_at "go"
  refine ⟨false, rfl, false, rfl, fun z => (by cases z), fun _ => ?_⟩
  walk_at "go"
  exact ⟨.inl rfl, (h (.int i) g rfl (by omega) (Nat.le_refl _)).1⟩
theorem ok_as1 (B : Bi mg) {f : Addr} {fd : FuncData} (F : Fun K "_law_as_lists" "_law_as_lists" s__law_as_lists f fd) (h1 : Kn P w K mg base T "_law_draw" 1 draN) {k : Nat} (hk : 1 ≤ k) {Dom : D → Prop} {Pr : D → D → Prop} {c : Nat} (hs : Kn P w K mg base T "_law_as_lists" k (asF Dom Pr c)) (N : Nat) (hN : N < sizeLine) :
    FnOk P w K mg base (L2.CX P w) (k + 1) f fd ["stream", "thing"] (spD K T (asF (DomL Dom N) (PrL Pr) (1 + N * c))) := by
  refine okD F sc__law_as_lists as_len (fun cdv A outer s H E An ds g C hr tk h => ?_)
  obtain ⟨x, rfl, ⟨xs, hx, hl, hd⟩, hg, h⟩ := h
  have nd := sc__law_as_lists.nd
  have hr1 : Room 1 (A.deeper (PyProof.Rows.envOfC "_law_as_lists" (defScope s__law_as_lists) s.heap.objs.size f cdv)) := hr.mono hk
  have ei : seqD x = some xs := by rcases hx with rfl | rfl <;> rfl
  have eit : items x = xs := by rcases hx with rfl | rfl <;> rfl
  have ety : isTys x ["list", "tuple"] = some true := by rcases hx with rfl | rfl <;> rfl
  show DSs _ T An ⟨[.dat .strm, .dat x, .non, .non], [], An.ws, g⟩ _ _
  refine dss_cons (ds_if ?_)
  refine dt_tru (de_isis B.isinstance (.cons rfl B.list bt_list (by decide) (by decide) rfl (.cons rfl B.tuple bt_tuple (by decide) (by decide) rfl .nil)) (by decide) (by simp) ?_)
  walk_at "go"
  refine ⟨true, ety, true, rfl, fun _ => ?_, fun z => (by cases z)⟩
  refine dss_cons (ds_setLc rfl nd (blkOk_by (own := [("part", 2)]) (by kernel_rfl)) rfl rfl (di_seq (de_name ?_)))
  refine ⟨xs, ei, lcd_gas (fun i acc g' => acc.length = i ∧ g - i * c ≤ g' ∧ g' ≤ g ∧ ∀ (j : Nat) d e, xs[j]? = some d → acc[j]? = some e → Pr d e) rfl ⟨rfl, Nat.sub_le _ _, Nat.le_refl _, fun j d e _ z => (by cases z)⟩ (by omega) (fun i d acc D0 g1 ed hJ => ?_) fun acc g1 a hJ => ?_⟩
  · obtain ⟨j1, j2, j3, j4⟩ := hJ
    have hi : i < xs.length := by
      obtain ⟨z, _⟩ := List.getElem?_eq_some_iff.mp ed
      exact z
    have hic : i * c + c ≤ N * c := by
      have : (i + 1) * c ≤ N * c := Nat.mul_le_mul_right c (by omega)
      rwa [Nat.succ_mul] at this
    walk_at "blk"
    walk_at "gg"
    walk_at "blk"
    refine dts_nil ⟨fun _ => ?_, fun z => (by cases z)⟩
    walk_at "blk"
    refine de_dv (dv_call hs hr tkF ?_)
    walk_at "gs"
    have hgc : c ≤ g1 := by omega
    refine ⟨d, rfl, hd d (List.mem_of_getElem? ed), hgc, fun y g' py l1 l2 => ?_⟩
    have fin : ∀ y, Pr d y → ((acc ++ [y]).length = i + 1 ∧ g - (i + 1) * c ≤ g' ∧ g' ≤ g ∧ ∀ (j : Nat) (d e : D), xs[j]? = some d → (acc ++ [y])[j]? = some e → Pr d e) := fun y py => by
      refine ⟨by rw [List.length_append, j1]; rfl, ?_, by omega, fun j d' e' q1 q2 => ?_⟩
      · have e9 : (i + 1) * c = i * c + c := Nat.succ_mul i c
        omega
      · by_cases hj : j < acc.length
        · rw [List.getElem?_append_left hj] at q2
          exact j4 j d' e' q1 q2
        · rw [List.getElem?_append_right (by omega)] at q2
          have ej : j = i := by
            obtain ⟨z, _⟩ := List.getElem?_eq_some_iff.mp q2
            have : ([y] : List D).length = 1 := rfl
            omega
          subst ej
          rw [j1, Nat.sub_self] at q2
          cases q2
          rw [ed] at q1
          cases q1
          exact py
    refine ⟨⟨rfl, rfl, fin y py⟩, fun es ey a => ?_⟩
    subst ey
    exact ⟨rfl, rfl, fin _ py⟩
  · obtain ⟨j1, j2, j3, j4⟩ := hJ
    have hlc : xs.length * c ≤ N * c := Nat.mul_le_mul_right c hl
    walk_at "gs"
    refine de_dv (dv_call h1 hr1 tkF ?_)
    walk_at "gs"
    refine ⟨2, rfl, by decide, by decide, by show 1 ≤ g1; omega, fun r hr3 => ?_⟩
    walk_at "gs"
    have pr : ∀ y, (y = .lst acc ∨ y = .tup acc) → PrL Pr x y := fun y hy => ⟨acc, hy, by rw [eit, j1], fun j d e q1 q2 => j4 j d e (by rw [← eit]; exact q1) q2⟩
    refine ⟨_, eqP_int, fun e1 => ?_, fun e1 => ?_⟩
    · refine dv_back ?_
      exact ⟨rfl, (h (.lst acc) (g1 - 1) (pr _ (.inl rfl)) (by omega) (by omega)).2 acc rfl⟩
    · walk_at "gs"
      refine ⟨acc, rfl, .inl rfl, ?_⟩
      exact (h (.tup acc) (g1 - 1) (pr _ (.inr rfl)) (by omega) (by omega)).1
end
end K68
end

section
namespace DL
open PySem L2
/-- what is looked through to its n-th depth -/
def sm : Nat → D → Bool
  | 0, _ => false
  | n + 1, d => match d with
    | .non => true
    | .bl _ => true
    | .int _ => true
    | .str x => SeqAt.shaped (.str x)
    | .fn _ => true
    | .dK [] => true
    | .lst ds => decide (ds.length < sizeLine) && ds.all (sm n)
    | .tup ds => decide (ds.length < sizeLine) && ds.all (sm n)
    | _ => false
def sameN (n : Nat) : DF := fun ds g C => ∃ d, ds = [d, d] ∧ sm n d = true ∧ C (.ret (.bl true) g)
theorem zip_self : ∀ ds : List D, zipOf ds ds = ds.map fun d => .tup [d, d]
  | [] => rfl
  | d :: ds => by rw [zipOf, zip_self ds]; rfl
end DL
open PySem L2 DL
namespace K68
section
variable {P : Program} {w : World} {K : PySem.W.Frag} {mg : Str → Option Value} {base : Heap} {T : List (Addr × Str)}
theorem same_len {n} (ds : List D) (g : Nat) (C : Out → Prop) (h : sameN n ds g C) : ds.length = 2 := by
  obtain ⟨x, rfl, _⟩ := h
  rfl
theorem ok_same0 {f : Addr} {fd : FuncData} (F : Fun K "_law_same" "_law_same" s__law_same f fd) : FnOk P w K mg base (L2.CX P w) 1 f fd ["found", "due"] (spD K T (sameN 0)) := by
  refine okD F sc__law_same same_len (fun cdv A outer s H E An ds g C hr tk h => ?_)
  obtain ⟨x, rfl, z, h⟩ := h
  cases z
theorem ok_same1 (B : Bi mg) {f : Addr} {fd : FuncData} (F : Fun K "_law_same" "_law_same" s__law_same f fd) {k n : Nat} (hs : Kn P w K mg base T "_law_same" k (sameN n)) : FnOk P w K mg base (L2.CX P w) (k + 1) f fd ["found", "due"] (spD K T (sameN (n + 1))) := by
  refine okD F sc__law_same same_len (fun cdv A outer s H E An ds g C hr tk h => ?_)
  obtain ⟨d, rfl, hd, h⟩ := h
  have nd := sc__law_same.nd
  show DSs _ T An ⟨[.dat d, .dat d, .non, .non, .non], [], An.ws, g⟩ _ _
  have lt2 : ∀ {ns : List String}, ns.length = 2 → ns.length ≤ sizeLine := fun {ns} e => by rw [e]; decide
  refine dss_cons (ds_if ?_)
  refine dt_tru (de_isis B.isinstance (.cons rfl B.list bt_list (by decide) (by decide) rfl (.cons rfl B.tuple bt_tuple (by decide) (by decide) rfl .nil)) (by decide) (by simp) ?_)
  walk_at "go"
  have step : ∀ xs : List D, (d = .lst xs ∨ d = .tup xs) → (isTys d ["list", "tuple"] = some true) := fun xs hx => by rcases hx with rfl | rfl <;> rfl
  by_cases hl : ∃ xs, d = .lst xs ∨ d = .tup xs
  · obtain ⟨xs, hx⟩ := hl
    have hq : xs.length < sizeLine ∧ xs.all (sm n) = true := by
      rcases hx with rfl | rfl <;> (unfold sm at hd; rw [Bool.and_eq_true, decide_eq_true_eq] at hd; exact hd)
    obtain ⟨hz, ha⟩ := hq
    have e0 : seqD d = some xs := by rcases hx with rfl | rfl <;> rfl
    obtain ⟨b1, b2, i1, i2⟩ : ∃ b1 b2, isTy d "list" = some b1 ∧ isTy d "tuple" = some b2 := by rcases hx with rfl | rfl <;> exact ⟨_, _, rfl, rfl⟩
    have eb : ∀ b : Bool, eqP (.bl b) (.bl b) = some true := fun b => by cases b <;> rfl
    refine ⟨true, step xs hx, true, rfl, fun _ => ?_, fun z => (by cases z)⟩
    walk_at "go"
    refine ⟨b1, i1, ?_⟩
    walk_at "go"
    refine ⟨b1, i1, true, eb b1, fun z => (by cases z), fun _ => ?_⟩
    walk_at "go"
    refine ⟨b2, i2, ?_⟩
    walk_at "go"
    refine ⟨b2, i2, true, eb b2, fun z => (by cases z), fun _ => ?_⟩
    walk_at "go"
    refine lenD_seq e0 ?_
    walk_at "go"
    refine lenD_seq e0 ?_
    walk_at "go"
    refine ⟨true, by rw [eqP_int]; simp, fun z => (by cases z), fun _ => ?_⟩
    refine dss_nil ?_
    refine dss_cons (ds_ret (dv_all rfl B.all (da_cons (de_dv (dv_lc rfl nd (blkOk_by (own := [("one", 2), ("other", 3)]) (by kernel_rfl)) (di_zip B.zip ?_))))))
    walk_at "go"
    have zd : ∀ {C : CL} {ρ : Ev}, C (zipOf xs xs) ρ → zipD C [d, d] ρ := fun {C ρ} c => by
      rcases hx with rfl | rfl
      · exact .inl ⟨xs, xs, rfl, rfl, c⟩
      · exact .inr ⟨xs, xs, rfl, rfl, c⟩
    refine zd ?_
    rw [zip_self]
    refine lcd_fm (fun _ => [.bl true]) rfl (by rw [List.length_map]; exact hz) (fun i y acc D0 ey => ?_) fun a => ?_
    · rw [List.getElem?_map] at ey
      obtain ⟨e, ee, rfl⟩ := Option.map_eq_some_iff.mp ey
      walk_at "blk"
      walk_at "gg"
      walk_at "blk"
      refine dts_nil ⟨fun _ => ?_, fun z => (by cases z)⟩
      walk_at "blk"
      refine de_dv (dv_call hs hr tkF ?_)
      walk_at "go"
      exact ⟨e, rfl, List.all_eq_true.mp ha e (List.mem_of_getElem? ee), rfl, rfl, rfl, rfl⟩
    · have ef : (xs.map fun d => D.tup [d, d]).flatMap (fun _ => [D.bl true]) = (List.replicate xs.length true).map D.bl := by
        clear hx e0 zd ha hz step
        induction xs with
        | nil => rfl
        | cons x xs ih => rw [List.map_cons, List.flatMap_cons, ih]; rfl
      rw [ef]
      walk_at "go"
      refine ⟨List.replicate xs.length true, rfl, ?_⟩
      have e9 : (List.replicate xs.length true).all id = true := by simp
      rw [e9]
      exact ⟨.inl rfl, h⟩
  · have e1 : isTys d ["list", "tuple"] = some false := by
      cases d <;> first | rfl | (exact absurd ⟨_, .inl rfl⟩ hl) | (exact absurd ⟨_, .inr rfl⟩ hl) | (cases hd)
    refine ⟨false, e1, false, rfl, fun z => (by cases z), fun _ => ?_⟩
    by_cases hk : d = .dK []
    · subst hk
      walk_at "go"
      refine ⟨true, rfl, true, rfl, fun _ => ?_, fun z => (by cases z)⟩
      refine dss_cons (ds_if ?_)
      refine dt_bool (dw_or (dt_not ?_))
      walk_at "go"
      refine ⟨true, rfl, true, rfl, fun z => (by cases z), fun _ => ?_⟩
      refine dw_or1 (dt_ne hr.units ?_)
      refine de_dv (dv_lstK rfl B.list ?_)
      walk_at "go"
      intro a1
      refine de_dv (dv_lstK rfl B.list ?_)
      walk_at "go"
      intro a3
      refine ⟨true, rfl, fun z => (by cases z), fun _ => ?_⟩
      refine dss_nil ?_
      refine dss_cons (ds_ret (dv_all rfl B.all (da_cons (de_dv (dv_lcKeys0 rfl nd (blkOk_by (own := [("key", 4)]) (by kernel_rfl)) rfl rfl fun a4 => ?_)))))
      walk_at "go"
      exact ⟨[], rfl, .inl rfl, h⟩
    · have hat : (d = .non ∨ (∃ b, d = .bl b) ∨ (∃ i, d = .int i) ∨ (∃ x, d = .str x ∧ SeqAt.shaped (.str x) = true) ∨ ∃ a, d = .fn a) := by
        cases d with
        | non => exact .inl rfl
        | bl b => exact .inr (.inl ⟨b, rfl⟩)
        | int i => exact .inr (.inr (.inl ⟨i, rfl⟩))
        | str x => exact .inr (.inr (.inr (.inl ⟨x, rfl, hd⟩)))
        | fn a => exact .inr (.inr (.inr (.inr ⟨a, rfl⟩)))
        | lst xs => exact absurd ⟨_, .inl rfl⟩ hl
        | tup xs => exact absurd ⟨_, .inr rfl⟩ hl
        | dK kvs => cases kvs with
          | nil => exact absurd rfl hk
          | cons _ _ => cases hd
        | _ => cases hd
      have e2 : isTy d "dict" = some false := by
        rcases hat with rfl | ⟨b, rfl⟩ | ⟨i, rfl⟩ | ⟨x, rfl, _⟩ | ⟨a, rfl⟩ <;> rfl
      refine dss_nil ?_
      refine dss_cons (ds_if ?_)
      walk_at "go"
      refine ⟨false, e2, false, rfl, fun z => (by cases z), fun _ => ?_⟩
      refine dss_nil ?_
      refine dss_cons (ds_if ?_)
      refine dt_tru (de_isis B.isinstance (.cons rfl B.bool bt_bool (by decide) (by decide) rfl (.cons rfl B.int bt_int (by decide) (by decide) rfl .nil)) (by decide) (by simp) ?_)
      walk_at "go"
      by_cases hw : (∃ b, d = .bl b) ∨ (∃ i, d = .int i)
      · have e3 : isTys d ["bool", "int"] = some true := by rcases hw with ⟨b, rfl⟩ | ⟨i, rfl⟩ <;> rfl
        refine ⟨true, e3, true, rfl, fun _ => ?_, fun z => (by cases z)⟩
        walk_at "go"
        have e4 : isTy d "int" = some true := by rcases hw with ⟨b, rfl⟩ | ⟨i, rfl⟩ <;> rfl
        obtain ⟨b2, e5⟩ : ∃ b2, isTy d "bool" = some b2 := by rcases hw with ⟨b, rfl⟩ | ⟨i, rfl⟩ <;> exact ⟨_, rfl⟩
        have e6 : eqP d d = some true := by
          rcases hw with ⟨b, rfl⟩ | ⟨i, rfl⟩
          · cases b <;> rfl
          · rw [eqP_int]; simp
        refine ⟨true, e4, fun _ => ?_, fun z => (by cases z)⟩
        walk_at "go"
        refine ⟨b2, e5, ?_⟩
        walk_at "go"
        refine ⟨b2, e5, true, (by cases b2 <;> rfl), ?_⟩
        walk_at "n"
        refine ⟨fun _ => ?_, fun z => (by cases z)⟩
        walk_at "go"
        exact ⟨true, e6, .inl rfl, h⟩
      · have e3 : isTys d ["bool", "int"] = some false := by
          rcases hat with rfl | ⟨b, rfl⟩ | ⟨i, rfl⟩ | ⟨x, rfl, _⟩ | ⟨a, rfl⟩ <;> first | rfl | (exact absurd (.inl ⟨_, rfl⟩) hw) | (exact absurd (.inr ⟨_, rfl⟩) hw)
        refine ⟨false, e3, false, rfl, fun z => (by cases z), fun _ => ?_⟩
        refine dss_nil ?_
        refine dss_cons (ds_ret (dv_de ?_))
        refine de_and (de_not (de_isis B.isinstance (.cons rfl B.bool bt_bool (by decide) (by decide) rfl (.cons rfl B.int bt_int (by decide) (by decide) rfl (.cons rfl B.list bt_list (by decide) (by decide) rfl (.cons rfl B.tuple bt_tuple (by decide) (by decide) rfl (.cons rfl B.dict bt_dict (by decide) (by decide) rfl .nil))))) (by decide) (by simp) ?_))
        walk_at "go"
        have e4 : isTys d ["bool", "int", "list", "tuple", "dict"] = some false := by
          rcases hat with rfl | ⟨b, rfl⟩ | ⟨i, rfl⟩ | ⟨x, rfl, _⟩ | ⟨a, rfl⟩ <;> first | rfl | (exact absurd (.inl ⟨_, rfl⟩) hw) | (exact absurd (.inr ⟨_, rfl⟩) hw)
        refine ⟨false, e4, fun _ => ?_, fun z => (by cases z)⟩
        by_cases hf : ∃ a, d = .fn a
        · obtain ⟨a, rfl⟩ := hf
          refine de_one (de_eqF hr.units ?_)
          walk_at "go"
          exact ⟨a, rfl, rfl, .inl rfl, h⟩
        · have e6 : eqP d d = some true := by
            rcases hat with rfl | ⟨b, rfl⟩ | ⟨i, rfl⟩ | ⟨x, rfl, hx⟩ | ⟨a, rfl⟩
            · rfl
            · exact absurd (.inl ⟨_, rfl⟩) hw
            · exact absurd (.inr ⟨_, rfl⟩) hw
            · show (if SeqAt.shaped (.str x) && SeqAt.shaped (.str x) then some (PyData.eqv (.str x) (.str x)) else none) = _
              rw [hx]
              simp [PyData.eqv]
            · exact absurd ⟨_, rfl⟩ hf
          walk_at "go"
          exact ⟨true, e6, .inl rfl, h⟩
end
end K68
end

section
namespace DL
open PySem L2
/-! ### stays that wait -/
structure SS where
  F : Nat → Option Int
  L : Nat → Option Nat
  R : Nat → Option (Int × Nat × Option Nat)
def upN {α : Type} (f : Nat → α) (i : Nat) (x : α) : Nat → α := fun j => if j = i then x else f j
/-- the first day on which an address is free -/
def SS.fr (S : SS) (a : Nat) : Int := match S.F a with
  | none => 0
  | some x => x + 1
def mnF (f : Nat → Int) : Nat → Int
  | 0 => f 0
  | k + 1 => min (mnF f k) (f (k + 1))
def pkF (f : Nat → Int) (x : Int) (k : Nat) : Nat := ((List.range k).find? fun a => decide (f a ≤ x)).getD 0
def stAt (l : List Stay) (j : Nat) : Stay := (l[j]?).getD (0, 0, 0)
def sday (l : List Stay) (k : Nat) (S : SS) (j : Nat) : Int := max (stAt l j).1 (mnF S.fr (k - 1))
def spk (l : List Stay) (k : Nat) (S : SS) (j : Nat) : Nat := pkF S.fr (sday l k S j) k
def sstep (l : List Stay) (k : Nat) (S : SS) (j : Nat) : SS :=
  ⟨upN S.F (spk l k S j) (some (sday l k S j + (stAt l j).2.1 - (stAt l j).1 + (stAt l j).2.2)), upN S.L (spk l k S j) (some j), upN S.R j (some (sday l k S j, spk l k S j, S.L (spk l k S j)))⟩
def sNone : SS := ⟨fun _ => none, fun _ => none, fun _ => none⟩
def srun (l : List Stay) (k : Nat) (js : List Nat) : SS := js.foldl (sstep l k) sNone
def late (l : List Stay) (k : Nat) : SS := srun l k (sortIx l.length (begOf l))
def dayOf (S : SS) (j : Nat) : Int := match S.R j with
  | some (d, _) => d
  | none => 0
def adrOf (S : SS) (j : Nat) : Nat := match S.R j with
  | some (_, a, _) => a
  | none => 0
def preOf (S : SS) (j : Nat) : Option Nat := match S.R j with
  | some (_, _, p) => p
  | none => none
theorem mn_le {f : Nat → Int} : ∀ {k a : Nat}, a ≤ k → mnF f k ≤ f a
  | 0, a, h => by
    have : a = 0 := by omega
    subst this
    exact Int.le_refl _
  | k + 1, a, h => by
    show min (mnF f k) (f (k + 1)) ≤ f a
    by_cases e : a = k + 1
    · subst e
      exact Int.min_le_right _ _
    · exact Int.le_trans (Int.min_le_left _ _) (mn_le (by omega))
theorem mn_mem (f : Nat → Int) : ∀ k : Nat, ∃ a, a ≤ k ∧ f a = mnF f k
  | 0 => ⟨0, Nat.le_refl _, rfl⟩
  | k + 1 => by
    obtain ⟨a, h1, h2⟩ := mn_mem f k
    show ∃ a, a ≤ k + 1 ∧ f a = min (mnF f k) (f (k + 1))
    by_cases e : mnF f k ≤ f (k + 1)
    · exact ⟨a, by omega, by rw [h2, Int.min_eq_left e]⟩
    · exact ⟨k + 1, by omega, by rw [Int.min_eq_right (by omega)]⟩
theorem range_set {α : Type} (f : Nat → α) (m a : Nat) (x : α) : ((List.range m).map f).set a x = (List.range m).map (upN f a x) := by
  refine List.ext_getElem (by simp) fun i h1 h2 => ?_
  rw [List.getElem_set]
  simp only [List.getElem_map, List.getElem_range]
  unfold upN
  by_cases e : a = i
  · rw [if_pos e, if_pos e.symm]
  · rw [if_neg e, if_neg (fun z => e z.symm)]
theorem up_comp {α β : Type} (g : α → β) (f : Nat → α) (a : Nat) (x : α) : (fun j => g (upN f a x j)) = upN (fun j => g (f j)) a (g x) := by
  funext j
  unfold upN
  by_cases e : j = a
  · rw [if_pos e, if_pos e]
  · rw [if_neg e, if_neg e]
/-- who is free -/
def lowIx (f : Nat → Int) (x : Int) (k : Nat) : List Nat := (List.range k).filter fun a => decide (f a ≤ x)
theorem low_head {f : Nat → Int} {x : Int} {k a : Nat} {as : List Nat} (h : lowIx f x k = a :: as) : pkF f x k = a := by
  unfold pkF
  unfold lowIx at h
  rw [← List.head?_filter, h]
  rfl
theorem low_some {f : Nat → Int} {x : Int} {k a : Nat} (ha : a < k) (h : f a ≤ x) : ∃ b bs, lowIx f x k = b :: bs ∧ b < k ∧ f b ≤ x := by
  have hm : a ∈ lowIx f x k := List.mem_filter.mpr ⟨List.mem_range.mpr ha, decide_eq_true h⟩
  cases e : lowIx f x k with
  | nil => rw [e] at hm; cases hm
  | cons b bs =>
    have hb : b ∈ lowIx f x k := by rw [e]; exact List.mem_cons_self
    unfold lowIx at hb
    obtain ⟨h1, h2⟩ := List.mem_filter.mp hb
    exact ⟨b, bs, rfl, List.mem_range.mp h1, of_decide_eq_true h2⟩
theorem day_some (l : List Stay) {k : Nat} (hk : 1 ≤ k) (S : SS) (j : Nat) : ∃ bs, lowIx S.fr (sday l k S j) k = spk l k S j :: bs ∧ spk l k S j < k ∧ S.fr (spk l k S j) ≤ sday l k S j := by
  obtain ⟨a, h1, h2⟩ := mn_mem S.fr (k - 1)
  obtain ⟨b, bs, e1, e2, e3⟩ := low_some (f := S.fr) (x := sday l k S j) (k := k) (a := a) (by omega) (by rw [h2]; unfold sday; exact Int.le_max_right _ _)
  have e4 : spk l k S j = b := low_head e1
  rw [e4]
  exact ⟨bs, e1, e2, e3⟩
theorem low_list (f : Nat → Int) (x : Int) : ∀ (as : List Nat) (n : Nat), (∀ (i : Nat) a, as[i]? = some a → a = n + i) → (enumOf n (as.map fun a => D.int (f a))).flatMap (fun y => match y with | .tup [.int i, .int z] => if z ≤ x then [.int i] else [] | _ => []) = (as.filter fun a => decide (f a ≤ x)).map fun (a : Nat) => D.int (a : Int)
  | [], n, _ => rfl
  | a :: as, n, h => by
    have ea : a = n := h 0 a rfl
    subst ea
    rw [List.map_cons, enumOf, List.flatMap_cons, low_list f x as (a + 1) (fun i b hb => by have := h (i + 1) b (by simpa using hb); omega), List.filter_cons]
    by_cases e : f a ≤ x
    · rw [if_pos (decide_eq_true e)]
      show (if f a ≤ x then _ else _) ++ _ = _
      rw [if_pos e]
      rfl
    · rw [if_neg (by simpa using e)]
      show (if f a ≤ x then _ else _) ++ _ = _
      rw [if_neg e]
      rfl
theorem low_enum (f : Nat → Int) (x : Int) (k : Nat) : (enumOf 0 ((List.range k).map fun a => D.int (f a))).flatMap (fun y => match y with | .tup [.int i, .int z] => if z ≤ x then [.int i] else [] | _ => []) = (lowIx f x k).map fun (a : Nat) => D.int (a : Int) :=
  low_list f x (List.range k) 0 fun i a h => by
    obtain ⟨_, h2⟩ := List.getElem?_eq_some_iff.mp h
    rw [List.getElem_range] at h2
    omega
/-- what the program's own lists hold -/
def optN : Option Nat → D
  | none => .non
  | some j => .int (j : Int)
def begT : Option (Int × Nat × Option Nat) → D
  | none => .non
  | some (d, _, p) => .tup [.int d, optN p]
def begL (l : List Stay) (S : SS) : List D := (List.range l.length).map fun j => begT (S.R j)
theorem lookD_put (kvs : List (Key × D)) (k k' : Key) (d : D) : lookD (putD kvs k d) k' = if k' = k then some d else lookD kvs k' := by
  unfold putD lookD
  by_cases h : (kvs.any fun kv => decide (kv.1 = k)) = true
  · rw [if_pos h]
    induction kvs with
    | nil => cases h
    | cons kv kvs ih =>
      rw [List.map_cons, List.find?_cons, List.find?_cons]
      by_cases e : kv.1 = k
      · rw [if_pos e]
        dsimp only
        by_cases e2 : k' = k
        · rw [if_pos e2, e2, decide_eq_true e]
          rfl
        · rw [if_neg e2, decide_eq_false (fun z => e2 (z.symm.trans e))]
          dsimp only
          by_cases h2 : (kvs.any fun kv => decide (kv.1 = k)) = true
          · rw [ih h2, if_neg e2]
          · congr 2
            have : kvs.map (fun kv => if kv.1 = k then (kv.1, d) else kv) = kvs := by
              conv => rhs; rw [← List.map_id kvs]
              refine List.map_congr_left fun x hx => ?_
              rw [if_neg (fun z => h2 (List.any_eq_true.mpr ⟨x, hx, decide_eq_true z⟩))]
              rfl
            rw [this]
      · rw [if_neg e]
        have h2 : (kvs.any fun kv => decide (kv.1 = k)) = true := by
          rw [List.any_cons, decide_eq_false e, Bool.false_or] at h
          exact h
        by_cases e3 : kv.1 = k'
        · rw [decide_eq_true e3]
          dsimp only
          rw [if_neg (fun z => e (e3.trans z))]
        · rw [decide_eq_false e3]
          exact ih h2
  · rw [if_neg h, List.find?_append]
    by_cases e : k' = k
    · subst e
      have : kvs.find? (fun kv => decide (kv.1 = k')) = none := List.find?_eq_none.mpr fun x hx z => h (List.any_eq_true.mpr ⟨x, hx, z⟩)
      rw [this, if_pos rfl]
      simp
    · rw [if_neg e]
      rw [List.find?_cons, decide_eq_false (fun z => e z.symm)]
      simp
theorem put_len (kvs : List (Key × D)) (k : Key) (d : D) : (putD kvs k d).length ≤ kvs.length + 1 := by
  unfold putD
  split
  · rw [List.length_map]; omega
  · rw [List.length_append]; exact Nat.le_refl _
end DL
open PySem L2 DL
namespace K68
section
variable {P : Program} {w : World} {K : PySem.W.Frag} {mg : Str → Option Value} {base : Heap} {T : List (Addr × Str)}
theorem sortIx_lt {n : Nat} {b : Nat → Int} {i j : Nat} (h : (sortIx n b)[i]? = some j) : j < n := by
  have := List.mem_of_getElem? h
  unfold sortIx at this
  rw [List.mem_mergeSort, List.mem_range] at this
  exact this
theorem flat_one {α : Type} (n : Nat) (x : α) : (List.replicate n [x]).flatten = List.replicate n x := by
  induction n with
  | zero => rfl
  | succ n ih => rw [List.replicate_succ, List.flatten_cons, ih, List.replicate_succ]; rfl
theorem ixN_nat {n j : Nat} (h : j < n) : ixN n ((j : Nat) : Int) = some j := by
  unfold ixN
  simp
  omega
theorem beg_step (l : List Stay) (k : Nat) (S : SS) (j : Nat) : begL l (sstep l k S j) = (begL l S).set j (D.tup [.int (sday l k S j), optN (S.L (spk l k S j))]) := by
  unfold begL
  rw [range_set]
  congr 1
  exact up_comp begT S.R j _
theorem fr_step (l : List Stay) (k : Nat) (S : SS) (j : Nat) : (sstep l k S j).fr = upN S.fr (spk l k S j) (sday l k S j + (stAt l j).2.1 - (stAt l j).1 + (stAt l j).2.2 + 1) :=
  up_comp (fun o : Option Int => match o with | none => 0 | some x => x + 1) S.F (spk l k S j) _
theorem frl_step (l : List Stay) (k : Nat) (S : SS) (j m : Nat) : ((List.range m).map fun a => D.int ((sstep l k S j).fr a)) = ((List.range m).map fun a => D.int (S.fr a)).set (spk l k S j) (.int (sday l k S j + (stAt l j).2.1 - (stAt l j).1 + (stAt l j).2.2 + 1)) := by
  rw [range_set, fr_step]
  congr 1
  exact up_comp D.int S.fr _ _
/-- begun -/
def begN : DF := fun ds g C => ∃ (l : List Stay) (k : Nat), ds = [.lst (l.map stD), .int (k : Int)] ∧ 1 ≤ k ∧ l.length < 2 ^ 20 ∧ C (.new (begL l (late l (min k (max 1 l.length)))) g)
def bInv (l : List Stay) (k0 : Int) (k : Nat) (ws : List Addr) (g : Nat) (p1 p2 p3 : Addr) : Nat → Ev → Prop := fun i ρ => ∃ kvs s5 s6 s7 s8 s9 s10,
  (s10 = .non ∨ ∃ n : Nat, s10 = .dat (.int (n : Int))) ∧ kvs.length ≤ i ∧ (∀ a : Nat, (lookD kvs (.inl (a : Int))).getD .non = optN ((srun l k ((sortIx l.length (begOf l)).take i)).L a)) ∧
  ρ = ⟨[.dat (.lst (l.map stD)), .dat (.int k0), .own p1 ((List.range k).map fun a => D.int ((srun l k ((sortIx l.length (begOf l)).take i)).fr a)), .box p2 (.dK kvs), .own p3 (begL l (srun l k ((sortIx l.length (begOf l)).take i))), s5, s6, s7, s8, s9, s10, .non], [], ws, g⟩
theorem ok_begun (B : Bi mg) {f : Addr} {fd : FuncData} (F : Fun K "begun" "begun" s_begun f fd) (h3 : Kn P w K mg base T "in_order" 2 ordN) : FnOk P w K mg base (L2.CX P w) 3 f fd ["stays", "many"] (spD K T begN) := by
  refine okD F sc_begun (fun ds g C h => by obtain ⟨l, k, rfl, _⟩ := h; rfl) (fun cdv A outer s H E An ds g C hr tk h => ?_)
  obtain ⟨l, k0, rfl, hk0, hl, h⟩ := h
  have nd := sc_begun.nd
  have hz1 : l.length < sizeLine := by rw [sizeLine_eq]; omega
  show DSs _ T An ⟨[.dat (.lst (l.map stD)), .dat (.int (k0 : Int)), .non, .non, .non, .non, .non, .non, .non, .non, .non, .non], [], An.ws, g⟩ _ _
  refine dss_cons (ds_parV3 rfl nd (dv_mulL ?_))
  walk_at "go"
  refine ⟨by show 1 ≤ sizeLine; decide, fun a1 => ?_⟩
  walk_at "go"
  refine lenD_seq rfl ?_
  rw [List.length_map]
  walk_at "go"
  have em : (if (if (l.length : Int) > 1 then (l.length : Int) else 1) < (k0 : Int) then (if (l.length : Int) > 1 then (l.length : Int) else 1) else (k0 : Int)) = ((min k0 (max 1 l.length) : Nat) : Int) := by
    split <;> split <;> omega
  rw [em]
  generalize ek : min k0 (max 1 l.length) = k at h ⊢
  have hk1 : 1 ≤ k := by omega
  have hk2 : k ≤ 2 ^ 20 := by omega
  refine ⟨by omega, by omega, ?_, fun p1 => ?_⟩
  · show 1 * _ ≤ sizeLine
    rw [sizeLine_eq]
    omega
  refine dv_dict0 fun p2 => ?_
  refine ⟨_, rfl, rfl, dv_mulL ?_⟩
  walk_at "go"
  refine ⟨by show 1 ≤ sizeLine; decide, fun a2 => ?_⟩
  walk_at "go"
  refine lenD_seq rfl ?_
  rw [List.length_map]
  refine ⟨by omega, by omega, ?_, fun p3 => ?_⟩
  · show 1 * _ ≤ sizeLine
    rw [sizeLine_eq]
    omega
  refine ⟨_, rfl, rfl, ?_⟩
  walk_at "n"
  have e1 : (List.replicate (k : Int).toNat [D.int 0]).flatten = (List.range k).map fun a => D.int ((srun l k ((sortIx l.length (begOf l)).take 0)).fr a) := by
    rw [flat_one, Int.toNat_natCast]
    exact (List.eq_replicate_iff.mpr ⟨by simp, fun b hb => by obtain ⟨a, _, rfl⟩ := List.mem_map.mp hb; rfl⟩).symm
  have e2 : (List.replicate (l.length : Int).toNat [D.non]).flatten = begL l (srun l k ((sortIx l.length (begOf l)).take 0)) := by
    rw [flat_one, Int.toNat_natCast]
    exact (List.eq_replicate_iff.mpr ⟨by simp [begL], fun b hb => by obtain ⟨a, _, rfl⟩ := List.mem_map.mp hb; rfl⟩).symm
  rw [e1, e2]
  refine dss_cons (ds_for (passes_of rfl) rfl (di_seq (de_dv ?_)))
  walk_at "v1"
  walk_at "go"
  refine ⟨l, rfl, by omega, fun a3 => ?_⟩
  refine ⟨_, rfl, bInv l k0 k An.ws g p1 p2 p3, ⟨[], .non, .non, .non, .non, .non, .non, .inl rfl, Nat.le_refl _, fun a => rfl, rfl⟩, fun i dd ρ2 ei hI => ?_, fun ρ2 hI => ?_⟩
  · obtain ⟨kvs, s5, s6, s7, s8, s9, s10, h10, hkv, hlk, rfl⟩ := hI
    rw [List.getElem?_map] at ei
    obtain ⟨j, ej, rfl⟩ := Option.map_eq_some_iff.mp ei
    have hj : j < l.length := sortIx_lt ej
    have hi : i < l.length := by
      have := (List.getElem?_eq_some_iff.mp ej).1
      unfold sortIx at this
      rw [List.length_mergeSort, List.length_range] at this
      exact this
    have elj : l[j]? = some l[j] := List.getElem?_eq_getElem hj
    have est : stAt l j = l[j] := by unfold stAt; rw [elj]; rfl
    have elm : (l.map stD)[j]? = some (stD l[j]) := by rw [List.getElem?_map, elj]; rfl
    have nxt : srun l k ((sortIx l.length (begOf l)).take (i + 1)) = sstep l k (srun l k ((sortIx l.length (begOf l)).take i)) j := by
      have pre : (sortIx l.length (begOf l)).take (i + 1) = (sortIx l.length (begOf l)).take i ++ [j] := by
        rw [List.take_add_one, ej]
        rfl
      unfold srun
      rw [pre, List.foldl_append]
      rfl
    generalize eS : srun l k ((sortIx l.length (begOf l)).take i) = S at hlk nxt ⊢
    refine ⟨[5], ?_⟩
    walk_at "gg"
    refine dss_cons (ds_unp ?_)
    walk_at "go"
    refine ixD_seq (j := j) rfl elm rfl ?_
    refine ⟨[6, 7, 8], ?_⟩
    unfold stD
    walk_at "gg"
    refine dss_cons (ds_set nd (dv_look fun An2 ew => ?_))
    refine dv_max rfl B.max ?_
    walk_at "go"
    refine ⟨(List.range k).map S.fr, by rw [List.map_map]; rfl, by rw [List.length_map, List.length_range]; omega, fun m hm1 hm2 => ?_⟩
    have em : m = mnF S.fr (k - 1) := by
      obtain ⟨a, ha, rfl⟩ := List.mem_map.mp hm1
      obtain ⟨b, hb1, hb2⟩ := mn_mem S.fr (k - 1)
      have h1 := hm2 (S.fr b) (List.mem_map.mpr ⟨b, List.mem_range.mpr (by omega), rfl⟩)
      have h2 := mn_le (f := S.fr) (k := k - 1) (a := a) (by have := List.mem_range.mp ha; omega)
      omega
    subst em
    walk_at "go"
    have ed : (if mnF S.fr (k - 1) > l[j].1 then mnF S.fr (k - 1) else l[j].1) = sday l k S j := by
      unfold sday
      rw [est]
      split <;> omega
    rw [ed]
    refine ⟨rfl, ?_⟩
    refine dss_cons (ds_set nd (dv_look fun An3 ew3 => ?_))
    refine dv_de (de_ix (de_dv (dv_lc rfl nd (blkOk_by (own := [("number", 10), ("first", 11)]) (by kernel_rfl)) (di_enum B.enumerate ?_))))
    walk_at "go"
    obtain ⟨bs, el1, el2, el3⟩ := day_some l hk1 S j
    refine ⟨_, rfl, lcd_fm (fun x => match x with | .tup [.int i, .int z] => if z ≤ sday l k S j then [.int i] else [] | _ => []) (by rcases h10 with rfl | ⟨n, rfl⟩ <;> rfl) (by rw [enumOf_len, List.length_map, List.length_range, sizeLine_eq]; omega) (fun i5 y acc D0 ey => ?_) fun a5 => ?_⟩
    · rw [enumOf_get, List.getElem?_map] at ey
      obtain ⟨x, ex, rfl⟩ := Option.map_eq_some_iff.mp ey
      obtain ⟨a, ea, rfl⟩ := Option.map_eq_some_iff.mp ex
      walk_at "blk"
      walk_at "gg"
      walk_at "blk"
      walk_at "go"
      refine ⟨fun e1 => ?_, fun e1 => ?_⟩
      · walk_at "blk"
        walk_at "go"
        have e3 : S.fr a ≤ sday l k S j := of_decide_eq_true e1
        exact ⟨by simp only [e3, if_true], rfl, rfl, rfl⟩
      · have e3 : ¬ S.fr a ≤ sday l k S j := of_decide_eq_false e1
        exact ⟨by simp only [e3, if_false], rfl, rfl, rfl⟩
    · walk_at "go"
      rw [low_enum, el1]
      refine ixD_seq (j := 0) rfl rfl rfl ?_
      refine ⟨rfl, ?_⟩
      walk_at "n"
      refine dss_cons (ds_store ?_)
      walk_at "go"
      refine de_getBox hr.units ?_ ?_
      · exact trivial
      walk_at "go"
      refine ⟨_, rfl, ?_⟩
      rw [hlk]
      walk_at "go"
      refine ⟨by show 2 ≤ sizeLine; decide, ?_⟩
      refine dg_own ?_ ?_
      · exact trivial
      walk_at "go"
      refine ⟨_, j, rfl, ixN_nat (by simp only [begL, List.length_map, List.length_range]; exact hj), ?_⟩
      refine dss_cons (ds_unp ?_)
      walk_at "go"
      refine ⟨by show 2 ≤ sizeLine; decide, [], ?_⟩
      refine dg_tup rfl (And.intro (by rfl) ?_)
      refine dgs_cons ?_
      refine dg_own ?_ ?_
      · exact trivial
      walk_at "go"
      refine ⟨_, spk l k S j, rfl, ixN_nat (by rw [List.length_map, List.length_range]; exact el2), ?_⟩
      refine dgs_cons ?_
      refine dg_ownK hr.units ?_ ?_
      · exact trivial
      walk_at "go"
      refine ⟨_, rfl, by omega, ?_⟩
      refine dgs_nil ?_
      refine dss_nil ?_
      refine ⟨putD kvs (.inl ((spk l k S j : Nat) : Int)) (idD j), .dat (idD j), .dat (.int l[j].1), .dat (.int l[j].2.1), .dat (.int l[j].2.2), .dat (.int (sday l k S j)), .dat (.int (spk l k S j : Nat)), .inr ⟨_, rfl⟩, ?_, fun a => ?_, ?_⟩
      · have := put_len kvs (.inl ((spk l k S j : Nat) : Int)) (idD j)
        omega
      · rw [nxt, lookD_put]
        show _ = optN (upN S.L (spk l k S j) (some j) a)
        unfold upN
        by_cases e : a = spk l k S j
        · rw [if_pos e, if_pos (by rw [e])]
          rfl
        · rw [if_neg e, if_neg (fun z => e (by have := Sum.inl.inj z; omega))]
          exact hlk a
      · rw [nxt, beg_step, frl_step, est]
        rfl
  · obtain ⟨kvs, s5, s6, s7, s8, s9, s10, h10, hkv, hlk, rfl⟩ := hI
    have eln : (sortIx l.length (begOf l)).length = l.length := by unfold sortIx; rw [List.length_mergeSort, List.length_range]
    rw [List.length_map, List.take_length] at *
    have ee : srun l k (sortIx l.length (begOf l)) = late l k := rfl
    rw [ee]
    walk_at "s1"
    walk_at "s1"
    refine dv_back ?_
    exact ⟨rfl, h⟩
end
end K68
end

section
namespace DL
open PySem L2
def isPos : D → Bool
  | .int i => decide (1 ≤ i)
  | _ => false
theorem isPos_int {d : D} (h : isPos d = true) : ∃ i : Nat, d = .int (i : Int) ∧ 1 ≤ i := by
  cases d <;> first | (cases h; done) | skip
  rename_i i
  have : 1 ≤ i := of_decide_eq_true h
  exact ⟨i.toNat, by rw [Int.toNat_of_nonneg (by omega)], by omega⟩
theorem fold_some (l : List Stay) (k : Nat) : ∀ (js : List Nat) (S : SS) (j : Nat), (j ∈ js ∨ ∃ t, S.R j = some t) → ∃ t, (js.foldl (sstep l k) S).R j = some t
  | [], S, j, h => by
    rcases h with h | h
    · cases h
    · exact h
  | i :: js, S, j, h => by
    refine fold_some l k js (sstep l k S i) j ?_
    by_cases e : j = i
    · refine .inr ⟨(sday l k S i, spk l k S i, S.L (spk l k S i)), ?_⟩
      show upN S.R i _ j = _
      unfold upN
      rw [if_pos e]
    · rcases h with h | h
      · rcases List.mem_cons.mp h with h | h
        · exact absurd h e
        · exact .inl h
      · obtain ⟨t, h⟩ := h
        refine .inr ⟨t, ?_⟩
        show upN S.R i _ j = _
        unfold upN
        rw [if_neg e]
        exact h
theorem late_some (l : List Stay) (k : Nat) {j : Nat} (hj : j < l.length) : ∃ t, (late l k).R j = some t := by
  refine fold_some l k _ sNone j (.inl ?_)
  unfold sortIx
  rw [List.mem_mergeSort, List.mem_range]
  exact hj
theorem beg_tup (l : List Stay) (k : Nat) : begL l (late l k) = (List.range l.length).map fun j => .tup [.int (dayOf (late l k) j), optN (preOf (late l k) j)] := by
  unfold begL
  refine List.map_congr_left fun j hj => ?_
  obtain ⟨⟨d, a, p⟩, e⟩ := late_some l k (List.mem_range.mp hj)
  unfold dayOf preOf
  rw [e]
  rfl
def lateP (l : List Stay) (k : Nat) : SS := late l (min k (max 1 l.length))
def wst (l : List Stay) (S : SS) : Int := match (List.range l.length).map (fun j => dayOf S j - (stAt l j).1) with
  | [] => 0
  | n :: ns => ns.foldl max n
/-- stays refused, a number refused, or what is asked -/
def preS (CS CM : Addr) (d m : D) (g : Nat) (C : Out → Prop) (body : List Stay → Nat → Prop) : Prop :=
  wt d = true ∧ wt m = true ∧ (items d).length < 2 ^ 20 ∧ ((oddOf isStay d ≠ .non ∧ C (.exc CS [("index", oddOf isStay d)] g)) ∨
    ∃ l : List Stay, oddOf isStay d = .non ∧ (items d).map K68.tupS = l.map stD ∧ l.length < 2 ^ 20 ∧ ((isPos m = false ∧ C (.exc CM [("many", m)] g)) ∨ ∃ k : Nat, m = .int (k : Int) ∧ 1 ≤ k ∧ body l k))
theorem st_get {l : List Stay} {j : Nat} (hj : j < l.length) : (l.map stD)[j]? = some (stD (stAt l j)) := by
  unfold stAt
  rw [List.getElem?_map, List.getElem?_eq_getElem hj]
  rfl
theorem zip_range (l : List Stay) (f : Nat → D) : zipOf ((List.range l.length).map f) (l.map stD) = (List.range l.length).map fun j => .tup [f j, stD (stAt l j)] := by
  refine List.ext_getElem? fun i => ?_
  rw [zipOf_get]
  by_cases h : i < l.length
  · rw [st_get h, List.getElem?_map, List.getElem?_map, List.getElem?_range h]
    rfl
  · have e1 : (List.range l.length)[i]? = none := List.getElem?_eq_none (by rw [List.length_range]; omega)
    rw [List.getElem?_map, List.getElem?_map, List.getElem?_map, e1]
    rfl
end DL
open PySem L2 DL
namespace K68
section
variable {P : Program} {w : World} {K : PySem.W.Frag} {mg : Str → Option Value} {base : Heap} {T : List (Addr × Str)}
theorem ok_is_positive (B : Bi mg) {f : Addr} {fd : FuncData} (F : Fun K "is_positive" "is_positive" s_is_positive f fd) (h1 : Kn P w K mg base T "is_whole" 1 (pred isWhole)) : FnOk P w K mg base (L2.CX P w) 2 f fd ["thing"] (spD K T (pred isPos)) := by
  refine okD F sc_is_positive pred_len (fun cdv A outer s H E An ds g C hr tk h => ?_)
  obtain ⟨d, rfl, ty, h⟩ := h
  show DSs _ T An ⟨[.dat d], [], An.ws, g⟩ _ _
  walk_at "go"
  refine ⟨_, rfl, ty, fun e => ?_, fun e => ?_⟩
  · cases d <;> first | (cases e; done) | skip
    walk_at "go"
    exact ⟨.inl rfl, h⟩
  · refine ⟨.inl rfl, ?_⟩
    have e2 : isPos d = false := by
      cases d <;> first | rfl | (cases e)
    rw [← e2]
    exact h
theorem ok_check_some (B : Bi mg) {CM : Addr} (eM : KnE P w K mg base "BadMany" CM "many") {f : Addr} {fd : FuncData} (F : Fun K "check_some" "check_some" s_check_some f fd) (h1 : Kn P w K mg base T "is_positive" 2 (pred isPos)) : FnOk P w K mg base (L2.CX P w) 3 f fd ["many"] (spD K T (cmN isPos CM "many")) := by
  refine okD F sc_check_some (fun ds g C h => by obtain ⟨d, rfl, _⟩ := h; rfl) (fun cdv A outer s H E An ds g C hr tk h => ?_)
  obtain ⟨d, rfl, ty, h⟩ := h
  have nd := sc_check_some.nd
  show DSs _ T An ⟨[.dat d], [], An.ws, g⟩ _ _
  walk_at "go"
  refine ⟨d, rfl, ty, _, rfl, fun e => ?_, fun e => ?_⟩
  · have e1 : isPos d = false := by simpa using e
    walk_at "s1"
    refine ds_raise eM (hr.mono (by decide)) tk ?_
    walk_at "go"
    rcases h with ⟨z, _⟩ | ⟨_, h⟩
    · rw [e1] at z; cases z
    · exact ⟨rfl, h⟩
  · have e1 : isPos d = true := by simpa using e
    walk_at "go"
    rcases h with ⟨_, h⟩ | ⟨z, _⟩
    · exact h
    · rw [e1] at z; cases z
/-- late_begins -/
def ltbN (CS CM : Addr) : DF := fun ds g C => ∃ d m, ds = [d, m] ∧ preS CS CM d m g C fun l k => C (.new ((List.range l.length).map fun j => D.int (dayOf (lateP l k) j)) g)
theorem ok_late_begins (B : Bi mg) {CS CM f : Addr} {fd : FuncData} (F : Fun K "late_begins" "late_begins" s_late_begins f fd) (h1 : Kn P w K mg base T "checked_stays" 7 (chkN CS)) (h2 : Kn P w K mg base T "check_some" 3 (cmN isPos CM "many")) (h3 : Kn P w K mg base T "begun" 3 begN) : FnOk P w K mg base (L2.CX P w) 8 f fd ["stays", "many"] (spD K T (ltbN CS CM)) := by
  refine okD F sc_late_begins (fun ds g C h => by obtain ⟨d, m, rfl, _⟩ := h; rfl) (fun cdv A outer s H E An ds g C hr tk h => ?_)
  obtain ⟨d, m, rfl, ty, tm, hz, h⟩ := h
  have nd := sc_late_begins.nd
  have hz1 : (items d).length < sizeLine := by rw [sizeLine_eq]; omega
  show DSs _ T An ⟨[.dat d, .dat m, .non, .non, .non], [], An.ws, g⟩ _ _
  walk_at "go"
  refine ⟨d, rfl, ty, hz1, ?_⟩
  rcases h with ⟨eo, h⟩ | ⟨l, eo, el, hl, h⟩
  · exact .inr ⟨eo, rfl, h⟩
  refine .inl ⟨eo, ?_⟩
  intro a
  rw [el]
  walk_at "go"
  refine ds_expr ?_
  walk_at "go"
  refine ⟨m, rfl, tm, ?_⟩
  rcases h with ⟨em, h⟩ | ⟨k, rfl, hk, h⟩
  · exact .inr ⟨em, rfl, h⟩
  refine .inl ⟨by show decide _ = true; exact decide_eq_true (by omega), ?_⟩
  walk_at "go"
  refine dv_lc rfl nd (blkOk_by (own := [("day", 3), ("_", 4)]) (by kernel_rfl)) (di_seq (de_dv ?_))
  walk_at "v1"
  walk_at "go"
  refine ⟨l, k, rfl, hk, hl, fun a2 => ?_⟩
  rw [beg_tup]
  refine ⟨_, rfl, lcd_fm (fun x => match x with | .tup [y, _] => [y] | _ => []) rfl (by rw [List.length_map, List.length_range, sizeLine_eq]; omega) (fun i y acc D0 ey => ?_) fun a => ?_⟩
  · rw [List.getElem?_map] at ey
    obtain ⟨j, ej, rfl⟩ := Option.map_eq_some_iff.mp ey
    walk_at "blk"
    walk_at "gg"
    walk_at "blk"
    refine dts_nil ⟨fun _ => ?_, fun z => (by cases z)⟩
    walk_at "blk"
    walk_at "go"
    exact ⟨rfl, rfl, rfl, rfl⟩
  · refine ⟨rfl, ?_⟩
    rw [List.flatMap_map, ← List.map_eq_flatMap]
    exact h
/-- most_late -/
def wstN : DF := fun ds g C => ∃ (l : List Stay) (k : Nat), ds = [.lst (l.map stD), .int (k : Int)] ∧ 1 ≤ k ∧ l.length < 2 ^ 20 ∧ C (.ret (.int (wst l (lateP l k))) g)
theorem ok_most_late (B : Bi mg) {f : Addr} {fd : FuncData} (F : Fun K "most_late" "most_late" s_most_late f fd) (h3 : Kn P w K mg base T "begun" 3 begN) : FnOk P w K mg base (L2.CX P w) 4 f fd ["stays", "many"] (spD K T wstN) := by
  refine okD F sc_most_late (fun ds g C h => by obtain ⟨d, m, rfl, _⟩ := h; rfl) (fun cdv A outer s H E An ds g C hr tk h => ?_)
  obtain ⟨l, k, rfl, hk, hl, h⟩ := h
  have nd := sc_most_late.nd
  show DSs _ T An ⟨[.dat (.lst (l.map stD)), .dat (.int (k : Int)), .non, .non, .non], [], An.ws, g⟩ _ _
  walk_at "s1"
  walk_at "s1"
  refine dv_maxDef B (hr.mono (by decide)) (de_dv (dv_lc rfl nd (blkOk_by (own := [("day", 2), ("_", 3), ("stay", 4)]) (by kernel_rfl)) (di_zip B.zip (da_cons (de_dv ?_)))))
  walk_at "v1"
  walk_at "go"
  refine ⟨l, k, rfl, hk, hl, fun a2 => ?_⟩
  walk_at "go"
  refine .inl ⟨_, _, rfl, rfl, ?_⟩
  rw [beg_tup, zip_range]
  refine lcd_fm (fun x => match x with | .tup [.tup [.int y, _], .tup [.int z, _, _]] => [.int (y - z)] | _ => []) rfl (by rw [List.length_map, List.length_range, sizeLine_eq]; omega) (fun i y acc D0 ey => ?_) fun a => ?_
  · rw [List.getElem?_map] at ey
    obtain ⟨j, ej, rfl⟩ := Option.map_eq_some_iff.mp ey
    walk_at "blk"
    walk_at "gg"
    walk_at "blk"
    refine dts_nil ⟨fun _ => ?_, fun z => (by cases z)⟩
    walk_at "blk"
    walk_at "go"
    refine ixD_seq (j := 0) rfl rfl rfl ?_
    walk_at "n"
    exact ⟨rfl, rfl, rfl, rfl⟩
  · walk_at "go"
    refine ⟨(List.range l.length).map fun j => dayOf (lateP l k) j - (stAt l j).1, ?_, .inl rfl, ?_⟩
    · show some _ = some _
      congr 1
      rw [List.flatMap_map, List.map_map]
      exact (List.map_eq_flatMap).symm
    · have e : extD max ((List.range l.length).map fun j => dayOf (lateP l k) j - (stAt l j).1) (.int 0) = .int (wst l (lateP l k)) := by
        unfold wst
        cases ((List.range l.length).map fun j => dayOf (lateP l k) j - (stAt l j).1) <;> rfl
      rw [e]
      exact h
/-- latest -/
def ltsN (CS CM : Addr) : DF := fun ds g C => ∃ d m, ds = [d, m] ∧ preS CS CM d m g C fun l k => C (.ret (.int (wst l (lateP l k))) g)
theorem ok_latest (B : Bi mg) {CS CM f : Addr} {fd : FuncData} (F : Fun K "latest" "latest" s_latest f fd) (h1 : Kn P w K mg base T "checked_stays" 7 (chkN CS)) (h2 : Kn P w K mg base T "check_some" 3 (cmN isPos CM "many")) (h3 : Kn P w K mg base T "most_late" 4 wstN) : FnOk P w K mg base (L2.CX P w) 8 f fd ["stays", "many"] (spD K T (ltsN CS CM)) := by
  refine okD F sc_latest (fun ds g C h => by obtain ⟨d, m, rfl, _⟩ := h; rfl) (fun cdv A outer s H E An ds g C hr tk h => ?_)
  obtain ⟨d, m, rfl, ty, tm, hz, h⟩ := h
  have nd := sc_latest.nd
  have hz1 : (items d).length < sizeLine := by rw [sizeLine_eq]; omega
  show DSs _ T An ⟨[.dat d, .dat m, .non], [], An.ws, g⟩ _ _
  walk_at "go"
  refine ⟨d, rfl, ty, hz1, ?_⟩
  rcases h with ⟨eo, h⟩ | ⟨l, eo, el, hl, h⟩
  · exact .inr ⟨eo, rfl, h⟩
  refine .inl ⟨eo, ?_⟩
  intro a
  rw [el]
  walk_at "go"
  refine ds_expr ?_
  walk_at "go"
  refine ⟨m, rfl, tm, ?_⟩
  rcases h with ⟨em, h⟩ | ⟨k, rfl, hk, h⟩
  · exact .inr ⟨em, rfl, h⟩
  refine .inl ⟨by show decide _ = true; exact decide_eq_true (by omega), ?_⟩
  walk_at "go"
  exact ⟨l, k, rfl, hk, hl, .inl rfl, h⟩
end
end K68
end

section
namespace DL
open PySem L2
/-! ### who is in the way -/
def way (l : List Stay) (S : SS) : Nat → Nat → List Nat
  | 0, j => [j]
  | n + 1, j => if (stAt l j).1 < dayOf S j then (match preOf S j with
    | some p => way l S n p ++ [j]
    | none => [j]) else [j]
def wayG (l : List Stay) (S : SS) (j : Nat) : List Nat := way l S (dayOf S j).toNat j
structure GoodS (l : List Stay) (S : SS) : Prop where
  nn : ∀ j, j < l.length → 0 ≤ (stAt l j).1 ∧ (stAt l j).1 ≤ dayOf S j
  pre : ∀ j, j < l.length → (stAt l j).1 < dayOf S j → ∃ p, preOf S j = some p ∧ p < l.length ∧ dayOf S p < dayOf S j
theorem way_on {l : List Stay} {S : SS} {j : Nat} (h : ¬ (stAt l j).1 < dayOf S j) : ∀ n, way l S n j = [j]
  | 0 => rfl
  | n + 1 => if_neg h
theorem way_fuel {l : List Stay} {S : SS} (G : GoodS l S) : ∀ (n m j : Nat), j < l.length → (dayOf S j).toNat ≤ n → (dayOf S j).toNat ≤ m → way l S n j = way l S m j
  | 0, m, j, hj, h1, _ => by
    obtain ⟨q1, q2⟩ := G.nn j hj
    rw [way_on (by omega), way_on (by omega)]
  | n + 1, 0, j, hj, _, h2 => by
    obtain ⟨q1, q2⟩ := G.nn j hj
    rw [way_on (by omega), way_on (by omega)]
  | n + 1, m + 1, j, hj, h1, h2 => by
    by_cases h : (stAt l j).1 < dayOf S j
    · obtain ⟨p, e, hp, hd⟩ := G.pre j hj h
      obtain ⟨q1, q2⟩ := G.nn p hp
      unfold way
      rw [if_pos h, if_pos h, e]
      dsimp only
      rw [way_fuel G n m p hp (by omega) (by omega)]
    · rw [way_on h, way_on h]
theorem wayG_on {l : List Stay} {S : SS} {j : Nat} (h : ¬ (stAt l j).1 < dayOf S j) : wayG l S j = [j] := way_on h _
theorem wayG_late {l : List Stay} {S : SS} (G : GoodS l S) {j p : Nat} (hj : j < l.length) (h : (stAt l j).1 < dayOf S j) (e : preOf S j = some p) : wayG l S j = wayG l S p ++ [j] := by
  obtain ⟨p', e', hp, hd⟩ := G.pre j hj h
  rw [e] at e'
  cases e'
  obtain ⟨q1, q2⟩ := G.nn j hj
  obtain ⟨q3, q4⟩ := G.nn p hp
  obtain ⟨n, en⟩ : ∃ n, (dayOf S j).toNat = n + 1 := ⟨(dayOf S j).toNat - 1, by omega⟩
  unfold wayG
  rw [en]
  show (if (stAt l j).1 < dayOf S j then (match preOf S j with
    | some p => way l S n p ++ [j]
    | none => [j]) else [j]) = _
  rw [if_pos h, e]
  dsimp only
  rw [way_fuel G n (dayOf S p).toNat p hp (by omega) (Nat.le_refl _)]
theorem way_len {l : List Stay} {S : SS} (G : GoodS l S) : ∀ (n j : Nat), (way l S n j).length ≤ n + 1
  | 0, j => Nat.le_refl _
  | n + 1, j => by
    unfold way
    split
    · split
      · rw [List.length_append, List.length_singleton]
        have := way_len G n ‹_›
        omega
      · simp
    · simp
end DL
open PySem L2 DL
namespace K68
section
variable {P : Program} {w : World} {K : PySem.W.Frag} {mg : Str → Option Value} {base : Heap} {T : List (Addr × Str)}
/-- in_the_way -/
def wayN (CS CM CI : Addr) : DF := fun ds g C => ∃ d m x, ds = [d, m, x] ∧ wt x = true ∧ preS CS CM d m g C fun l k =>
  (isNum x = false ∧ C (.exc CI [("index", x)] g)) ∨ ∃ i : Nat, x = .int (i : Int) ∧ ((l.length ≤ i ∧ C (.exc CI [("index", x)] g)) ∨ (i < l.length ∧ GoodS l (lateP l k) ∧ (∀ j, j < l.length → (wayG l (lateP l k) j).length ≤ l.length) ∧ C (.new ((wayG l (lateP l k) i).map idD) g)))
def wyInv (l : List Stay) (S : SS) (d m : D) (i0 : Nat) (p1 p2 : Addr) (ws : List Addr) (g : Nat) : Nat → Ev → Prop := fun n ρ => ∃ h t, h < l.length ∧ (dayOf S h).toNat ≤ n ∧ wayG l S h ++ t = wayG l S i0 ∧
  ρ = ⟨[.dat d, .dat m, .dat (.int (i0 : Int)), .dat (.lst (l.map stD)), .own p1 (begL l S), .own p2 ((h :: t).map idD)], [], ws, g⟩
theorem ok_in_the_way (B : Bi mg) {CS CM CI f : Addr} (eI : KnE P w K mg base "BadIndex" CI "index") {fd : FuncData} (F : Fun K "in_the_way" "in_the_way" s_in_the_way f fd) (h1 : Kn P w K mg base T "checked_stays" 7 (chkN CS)) (h2 : Kn P w K mg base T "check_some" 3 (cmN isPos CM "many")) (h4 : Kn P w K mg base T "is_number" 2 (pred isNum)) (h3 : Kn P w K mg base T "begun" 3 begN) : FnOk P w K mg base (L2.CX P w) 8 f fd ["stays", "many", "index"] (spD K T (wayN CS CM CI)) := by
  refine okD F sc_in_the_way (fun ds g C h => by obtain ⟨d, m, x, rfl, _⟩ := h; rfl) (fun cdv A outer s H E An ds g C hr tk h => ?_)
  obtain ⟨d, m, x, rfl, tx, ty, tm, hz, h⟩ := h
  have nd := sc_in_the_way.nd
  have hz1 : (items d).length < sizeLine := by rw [sizeLine_eq]; omega
  show DSs _ T An ⟨[.dat d, .dat m, .dat x, .non, .non, .non], [], An.ws, g⟩ _ _
  walk_at "go"
  refine ⟨d, rfl, ty, hz1, ?_⟩
  rcases h with ⟨eo, h⟩ | ⟨l, eo, el, hl, h⟩
  · exact .inr ⟨eo, rfl, h⟩
  refine .inl ⟨eo, ?_⟩
  intro a
  rw [el]
  walk_at "go"
  refine ds_expr ?_
  walk_at "go"
  refine ⟨m, rfl, tm, ?_⟩
  rcases h with ⟨em, h⟩ | ⟨k, rfl, hk, h⟩
  · exact .inr ⟨em, rfl, h⟩
  refine .inl ⟨by show decide _ = true; exact decide_eq_true (by omega), ?_⟩
  walk_at "go"
  refine ⟨x, rfl, tx, ?_⟩
  rcases h with ⟨ex, h⟩ | ⟨i0, rfl, h⟩
  · rw [ex]
    refine ⟨_, rfl, fun _ => ?_, fun z => (by cases z)⟩
    refine ⟨fun _ => ?_, fun z => (by cases z)⟩
    walk_at "s1"
    refine ds_raise eI (hr.mono (by decide)) tk ?_
    walk_at "go"
    exact ⟨rfl, h⟩
  · have ex : isNum (.int (i0 : Int)) = true := by show decide ((0 : Int) ≤ (i0 : Int)) = true; exact decide_eq_true (by omega)
    rw [ex]
    refine ⟨_, rfl, fun z => (by cases z), fun _ => ?_⟩
    walk_at "go"
    refine lenD_seq rfl ?_
    rw [List.length_map]
    walk_at "go"
    rcases h with ⟨hi, h⟩ | ⟨hi, G, hL, h⟩
    · refine ⟨fun _ => ?_, fun z => ?_⟩
      · walk_at "s1"
        refine ds_raise eI (hr.mono (by decide)) tk ?_
        walk_at "go"
        exact ⟨rfl, h⟩
      · have : ¬ ((l.length : Int) ≤ (i0 : Int)) := by simpa using z
        omega
    · refine ⟨fun z => ?_, fun _ => ?_⟩
      · have : ((l.length : Int) ≤ (i0 : Int)) := by simpa using z
        omega
      walk_at "go"
      refine ds_parV rfl nd ?_
      walk_at "v1"
      walk_at "go"
      refine ⟨l, k, rfl, hk, hl, fun p1 => ?_⟩
      walk_at "go"
      refine ⟨by show 1 ≤ sizeLine; decide, fun p2 => ?_⟩
      refine ⟨_, rfl, rfl, ?_⟩
      walk_at "n"
      have eL : late l (min k (max 1 l.length)) = lateP l k := rfl
      rw [eL]
      have getB : ∀ j, j < l.length → (begL l (lateP l k))[j]? = some (.tup [.int (dayOf (lateP l k) j), optN (preOf (lateP l k) j)]) := fun j hj => by
        show (begL l (late l (min k (max 1 l.length))))[j]? = _
        rw [beg_tup, List.getElem?_map, List.getElem?_range hj]
        rfl
      generalize lateP l k = S at G hL h getB ⊢
      refine dss_cons (ds_while (passes_of rfl) (wyInv l S d (.int (k : Int)) i0 p1 p2 An.ws g) ⟨_, i0, [], hi, Nat.le_refl _, List.append_nil _, rfl⟩ fun n ρ1 hI => ?_)
      obtain ⟨j, t, hj, hn, ew, rfl⟩ := hI
      refine dt_look fun An2 ew2 => ?_
      walk_at "go"
      refine ixD_seq (j := 0) rfl rfl rfl ?_
      refine ixD_seq (j := j) rfl (getB j hj) rfl ?_
      walk_at "go"
      refine ixD_seq (j := 0) rfl rfl rfl ?_
      walk_at "go"
      refine ixD_seq (j := 0) rfl rfl rfl ?_
      refine ixD_seq (j := j) rfl (st_get hj) rfl ?_
      walk_at "go"
      refine ixD_seq (j := 0) (show seqD (stD (stAt l j)) = some _ from rfl) rfl rfl ?_
      walk_at "n"
      refine ⟨fun e => ?_, fun e => ?_⟩
      · have e1 : (stAt l j).1 < dayOf S j := of_decide_eq_true e
        obtain ⟨p, ep, hp, hd⟩ := G.pre j hj e1
        obtain ⟨q1, q2⟩ := G.nn p hp
        refine dss_cons (ds_ins ?_ (da_cons (de_int (da_cons (de_dv (dv_look fun An3 ew3 => ?_))))))
        · exact trivial
        walk_at "go"
        refine ixD_seq (j := 0) rfl rfl rfl ?_
        refine ixD_seq (j := j) rfl (getB j hj) rfl ?_
        walk_at "go"
        refine ixD_seq (j := 1) rfl rfl rfl ?_
        rw [ep]
        refine ⟨rfl, ?_⟩
        have ew2 := wayG_late G hj e1 ep
        have hlen := hL i0 hi
        have hj2 := congrArg List.length ew
        have hj3 := congrArg List.length ew2
        rw [List.length_append] at hj2 hj3
        refine da_nil ⟨0, .int (p : Int), rfl, by decide, by decide, ?_, ?_⟩
        · rw [List.length_map, List.length_cons, sizeLine_eq]
          have : 1 ≤ (wayG l S j).length := by rw [hj3]; exact Nat.le_add_left _ _
          omega
        refine dss_nil ?_
        refine ⟨(dayOf S p).toNat, by omega, p, j :: t, hp, Nat.le_refl _, ?_, rfl⟩
        rw [← ew, ew2, List.append_assoc]
        rfl
      · have e1 : ¬ (stAt l j).1 < dayOf S j := of_decide_eq_false e
        walk_at "s1"
        walk_at "s1"
        refine dv_back ?_
        refine ⟨rfl, ?_⟩
        rw [← ew, wayG_on e1] at h
        exact h
/-- addresses_for -/
def adfN (CS CD : Addr) : DF := fun ds g C => ∃ d x, ds = [d, x] ∧ wt d = true ∧ wt x = true ∧ (items d).length < 2 ^ 20 ∧ ((oddOf isStay d ≠ .non ∧ C (.exc CS [("index", oddOf isStay d)] g)) ∨
    ∃ l : List Stay, oddOf isStay d = .non ∧ (items d).map K68.tupS = l.map stD ∧ l.length < 2 ^ 20 ∧ ((isNum x = false ∧ C (.exc CD [("day", x)] g)) ∨
      ∃ (i : Int) (r : Nat), x = .int i ∧ isNum x = true ∧ 1 ≤ r ∧ wst l (lateP l r) ≤ i ∧ (∀ r', 1 ≤ r' → r' < r → i < wst l (lateP l r')) ∧ C (.ret (.int (r : Int)) g)))
theorem ok_addresses_for (B : Bi mg) {CS CD f : Addr} (eD : KnE P w K mg base "BadDay" CD "day") {fd : FuncData} (F : Fun K "addresses_for" "addresses_for" s_addresses_for f fd) (h1 : Kn P w K mg base T "checked_stays" 7 (chkN CS)) (h4 : Kn P w K mg base T "is_number" 2 (pred isNum)) (h3 : Kn P w K mg base T "most_late" 4 wstN) : FnOk P w K mg base (L2.CX P w) 8 f fd ["stays", "late"] (spD K T (adfN CS CD)) := by
  refine okD F sc_addresses_for (fun ds g C h => by obtain ⟨d, x, rfl, _⟩ := h; rfl) (fun cdv A outer s H E An ds g C hr tk h => ?_)
  obtain ⟨d, x, rfl, ty, tx, hz, h⟩ := h
  have nd := sc_addresses_for.nd
  have hz1 : (items d).length < sizeLine := by rw [sizeLine_eq]; omega
  show DSs _ T An ⟨[.dat d, .dat x, .non, .non], [], An.ws, g⟩ _ _
  walk_at "go"
  refine ⟨d, rfl, ty, hz1, ?_⟩
  rcases h with ⟨eo, h⟩ | ⟨l, eo, el, hl, h⟩
  · exact .inr ⟨eo, rfl, h⟩
  refine .inl ⟨eo, ?_⟩
  intro a
  rw [el]
  walk_at "go"
  refine ⟨x, rfl, tx, _, rfl, fun e => ?_, fun e => ?_⟩
  · have e1 : isNum x = false := by simpa using e
    walk_at "s1"
    refine ds_raise eD (hr.mono (by decide)) tk ?_
    walk_at "go"
    rcases h with ⟨_, h⟩ | ⟨i, r, rfl, e2, _⟩
    · exact ⟨rfl, h⟩
    · rw [e1] at e2; cases e2
  have e1 : isNum x = true := by simpa using e
  rcases h with ⟨e2, _⟩ | ⟨i, r, rfl, _, hr1, hr2, hr3, h⟩
  · rw [e1] at e2; cases e2
  walk_at "go"
  refine ds_while (passes_of rfl) (fun m ρ => ∃ q s2, (s2 = .own a (l.map stD) ∨ s2 = .dat (.lst (l.map stD))) ∧ 1 ≤ q ∧ q + m = r ∧ ρ = ⟨[.dat d, .dat (.int i), s2, .dat (.int ((q : Nat) : Int))], [], An.ws, g⟩) ⟨r - 1, 1, _, .inl rfl, Nat.le_refl _, by omega, rfl⟩ fun n ρ1 hI => ?_
  obtain ⟨q, s2, hs2, hq, hqn, rfl⟩ := hI
  rcases hs2 with rfl | rfl
  all_goals
    refine dt_gt ?_
    walk_at "go"
    refine ⟨l, q, rfl, hq, hl, ?_⟩
    walk_at "go"
    refine ⟨fun e => ?_, fun e => ?_⟩
    · have e1 : i < wst l (lateP l q) := of_decide_eq_true e
      have hqr : q ≠ r := fun z => by rw [z] at e1; omega
      refine dss_cons (ds_augI nd ⟨_, rfl, ?_⟩)
      walk_at "go"
      exact ⟨_, rfl, dss_nil ⟨n - 1, by omega, q + 1, _, .inr rfl, by omega, by omega, rfl⟩⟩
    · have e1 : ¬ i < wst l (lateP l q) := of_decide_eq_false e
      have hqr : q = r := by
        by_cases z : q < r
        · exact absurd (hr3 q hq z) e1
        · omega
      subst hqr
      walk_at "go"
      exact ⟨.inl rfl, h⟩
end
end K68
end

section
namespace DL
open PySem L2
def latL (l : List Stay) (S : SS) : List D := (List.range l.length).map fun j => .tup [.int (dayOf S j), .int ((adrOf S j : Nat) : Int)]
def latT : Option (Int × Nat × Option Nat) → D
  | none => .non
  | some (d, a, _) => .tup [.int d, .int (a : Int)]
def latR (l : List Stay) (S : SS) : List D := (List.range l.length).map fun j => latT (S.R j)
theorem lat_tup (l : List Stay) (k : Nat) : latR l (late l k) = latL l (late l k) := by
  unfold latR latL
  refine List.map_congr_left fun j hj => ?_
  obtain ⟨⟨d, a, p⟩, e⟩ := late_some l k (List.mem_range.mp hj)
  unfold dayOf adrOf
  rw [e]
  rfl
theorem latR_step (l : List Stay) (k : Nat) (S : SS) (j : Nat) : latR l (sstep l k S j) = (latR l S).set j (D.tup [.int (sday l k S j), .int ((spk l k S j : Nat) : Int)]) := by
  unfold latR
  rw [range_set]
  congr 1
  exact up_comp latT S.R j _
def optI : Option Int → D
  | none => .non
  | some x => .int x
theorem bnd_step (l : List Stay) (k : Nat) (S : SS) (j m : Nat) : ((List.range m).map fun a => optI ((sstep l k S j).F a)) = ((List.range m).map fun a => optI (S.F a)).set (spk l k S j) (.int (sday l k S j + (stAt l j).2.1 - (stAt l j).1 + (stAt l j).2.2)) := by
  rw [range_set]
  congr 1
  exact up_comp optI S.F _ _
theorem pk_first {f : Nat → Int} {x : Int} {k a : Nat} (hk : ∃ b, b < k ∧ f b ≤ x) (h : a < pkF f x k) : ¬ f a ≤ x := by
  obtain ⟨b, hb, hx⟩ := hk
  intro ha
  unfold pkF at h
  cases e : (List.range k).find? (fun a => decide (f a ≤ x)) with
  | none =>
    rw [e] at h
    exact absurd h (Nat.not_lt_zero _)
  | some c =>
    rw [e] at h
    obtain ⟨_, _, q⟩ := List.find?_range_eq_some.mp e
    have := q a h
    simp [ha] at this
/-- the days, address by address -/
def dysL (l : List Stay) (k : Nat) (S : SS) (j : Nat) : List Int := (List.range k).map fun a => max (stAt l j).1 (S.fr a)
theorem dys_get {l : List Stay} {k : Nat} {S : SS} {j a : Nat} (h : a < k) : (dysL l k S j)[a]? = some (max (stAt l j).1 (S.fr a)) := by
  unfold dysL
  rw [List.getElem?_map, List.getElem?_range h]
  rfl
theorem dys_min {l : List Stay} {k : Nat} {S : SS} {j : Nat} {m : Int} (hk : 1 ≤ k) (h1 : m ∈ dysL l k S j) (h2 : ∀ y, y ∈ dysL l k S j → m ≤ y) : m = sday l k S j := by
  unfold sday
  unfold dysL at h1 h2
  obtain ⟨a, ha, rfl⟩ := List.mem_map.mp h1
  obtain ⟨b, hb1, hb2⟩ := mn_mem S.fr (k - 1)
  have h3 := h2 _ (List.mem_map.mpr ⟨b, List.mem_range.mpr (by omega), rfl⟩)
  have h4 := mn_le (f := S.fr) (k := k - 1) (a := a) (by have := List.mem_range.mp ha; omega)
  omega
theorem dys_pick {l : List Stay} {k : Nat} {S : SS} {j : Nat} (hk : 1 ≤ k) : spk l k S j < k ∧ max (stAt l j).1 (S.fr (spk l k S j)) = sday l k S j ∧ ∀ a, a < spk l k S j → max (stAt l j).1 (S.fr a) ≠ sday l k S j := by
  obtain ⟨bs, h1, h2, h3⟩ := day_some l hk S j
  have h4 : (stAt l j).1 ≤ sday l k S j := by unfold sday; exact Int.le_max_left _ _
  refine ⟨h2, ?_, fun a ha z => ?_⟩
  · have h5 : sday l k S j ≤ max (stAt l j).1 (S.fr (spk l k S j)) := by
      have := mn_le (f := S.fr) (k := k - 1) (a := spk l k S j) (by omega)
      unfold sday
      omega
    omega
  · exact pk_first (f := S.fr) (x := sday l k S j) (k := k) ⟨_, h2, h3⟩ ha (by omega)
theorem dys_list {l : List Stay} {k : Nat} {S : SS} {j : Nat} (hb : 0 ≤ (stAt l j).1) : ((List.range k).map fun a => optI (S.F a)).flatMap (fun x => match x with | .non => [.int (stAt l j).1] | .int y => [.int (if y + 1 > (stAt l j).1 then y + 1 else (stAt l j).1)] | _ => []) = (dysL l k S j).map D.int := by
  unfold dysL
  rw [List.flatMap_map, List.map_map, List.map_eq_flatMap]
  congr 1
  funext a
  show _ = [D.int (max (stAt l j).1 (S.fr a))]
  unfold SS.fr
  cases S.F a with
  | none =>
    show [D.int (stAt l j).1] = [D.int (max (stAt l j).1 0)]
    rw [Int.max_eq_left hb]
  | some y =>
    show [D.int (if y + 1 > (stAt l j).1 then y + 1 else (stAt l j).1)] = [D.int (max (stAt l j).1 (y + 1))]
    congr 2
    split <;> omega
end DL
open PySem L2 DL
namespace K68
section
variable {P : Program} {w : World} {K : PySem.W.Frag} {mg : Str → Option Value} {base : Heap} {T : List (Addr × Str)}
/-- _law_late -/
def llaN : DF := fun ds g C => ∃ (l : List Stay) (k : Nat), ds = [.lst (l.map stD), .int (k : Int)] ∧ 1 ≤ k ∧ k ≤ 2 ^ 19 ∧ l.length < 2 ^ 19 ∧ okStays l ∧ C (.new (latL l (late l k)) g)
def llInv (l : List Stay) (k : Nat) (ws : List Addr) (g : Nat) (p1 p2 : Addr) : Nat → Ev → Prop := fun i ρ => ∃ s4 s5 s6 s7 s9 s10,
  ρ = ⟨[.dat (.lst (l.map stD)), .dat (.int (k : Int)), .own p1 (latR l (srun l k ((sortIx l.length (begOf l)).take i))), .own p2 ((List.range k).map fun a => optI ((srun l k ((sortIx l.length (begOf l)).take i)).F a)), s4, s5, s6, s7, .non, s9, s10], [], ws, g⟩
theorem ok_law_late (B : Bi mg) {f : Addr} {fd : FuncData} (F : Fun K "_law_late" "_law_late" s__law_late f fd) (h3 : Kn P w K mg base T "_law_order" 2 ordN) : FnOk P w K mg base (L2.CX P w) 3 f fd ["stays", "many"] (spD K T llaN) := by
  refine okD F sc__law_late (fun ds g C h => by obtain ⟨l, k, rfl, _⟩ := h; rfl) (fun cdv A outer s H E An ds g C hr tk h => ?_)
  obtain ⟨l, k, rfl, hk1, hk2, hl, ok, h⟩ := h
  have nd := sc__law_late.nd
  show DSs _ T An ⟨[.dat (.lst (l.map stD)), .dat (.int (k : Int)), .non, .non, .non, .non, .non, .non, .non, .non, .non], [], An.ws, g⟩ _ _
  refine dss_cons (ds_parV rfl nd (dv_mulL ?_))
  walk_at "go"
  refine ⟨by show 1 ≤ sizeLine; decide, fun a1 => ?_⟩
  walk_at "go"
  refine lenD_seq rfl ?_
  rw [List.length_map]
  refine ⟨by omega, by omega, ?_, fun p1 => ?_⟩
  · show 1 * _ ≤ sizeLine
    rw [sizeLine_eq]
    omega
  refine dv_mulL ?_
  walk_at "go"
  refine ⟨by show 1 ≤ sizeLine; decide, fun a2 => ?_⟩
  walk_at "go"
  refine ⟨by omega, by omega, ?_, fun p2 => ?_⟩
  · show 1 * _ ≤ sizeLine
    rw [sizeLine_eq]
    omega
  refine ⟨_, rfl, rfl, ?_⟩
  walk_at "n"
  have e1 : (List.replicate (l.length : Int).toNat [D.non]).flatten = latR l (srun l k ((sortIx l.length (begOf l)).take 0)) := by
    rw [flat_one, Int.toNat_natCast]
    exact (List.eq_replicate_iff.mpr ⟨by simp [latR], fun b hb => by obtain ⟨a, _, rfl⟩ := List.mem_map.mp hb; rfl⟩).symm
  have e2 : (List.replicate (k : Int).toNat [D.non]).flatten = (List.range k).map fun a => optI ((srun l k ((sortIx l.length (begOf l)).take 0)).F a) := by
    rw [flat_one, Int.toNat_natCast]
    exact (List.eq_replicate_iff.mpr ⟨by simp, fun b hb => by obtain ⟨a, _, rfl⟩ := List.mem_map.mp hb; rfl⟩).symm
  rw [e1, e2]
  refine dss_cons (ds_for (passes_of rfl) rfl (di_seq (de_dv ?_)))
  walk_at "v1"
  walk_at "go"
  refine ⟨l, rfl, by omega, fun a3 => ?_⟩
  refine ⟨_, rfl, llInv l k An.ws g p1 p2, ⟨.non, .non, .non, .non, .non, .non, rfl⟩, fun i dd ρ2 ei hI => ?_, fun ρ2 hI => ?_⟩
  · obtain ⟨s4, s5, s6, s7, s9, s10, rfl⟩ := hI
    rw [List.getElem?_map] at ei
    obtain ⟨j, ej, rfl⟩ := Option.map_eq_some_iff.mp ei
    have hj : j < l.length := sortIx_lt ej
    have hb : 0 ≤ (stAt l j).1 := by
      unfold stAt
      rw [List.getElem?_eq_getElem hj]
      exact (ok _ (List.getElem_mem hj)).1
    have nxt : srun l k ((sortIx l.length (begOf l)).take (i + 1)) = sstep l k (srun l k ((sortIx l.length (begOf l)).take i)) j := by
      have pre : (sortIx l.length (begOf l)).take (i + 1) = (sortIx l.length (begOf l)).take i ++ [j] := by
        rw [List.take_add_one, ej]
        rfl
      unfold srun
      rw [pre, List.foldl_append]
      rfl
    generalize eS : srun l k ((sortIx l.length (begOf l)).take i) = S at nxt ⊢
    refine ⟨[4], ?_⟩
    walk_at "gg"
    refine dss_cons (ds_unp ?_)
    walk_at "go"
    refine ixD_seq (j := j) rfl (st_get hj) rfl ?_
    refine ⟨[5, 6, 7], ?_⟩
    unfold stD
    walk_at "gg"
    refine dss_cons (ds_setLcLook rfl nd (blkOk_by (own := [("last", 8)]) (by kernel_rfl)) rfl rfl fun An2 ew => di_seq (de_name ?_))
    refine ⟨_, rfl, lcd_fm (fun x => match x with | .non => [.int (stAt l j).1] | .int y => [.int (if y + 1 > (stAt l j).1 then y + 1 else (stAt l j).1)] | _ => []) rfl (by rw [List.length_map, List.length_range, sizeLine_eq]; omega) (fun i5 y acc D0 ey => ?_) fun a5 => ?_⟩
    · rw [List.getElem?_map] at ey
      obtain ⟨a, ea, rfl⟩ := Option.map_eq_some_iff.mp ey
      walk_at "blk"
      walk_at "gg"
      walk_at "blk"
      refine dts_nil ⟨fun _ => ?_, fun z => (by cases z)⟩
      walk_at "blk"
      cases hF : S.F a with
      | none =>
        walk_at "go"
        refine ⟨rfl, fun _ => ?_, fun z => (by cases z)⟩
        walk_at "go"
        exact ⟨rfl, rfl, rfl, rfl⟩
      | some x =>
        walk_at "go"
        refine ⟨rfl, fun z => (by cases z), fun _ => ?_⟩
        walk_at "go"
        exact ⟨rfl, rfl, rfl, rfl⟩
    · rw [dys_list hb]
      refine ⟨fun d hd => ?_, ?_⟩
      · obtain ⟨y, _, rfl⟩ := List.mem_map.mp hd
        rfl
      walk_at "n"
      refine dss_cons (ds_set nd (dv_look fun An3 ew3 => dv_de (de_index ?_)))
      walk_at "go"
      obtain ⟨q1, q2, q3⟩ := dys_pick (l := l) (k := k) (S := S) (j := j) hk1
      refine ⟨_, rfl, ?_⟩
      walk_at "go"
      refine ⟨dysL l k S j, rfl, by unfold dysL; rw [List.length_map, List.length_range]; omega, fun m hm1 hm2 => ?_⟩
      have em := dys_min hk1 hm1 hm2
      subst em
      walk_at "go"
      refine ⟨.int (sday l k S j), .int (sday l k S j), spk l k S j, rfl, rfl, ?_, ?_, ?_, ?_, ?_⟩
      · exact List.all_eq_true.mpr fun d hd => by obtain ⟨y, _, rfl⟩ := List.mem_map.mp hd; rfl
      · rw [List.getElem?_map, dys_get q1, q2]
        rfl
      · show (_ == _) = true
        simp
      · intro m z' hm ez
        rw [List.getElem?_map, dys_get (by omega)] at ez
        cases ez
        show (_ == _) = false
        exact beq_eq_false_iff_ne.mpr (q3 m hm)
      refine ⟨rfl, ?_⟩
      walk_at "n"
      refine dss_cons (ds_store (de_tup (da_cons (de_ixOwn ?_ ?_))))
      · exact trivial
      walk_at "go"
      refine ⟨_, .int (sday l k S j), rfl, atI_nat (by rw [List.getElem?_map, dys_get q1, q2]; rfl), ?_⟩
      walk_at "go"
      refine ⟨by show 2 ≤ sizeLine; decide, ?_⟩
      refine dg_own ?_ ?_
      · exact trivial
      walk_at "go"
      refine ⟨_, j, rfl, ixN_nat (by simp only [latR, List.length_map, List.length_range]; exact hj), ?_⟩
      refine dss_cons (ds_store ?_)
      walk_at "e1"
      walk_at "e1"
      walk_at "e1"
      refine de_ixOwn ?_ ?_
      · exact trivial
      walk_at "go"
      refine ⟨_, .int (sday l k S j), rfl, atI_nat (by rw [List.getElem?_map, dys_get q1, q2]; rfl), ?_⟩
      walk_at "go"
      refine dg_own ?_ ?_
      · exact trivial
      walk_at "go"
      refine ⟨_, spk l k S j, rfl, ixN_nat (by rw [List.length_map, List.length_range]; exact q1), ?_⟩
      refine dss_nil ?_
      refine ⟨.dat (idD j), .dat (.int (stAt l j).1), .dat (.int (stAt l j).2.1), .dat (.int (stAt l j).2.2), .own a5 ((dysL l k S j).map D.int), .dat (.int (spk l k S j : Nat)), ?_⟩
      rw [nxt, latR_step, bnd_step]
      rfl
  · obtain ⟨s4, s5, s6, s7, s9, s10, rfl⟩ := hI
    rw [List.length_map, List.take_length] at *
    have ee : srun l k (sortIx l.length (begOf l)) = late l k := rfl
    rw [ee, lat_tup]
    walk_at "s1"
    walk_at "s1"
    refine dv_back ?_
    exact ⟨rfl, h⟩
end
end K68
end

section
namespace DL
open PySem L2
theorem foldl_max_le : ∀ (ns : List Int) (n : Int), n ≤ ns.foldl max n ∧ (∀ y ∈ ns, y ≤ ns.foldl max n) ∧ (ns.foldl max n = n ∨ ns.foldl max n ∈ ns)
  | [], n => ⟨Int.le_refl _, fun y h => (by cases h), .inl rfl⟩
  | m :: ns, n => by
    obtain ⟨h1, h2, h3⟩ := foldl_max_le ns (max n m)
    rw [List.foldl_cons]
    refine ⟨by omega, fun y hy => ?_, ?_⟩
    · rcases List.mem_cons.mp hy with rfl | hy
      · omega
      · exact h2 y hy
    · rcases h3 with h3 | h3
      · rw [h3]
        by_cases e : n ≤ m
        · exact .inr (by rw [Int.max_eq_right e]; exact List.mem_cons_self)
        · exact .inl (Int.max_eq_left (by omega))
      · exact .inr (List.mem_cons_of_mem _ h3)
theorem wst_max {l : List Stay} {S : SS} (G : GoodS l S) {m : Int} (h1 : m ∈ (0 : Int) :: (List.range l.length).map (fun j => dayOf S j - (stAt l j).1)) (h2 : ∀ y, y ∈ (0 : Int) :: (List.range l.length).map (fun j => dayOf S j - (stAt l j).1) → y ≤ m) : m = wst l S := by
  have hn : ∀ y ∈ (List.range l.length).map (fun j => dayOf S j - (stAt l j).1), 0 ≤ y := fun y hy => by
    obtain ⟨j, hj, rfl⟩ := List.mem_map.mp hy
    have := G.nn j (List.mem_range.mp hj)
    omega
  unfold wst
  generalize (List.range l.length).map (fun j => dayOf S j - (stAt l j).1) = ns at h1 h2 hn
  cases ns with
  | nil =>
    rcases List.mem_cons.mp h1 with h | h
    · exact h
    · cases h
  | cons n ns =>
    obtain ⟨q1, q2, q3⟩ := foldl_max_le ns n
    have a1 := h2 (ns.foldl max n) (by
      rcases q3 with q | q
      · rw [q]; simp
      · exact List.mem_cons_of_mem _ (List.mem_cons_of_mem _ q))
    have a2 : m ≤ ns.foldl max n := by
      rcases List.mem_cons.mp h1 with h | h
      · have := hn n (List.mem_cons_self)
        omega
      · rcases List.mem_cons.mp h with h | h
        · omega
        · exact q2 m h
    show m = ns.foldl max n
    omega
/-- who is looked for -/
def condS (l : List Stay) (S : SS) (j a : Nat) : Bool := decide (a ≠ j) && (decide (adrOf S a = adrOf S j) && decide (dayOf S a + (stAt l a).2.1 - (stAt l a).1 + (stAt l a).2.2 = dayOf S j - 1))
structure GoodC (l : List Stay) (S : SS) : Prop where
  one : ∀ j p, j < l.length → (stAt l j).1 < dayOf S j → preOf S j = some p → (List.range l.length).filter (condS l S j) = [p]
end DL
open PySem L2 DL
namespace K68
section
variable {P : Program} {w : World} {K : PySem.W.Frag} {mg : Str → Option Value} {base : Heap} {T : List (Addr × Str)}
/-- _law_worst -/
def lwoN : DF := fun ds g C => ∃ (l : List Stay) (S : SS), ds = [.lst (l.map stD), .lst (latL l S)] ∧ l.length < 2 ^ 19 ∧ GoodS l S ∧ C (.ret (.int (wst l S)) g)
theorem ok_law_worst (B : Bi mg) {f : Addr} {fd : FuncData} (F : Fun K "_law_worst" "_law_worst" s__law_worst f fd) : FnOk P w K mg base (L2.CX P w) 1 f fd ["stays", "late"] (spD K T lwoN) := by
  refine okD F sc__law_worst (fun ds g C h => by obtain ⟨l, S, rfl, _⟩ := h; rfl) (fun cdv A outer s H E An ds g C hr tk h => ?_)
  obtain ⟨l, S, rfl, hl, G, h⟩ := h
  have nd := sc__law_worst.nd
  show DSs _ T An ⟨[.dat (.lst (l.map stD)), .dat (.lst (latL l S)), .non, .non], [], An.ws, g⟩ _ _
  walk_at "s1"
  walk_at "s1"
  refine dv_max rfl B.max (da_cons (de_add ?_))
  walk_at "go"
  refine ⟨by show 1 ≤ sizeLine; decide, fun a1 => ?_⟩
  refine de_dv (dv_lc rfl nd (blkOk_by (own := [("pair", 2), ("stay", 3)]) (by kernel_rfl)) (di_zip B.zip ?_))
  walk_at "go"
  refine .inl ⟨_, _, rfl, rfl, ?_⟩
  unfold latL
  rw [zip_range]
  refine lcd_fm (fun x => match x with | .tup [.tup [.int y, _], .tup [.int z, _, _]] => [.int (y - z)] | _ => []) rfl (by rw [List.length_map, List.length_range, sizeLine_eq]; omega) (fun i y acc D0 ey => ?_) fun a => ?_
  · rw [List.getElem?_map] at ey
    obtain ⟨j, ej, rfl⟩ := Option.map_eq_some_iff.mp ey
    walk_at "blk"
    walk_at "gg"
    walk_at "blk"
    refine dts_nil ⟨fun _ => ?_, fun z => (by cases z)⟩
    walk_at "blk"
    walk_at "go"
    refine ixD_seq (j := 0) rfl rfl rfl ?_
    walk_at "go"
    refine ixD_seq (j := 0) (show seqD (stD (stAt l j)) = some _ from rfl) rfl rfl ?_
    walk_at "n"
    exact ⟨rfl, rfl, rfl, rfl⟩
  · have ef : (List.map (fun j => D.tup [D.tup [D.int (dayOf S j), D.int ((adrOf S j : Nat) : Int)], stD (stAt l j)]) (List.range l.length)).flatMap (fun x => match x with | .tup [.tup [.int y, _], .tup [.int z, _, _]] => [.int (y - z)] | _ => []) = ((List.range l.length).map fun j => dayOf S j - (stAt l j).1).map D.int := by
      rw [List.flatMap_map, List.map_map]
      exact (List.map_eq_flatMap).symm
    rw [ef]
    refine ⟨by rw [List.length_map, List.length_map, List.length_range, sizeLine_eq]; show 1 + _ ≤ _; omega, ?_⟩
    refine da_nil ⟨(0 : Int) :: (List.range l.length).map (fun j => dayOf S j - (stAt l j).1), rfl, by simp, fun m h1 h2 => ?_⟩
    rw [wst_max G h1 h2]
    exact ⟨.inl rfl, h⟩
/-- _law_chain -/
def lchN : DF := fun ds g C => ∃ (l : List Stay) (S : SS) (i : Nat), ds = [.lst (l.map stD), .lst (latL l S), .int (i : Int)] ∧ l.length < 2 ^ 19 ∧ i < l.length ∧ GoodS l S ∧ GoodC l S ∧ (∀ j, j < l.length → (wayG l S j).length ≤ l.length) ∧ C (.new ((wayG l S i).map idD) g)
def lcInv (l : List Stay) (S : SS) (i0 : Nat) (p1 : Addr) (ws : List Addr) (g : Nat) : Nat → Ev → Prop := fun n ρ => ∃ h t s3 s4 s5 s7, (∃ p, s3 = .own p ((h :: t).map idD)) ∧ h < l.length ∧ (dayOf S h).toNat ≤ n ∧ wayG l S h ++ t = wayG l S i0 ∧
  ρ = ⟨[.dat (.lst (l.map stD)), .dat (.lst (latL l S)), .dat (.int (i0 : Int)), s3, s4, s5, .non, s7], [], ws, g⟩
theorem lat_get {l : List Stay} {S : SS} {j : Nat} (hj : j < l.length) : (latL l S)[j]? = some (.tup [.int (dayOf S j), .int ((adrOf S j : Nat) : Int)]) := by
  unfold latL
  rw [List.getElem?_map, List.getElem?_range hj]
  rfl
theorem ok_law_chain (B : Bi mg) {f : Addr} {fd : FuncData} (F : Fun K "_law_chain" "_law_chain" s__law_chain f fd) : FnOk P w K mg base (L2.CX P w) 1 f fd ["stays", "late", "index"] (spD K T lchN) := by
  refine okD F sc__law_chain (fun ds g C h => by obtain ⟨l, S, i, rfl, _⟩ := h; rfl) (fun cdv A outer s H E An ds g C hr tk h => ?_)
  obtain ⟨l, S, i0, rfl, hl, hi, G, GC, hL, h⟩ := h
  have nd := sc__law_chain.nd
  show DSs _ T An ⟨[.dat (.lst (l.map stD)), .dat (.lst (latL l S)), .dat (.int (i0 : Int)), .non, .non, .non, .non, .non], [], An.ws, g⟩ _ _
  walk_at "go"
  refine ⟨by show 1 ≤ sizeLine; decide, fun p1 => ?_⟩
  walk_at "n"
  refine dss_cons (ds_while (passes_of rfl) (lcInv l S i0 p1 An.ws g) ⟨_, i0, [], _, .non, .non, .non, ⟨p1, rfl⟩, hi, Nat.le_refl _, List.append_nil _, rfl⟩ fun n ρ1 hI => ?_)
  obtain ⟨j, t, s3, s4, s5, s7, ⟨p3, rfl⟩, hj, hn, ew, rfl⟩ := hI
  refine dt_look fun An2 ew2 => ?_
  walk_at "go"
  refine ixD_seq (j := 0) rfl rfl rfl ?_
  refine ixD_seq (j := j) rfl (lat_get hj) rfl ?_
  walk_at "go"
  refine ixD_seq (j := 0) rfl rfl rfl ?_
  walk_at "go"
  refine ixD_seq (j := 0) rfl rfl rfl ?_
  refine ixD_seq (j := j) rfl (st_get hj) rfl ?_
  walk_at "go"
  refine ixD_seq (j := 0) (show seqD (stD (stAt l j)) = some _ from rfl) rfl rfl ?_
  walk_at "n"
  refine ⟨fun e => ?_, fun e => ?_⟩
  · have e1 : (stAt l j).1 < dayOf S j := of_decide_eq_true e
    obtain ⟨p, ep, hp, hd⟩ := G.pre j hj e1
    obtain ⟨q1, q2⟩ := G.nn p hp
    refine dss_cons (ds_unp (de_ix (de_name ?_)))
    walk_at "n"
    refine de_ixOwn ?_ ?_
    · exact trivial
    walk_at "go"
    refine ⟨_, idD j, rfl, atI_nat (j := 0) rfl, ?_⟩
    refine ixD_seq (j := j) rfl (lat_get hj) rfl ?_
    refine ⟨[4, 5], ?_⟩
    walk_at "gg"
    refine dss_cons (ds_setLc rfl nd (blkOk_by (own := [("at", 6)]) (by kernel_rfl)) rfl rfl (di_rng1 B.range ?_))
    walk_at "go"
    refine lenD_seq rfl ?_
    walk_at "go"
    rw [List.length_map]
    refine ⟨by omega, by omega, lcd_fm (fun x => match x with | .int i => if condS l S j i.toNat then [x] else [] | _ => []) rfl (by unfold rngD; rw [List.length_map, List.length_range, Int.toNat_natCast, sizeLine_eq]; omega) (fun i5 y acc D0 ey => ?_) fun a6 => ?_⟩
    · unfold rngD at ey
      rw [List.getElem?_map] at ey
      obtain ⟨i6, e6, rfl⟩ := Option.map_eq_some_iff.mp ey
      have ez0 : (0 : Int) + (i6 : Int) = i6 := Int.zero_add _
      rw [ez0]
      have hi6 : i6 < l.length := by have := List.mem_of_getElem? e6; rw [List.mem_range] at this; omega
      walk_at "blk"
      walk_at "gg"
      walk_at "blk"
      refine dts_one (dt_look fun An3 ew3 => ?_)
      walk_at "go"
      refine ixD_seq (j := 0) rfl rfl rfl ?_
      have fin : ∀ b : Bool, condS l S j i6 = b → (if condS l S j i6 then [D.int (i6 : Int)] else []) = if b then [D.int (i6 : Int)] else [] := fun b hb => by rw [hb]
      refine ⟨_, eqP_int, ?_⟩
      by_cases c1 : i6 = j
      · have cf : condS l S j i6 = false := by unfold condS; rw [decide_eq_false (fun z => z c1)]; rfl
        refine ⟨fun z => ?_, fun _ => ?_⟩
        · exfalso
          rw [c1] at z
          simp at z
        · refine ⟨fun z => (by cases z), fun _ => ⟨?_, rfl, rfl, rfl⟩⟩
          show (if condS l S j (Int.toNat (i6 : Int)) then _ else _) = _
          rw [Int.toNat_natCast, cf]
          rfl
      refine ⟨fun _ => ?_, fun z => ?_⟩
      rotate_left
      · exfalso
        have : ((i6 : Int) == (j : Int)) = false := by simp; omega
        rw [this] at z
        cases z
      walk_at "go"
      refine ixD_seq (j := i6) rfl (lat_get hi6) rfl ?_
      walk_at "go"
      refine ixD_seq (j := 1) rfl rfl rfl ?_
      walk_at "go"
      refine ⟨_, eqP_int, ?_⟩
      by_cases c2 : adrOf S i6 = adrOf S j
      rotate_left
      · have cf : condS l S j i6 = false := by unfold condS; rw [decide_eq_false c2]; simp
        refine ⟨fun z => ?_, fun _ => ?_⟩
        · exfalso
          have : (((adrOf S i6 : Nat) : Int) == ((adrOf S j : Nat) : Int)) = false := by simp; omega
          rw [this] at z
          cases z
        · refine ⟨fun z => (by cases z), fun _ => ⟨?_, rfl, rfl, rfl⟩⟩
          show (if condS l S j (Int.toNat (i6 : Int)) then _ else _) = _
          rw [Int.toNat_natCast, cf]
          rfl
      refine ⟨fun _ => ?_, fun z => ?_⟩
      rotate_left
      · exfalso
        rw [c2] at z
        simp at z
      walk_at "go"
      refine ixD_seq (j := i6) rfl (lat_get hi6) rfl ?_
      walk_at "go"
      refine ixD_seq (j := 0) rfl rfl rfl ?_
      walk_at "go"
      refine ixD_seq (j := i6) rfl (st_get hi6) rfl ?_
      walk_at "go"
      refine ixD_seq (j := 1) (show seqD (stD (stAt l i6)) = some _ from rfl) rfl rfl ?_
      walk_at "go"
      refine ixD_seq (j := i6) rfl (st_get hi6) rfl ?_
      walk_at "go"
      refine ixD_seq (j := 0) (show seqD (stD (stAt l i6)) = some _ from rfl) rfl rfl ?_
      walk_at "go"
      refine ixD_seq (j := i6) rfl (st_get hi6) rfl ?_
      walk_at "go"
      refine ixD_seq (j := 2) (show seqD (stD (stAt l i6)) = some _ from rfl) rfl rfl ?_
      walk_at "go"
      refine ⟨_, eqP_int, ?_⟩
      by_cases c3 : dayOf S i6 + (stAt l i6).2.1 - (stAt l i6).1 + (stAt l i6).2.2 = dayOf S j - 1
      · have cf : condS l S j i6 = true := by unfold condS; rw [decide_eq_true c1, decide_eq_true c2, decide_eq_true c3]; rfl
        refine ⟨fun _ => ?_, fun z => ?_⟩
        · walk_at "blk"
          walk_at "go"
          refine ⟨?_, rfl, rfl, rfl⟩
          rw [Int.toNat_natCast, cf]
          rfl
        · exfalso
          rw [c3] at z
          simp at z
      · have cf : condS l S j i6 = false := by unfold condS; rw [decide_eq_false c3]; simp
        refine ⟨fun z => ?_, fun _ => ⟨?_, rfl, rfl, rfl⟩⟩
        · exact absurd (eq_of_beq z) c3
        · rw [Int.toNat_natCast, cf]
          rfl
    · have ef : (rngD 0 ((l.length : Int)).toNat).flatMap (fun x => match x with | .int i => if condS l S j i.toNat then [x] else [] | _ => []) = [idD p] := by
        rw [← show ((List.range l.length).filter (condS l S j)).map idD = [idD p] by rw [GC.one j p hj e1 ep]; rfl]
        unfold rngD
        rw [Int.toNat_natCast]
        generalize List.range l.length = rs
        induction rs with
        | nil => rfl
        | cons r rs ih =>
          rw [List.map_cons, List.flatMap_cons, ih, List.filter_cons]
          have ez0 : (0 : Int) + (r : Int) = r := Int.zero_add _
          rw [ez0]
          show (if condS l S j (Int.toNat (r : Int)) then [D.int (r : Int)] else []) ++ _ = _
          rw [Int.toNat_natCast]
          by_cases hc : condS l S j r = true
          · rw [if_pos hc, if_pos hc]
            rfl
          · rw [if_neg hc, if_neg hc]
            rfl
      rw [ef]
      walk_at "n"
      have ew2 := wayG_late G hj e1 ep
      have hlen := hL i0 hi
      have hj2 := congrArg List.length ew
      have hj3 := congrArg List.length ew2
      rw [List.length_append] at hj2 hj3
      refine dss_cons (ds_set nd (dv_look fun An3 ew3 => dv_cat ?_))
      walk_at "e1"
      walk_at "n"
      walk_at "e1"
      walk_at "n"
      refine ⟨_, _, rfl, rfl, ?_, fun p9 => ?_⟩
      · rw [sizeLine_eq]
        show 1 + _ ≤ _
        rw [List.length_map, List.length_cons]
        have : 1 ≤ (wayG l S j).length := by rw [hj3]; exact Nat.le_add_left _ _
        omega
      refine ⟨fun d hd => ?_, ?_⟩
      · rcases List.mem_append.mp hd with hd | hd
        · obtain rfl := List.mem_singleton.mp hd
          rfl
        · obtain ⟨y, _, rfl⟩ := List.mem_map.mp hd
          rfl
      refine dss_nil ?_
      refine ⟨(dayOf S p).toNat, by omega, p, j :: t, _, _, _, _, ⟨p9, rfl⟩, hp, Nat.le_refl _, ?_, rfl⟩
      rw [← ew, ew2, List.append_assoc]
      rfl
  · have e1 : ¬ (stAt l j).1 < dayOf S j := of_decide_eq_false e
    walk_at "s1"
    walk_at "s1"
    refine dv_back ?_
    refine ⟨rfl, ?_⟩
    rw [← ew, wayG_on e1] at h
    exact h
end
end K68
end

section
open PySem L2 DL
namespace K68
section
variable {P : Program} {w : World} {K : PySem.W.Frag} {mg : Str → Option Value} {base : Heap} {T : List (Addr × Str)}
def metR : D → Nat → Out := fun d g => .new [.str "told", d] g
def metM (CS CM CI CD : Addr) : (Out → Prop) → XC := fun C c fs g => (c = CS ∧ ∃ d, fs = [(("index" : Str), d)] ∧ C (.new [.str "stays", d] g)) ∨ (c = CM ∧ ∃ d, fs = [(("many" : Str), d)] ∧ C (.new [.str "many", d] g)) ∨
  (c = CI ∧ ∃ d, fs = [(("index" : Str), d)] ∧ C (.new [.str "index", d] g)) ∨ (c = CD ∧ ∃ d, fs = [(("day" : Str), d)] ∧ C (.new [.str "day", d] g))
/-- the exceptions, by name -/
structure MetE (P : Program) (w : World) (K : PySem.W.Frag) (mg : Str → Option Value) (base : Heap) (CS CM CI CD : Addr) : Prop where
  s : KnE P w K mg base "BadStays" CS "index"
  m : KnE P w K mg base "BadMany" CM "many"
  i : KnE P w K mg base "BadIndex" CI "index"
  d : KnE P w K mg base "BadDay" CD "day"
  ss : PySem.W.exmOne K (.ref CS) (.ref CS) = some true
  ms : PySem.W.exmOne K (.ref CM) (.ref CS) = some false
  mm : PySem.W.exmOne K (.ref CM) (.ref CM) = some true
  is : PySem.W.exmOne K (.ref CI) (.ref CS) = some false
  im : PySem.W.exmOne K (.ref CI) (.ref CM) = some false
  ii : PySem.W.exmOne K (.ref CI) (.ref CI) = some true
  ds : PySem.W.exmOne K (.ref CD) (.ref CS) = some false
  dm : PySem.W.exmOne K (.ref CD) (.ref CM) = some false
  di : PySem.W.exmOne K (.ref CD) (.ref CI) = some false
  dd : PySem.W.exmOne K (.ref CD) (.ref CD) = some true
theorem gives_met {X : Cx} {q : Str} {g CS CM CI CD : Addr} {cdg : Value} (B : Bi X.mg) (M : MetE X.prog X.w X.K X.mg X.base CS CM CI CD) :
    LamX.GivesTo X ["ask", "e"] "_law_met" (defScope s__law_met) g cdg (defBody s__law_met) "ask" q (TTmet X.K T metR (metM CS CM CI CD)) := by
  refine gives_D sc__law_met (fun s H An f gas Cr xm C h1 h2 hcall => ?_)
  have nd := sc__law_met.nd
  show DSs _ T An ⟨[.dat (.ref f), .non], [], An.ws, gas⟩ _ _
  refine dss_cons (ds_try (i := 1) (xc := fun _ _ _ => False) rfl rfl nd rfl rfl tkF (.cons M.s.cl rfl (by decide) (.cons M.m.cl rfl (by decide) (.cons M.i.cl rfl (by decide) (.cons M.d.cl rfl (by decide) .nil)))) (fun pn xe tk po => ?_))
  refine dss_cons (ds_ret (dv_list (da_cons (de_str (da_cons (de_dv (dv_imp (hcall pn xe _ _ _ (fun c fs g' hx => ?_) tk) ?_)))))))
  · rcases h2 c fs g' hx with ⟨rfl, d, rfl, hc⟩ | ⟨rfl, d, rfl, hc⟩ | ⟨rfl, d, rfl, hc⟩ | ⟨rfl, d, rfl, hc⟩
    · refine ⟨true, M.ss, fun _ a dx => ?_, fun z => (by cases z)⟩
      intro oe pn hz hf
      refine dss_cons (ds_ret (dv_list (da_cons (de_str (da_cons (de_xf (w := X.w) (fn := "index") M.s hz hf rfl rfl (d := d) rfl ?_))))))
      refine da_nil ⟨by show 2 ≤ sizeLine; decide, fun a => ⟨rfl, hc⟩⟩
    · refine ⟨false, M.ms, fun z => (by cases z), fun _ => ?_⟩
      refine ⟨true, M.mm, fun _ a dx => ?_, fun z => (by cases z)⟩
      intro oe pn hz hf
      refine dss_cons (ds_ret (dv_list (da_cons (de_str (da_cons (de_xf (w := X.w) (fn := "many") M.m hz hf rfl rfl (d := d) rfl ?_))))))
      refine da_nil ⟨by show 2 ≤ sizeLine; decide, fun a => ⟨rfl, hc⟩⟩
    · refine ⟨false, M.is, fun z => (by cases z), fun _ => ?_⟩
      refine ⟨false, M.im, fun z => (by cases z), fun _ => ?_⟩
      refine ⟨true, M.ii, fun _ a dx => ?_, fun z => (by cases z)⟩
      intro oe pn hz hf
      refine dss_cons (ds_ret (dv_list (da_cons (de_str (da_cons (de_xf (w := X.w) (fn := "index") M.i hz hf rfl rfl (d := d) rfl ?_))))))
      refine da_nil ⟨by show 2 ≤ sizeLine; decide, fun a => ⟨rfl, hc⟩⟩
    · refine ⟨false, M.ds, fun z => (by cases z), fun _ => ?_⟩
      refine ⟨false, M.dm, fun z => (by cases z), fun _ => ?_⟩
      refine ⟨false, M.di, fun z => (by cases z), fun _ => ?_⟩
      refine ⟨true, M.dd, fun _ a dx => ?_, fun z => (by cases z)⟩
      intro oe pn hz hf
      refine dss_cons (ds_ret (dv_list (da_cons (de_str (da_cons (de_xf (w := X.w) (fn := "day") M.d hz hf rfl rfl (d := d) rfl ?_))))))
      refine da_nil ⟨by show 2 ≤ sizeLine; decide, fun a => ⟨rfl, hc⟩⟩
  · rintro r ρ' ⟨e1, e2⟩
    refine da_nil ⟨by show 2 ≤ sizeLine; decide, fun a => ⟨e1, ?_⟩⟩
    exact h1 r _ e2
end
end K68
end

section
namespace DL
open PySem L2
theorem cut_take {ds : List D} {n : Nat} (h : n ≤ ds.length) : cutD ds none (some (n : Int)) = ds.take n := by
  unfold cutD
  rw [HT.sIx_nat, HT.sIx_none, Nat.sub_zero, List.drop_zero, Nat.min_eq_left h]
theorem cut_drop {ds : List D} {n : Nat} (h : n ≤ ds.length) : cutD ds (some (n : Int)) none = ds.drop n := by
  unfold cutD
  rw [HT.sIx_nat, HT.sIx_none, Nat.min_eq_left h]
  exact List.take_of_length_le (by rw [List.length_drop]; exact Nat.le_refl _)
end DL
open PySem L2 DL
namespace K68
section
variable {P : Program} {w : World} {K : PySem.W.Frag} {mg : Str → Option Value} {base : Heap} {T : List (Addr × Str)}
theorem stay_ok {l : List Stay} (h : okStays l) : ∀ y ∈ l.map stD, isStay y = true := fun y hy => by
  obtain ⟨⟨b, e, f⟩, hs, rfl⟩ := List.mem_map.mp hy
  obtain ⟨h1, h2, h3, _⟩ := h _ hs
  have h1' : 0 ≤ b := h1
  have h2' : b ≤ e := h2
  have h3' : 0 ≤ f := h3
  show (decide (0 ≤ b) && decide (0 ≤ e) && decide (0 ≤ f) && decide (b ≤ e)) = true
  rw [decide_eq_true h1', decide_eq_true (show 0 ≤ e by omega), decide_eq_true h3', decide_eq_true h2']
  rfl
theorem odd_none' {l : List Stay} (h : okStays l) : oddOf isStay (.lst (l.map stD)) = .non := by
  show natD (firstOdd isStay (items (.lst (l.map stD)))) = _
  have e : firstOdd isStay (items (.lst (l.map stD))) = none := List.findIdx?_eq_none_iff.mpr fun y hy => by rw [stay_ok h y hy]; rfl
  rw [e]
  rfl
theorem odd_at {l : List Stay} (h : okStays l) {n : Nat} (hn : n ≤ l.length) {o : D} (ho : isStay o = false) (r : List D) : oddOf isStay (.lst ((l.map stD).take n ++ o :: r)) = .int (n : Int) := by
  show natD (firstOdd isStay (items (.lst ((l.map stD).take n ++ o :: r)))) = _
  have e : firstOdd isStay (items (.lst ((l.map stD).take n ++ o :: r))) = some n := by
    show List.findIdx? _ ((l.map stD).take n ++ o :: r) = some n
    rw [List.findIdx?_append]
    have e1 : List.findIdx? (fun e => !isStay e) ((l.map stD).take n) = none := List.findIdx?_eq_none_iff.mpr fun y hy => by rw [stay_ok h y (List.mem_of_mem_take hy)]; rfl
    rw [e1, List.findIdx?_cons, ho]
    have e2 : ((l.map stD).take n).length = n := by rw [List.length_take, List.length_map]; omega
    simp [e2]
  rw [e]
  rfl
theorem tup_stays (l : List Stay) : (l.map stD).map tupS = l.map stD := by
  rw [List.map_map]
  rfl
theorem wt_stays (l : List Stay) : wts (l.map stD) = true := by
  induction l with
  | nil => rfl
  | cons s l ih => rw [List.map_cons]; unfold wts; rw [ih]; rfl
/-- _law_met, as it is called -/
structure MetF (K : PySem.W.Frag) (mg : Str → Option Value) (g : Addr) : Prop where
  nm : mg "_law_met" = some (.ref g)
  kp : PySem.W.keepIn K (.ref g) = true
  ex : ∃ (oc : Value) (od : Option Addr) (dV kV doc pm : Value) (an : Option Addr) (cdv ct : Value) (osl : Array (Option Value)),
    K.lookup g = some ⟨oc, od, .func (PySem.W.fnOf "_law_met" "_law_met" (defArgs s__law_met) (defBody s__law_met) (defScope s__law_met) dV kV doc pm an cdv ct), osl⟩ ∧ PySem.W.codeIn K cdv "_law_met" = true ∧
    L2.Binds K (PySem.W.fnOf "_law_met" "_law_met" (defArgs s__law_met) (defBody s__law_met) (defScope s__law_met) dV kV doc pm an cdv ct) ["ask"] []
theorem dv_metL {X : Cx} {A : Anc} {ρ : Ev} {C : CV} {CS CM CI CD g c Pc : Addr} {k : Nat} {params : Arguments} {body : Expr} {scope : Scope} {p lpos pos : Pos} (B : Bi X.mg) (M : MetE X.prog X.w X.K X.mg X.base CS CM CI CD) (MF : MetF X.K X.mg g) (Cr : RV → Nat → Prop) (xm : XC)
    (h : ∀ (F H : Hp) (A1 : Around) (outer : List Env) (s : Shared) (H2 : Hp) (E : XK) (f c' : Addr), Room k (A1.deeper (LamX.lamEnv X scope s.heap.objs.size f c')) → Takes (LamX.lamCx X A1 outer s H2 E scope f c') (WD X.K T ⟨F, H, ρ.ws⟩ xm) →
      DV (LamX.lamCx X A1 outer s H2 E scope f c') T ⟨F, H, ρ.ws⟩ ⟨starS ρ.sl, [], ρ.ws, ρ.g⟩ body (fun r ρ' => Cr r ρ'.g))
    (h1 : ∀ r g', Cr r g' → outD A (fun _ _ _ => False) C ρ (metR r.toD g')) (h2 : ∀ c fs g', xm c fs g' → metM CS CM CI CD (outD A (fun _ _ _ => False) C ρ) c fs g')
    (TB : LamX.TabB X.base X.mg c Pc) (hcode : X.env.code = .ref c) (hmT : (Pc, X.env.qual ++ "<lambda>") ∈ T) (hu : ∀ p ∈ T, p.1 = Pc → p.2 = X.env.qual ++ "<lambda>") (hr : Room (k + 2) X.A) (L : LamX.LamS X.env.scope scope)
    (hg : Gl X "_law_met" := by rfl) (hdef : defaultsOf params X.env = ([], []) := by rfl)
    (hbind : ∀ (q : Str) (cl : List (Str × Addr)) (pm cv ctv : Value), bindArgs (PySem.W.kla_fn "<lambda>" q params body scope cl pm cv ctv) ⟨[], []⟩ = pure [] := by intro _ _ _ _ _; rfl) : DV X T A ρ (.Call (.Name "_law_met" p) [.Lambda params body scope lpos] [] pos) C := by
  obtain ⟨nm, kp, oc, od, dV, kV, doc, pm, an, cdv, ct, osl, lk, hcd, hb⟩ := MF
  exact dv_met Cr xm h h1 h2 (gives_met B M) nm kp lk hcd hb sc__law_met rfl (Or.inl rfl) TB hcode hmT hu hr L hg hdef hbind
theorem sm_pair {n : Nat} {s : Str} {d : D} (hs : SeqAt.shaped (.str s) = true) (hd : sm (n + 1) d = true) : sm (n + 2) (.lst [.str s, d]) = true := by
  show (decide (2 < sizeLine) && (SeqAt.shaped (.str s) && (sm (n + 1) d && true))) = true
  rw [hs, hd]
  decide
theorem sh_stays : SeqAt.shaped (.str "stays") = true := by first | rfl | decide +kernel
theorem sh_many : SeqAt.shaped (.str "many") = true := by first | rfl | decide +kernel
theorem sh_index : SeqAt.shaped (.str "index") = true := by first | rfl | decide +kernel
theorem sh_day : SeqAt.shaped (.str "day") = true := by first | rfl | decide +kernel
end
end K68
end

section
namespace DL
open PySem PySem.Spec L2 K68
/-- stays as they are handed on: lists or tuples -/
def three (s : Stay) : List D := [.int s.1, .int s.2.1, .int s.2.2]
def asStay (s : Stay) (e : D) : Prop := e = .lst (three s) ∨ e = .tup (three s)
def AsAll : List Stay → List D → Prop
  | [], [] => True
  | s :: l, e :: es => asStay s e ∧ AsAll l es
  | _, _ => False
theorem asAll_of : ∀ {l : List Stay} {es : List D}, es.length = l.length → (∀ (i : Nat) d e, (l.map stD)[i]? = some d → es[i]? = some e → PrL eqI d e) → AsAll l es
  | [], [], _, _ => trivial
  | [], e :: es, h, _ => by simp at h
  | s :: l, [], h, _ => by simp at h
  | s :: l, e :: es, h, hp => by
    refine ⟨?_, asAll_of (by simpa using h) fun i d x h1 h2 => hp (i + 1) d x (by simpa using h1) (by simpa using h2)⟩
    obtain ⟨xs, hx, hl, hi⟩ := hp 0 (stD s) e rfl rfl
    have hl3 : xs.length = 3 := hl
    obtain ⟨a, b, c, rfl⟩ : ∃ a b c, xs = [a, b, c] := by
      match xs, hl3 with
      | [a, b, c], _ => exact ⟨a, b, c, rfl⟩
    have h0 : a = .int s.1 := hi 0 (.int s.1) a rfl rfl
    have h1 : b = .int s.2.1 := hi 1 (.int s.2.1) b rfl rfl
    have h2 : c = .int s.2.2 := hi 2 (.int s.2.2) c rfl rfl
    subst h0 h1 h2
    exact hx
theorem as_tup : ∀ {l : List Stay} {es : List D}, AsAll l es → es.map tupS = l.map stD
  | [], [], _ => rfl
  | [], _ :: _, h => h.elim
  | _ :: _, [], h => h.elim
  | s :: l, e :: es, ⟨h1, h2⟩ => by
    rw [List.map_cons, List.map_cons, as_tup h2]
    rcases h1 with rfl | rfl <;> rfl
theorem as_wt : ∀ {l : List Stay} {es : List D}, AsAll l es → wts es = true
  | [], [], _ => rfl
  | [], _ :: _, h => h.elim
  | _ :: _, [], h => h.elim
  | s :: l, e :: es, ⟨h1, h2⟩ => by
    unfold wts
    rw [as_wt h2]
    rcases h1 with rfl | rfl <;> rfl
theorem as_stay : ∀ {l : List Stay} {es : List D}, okStays l → AsAll l es → ∀ y ∈ es, isStay y = true
  | [], [], _, _ => fun y m => by cases m
  | [], _ :: _, _, h => h.elim
  | _ :: _, [], _, h => h.elim
  | s :: l, e :: es, ok, ⟨h1, h2⟩ => fun y m => by
    rcases List.mem_cons.mp m with rfl | m
    · have q := stay_ok ok (stD s) (by simp)
      rcases h1 with rfl | rfl <;> exact q
    · exact as_stay (fun t ht => ok t (List.mem_cons_of_mem _ ht)) h2 y m
/-- the texts -/
def pyS (s : Stay) : List PyData := [.int s.1, .int s.2.1, .int s.2.2]
theorem txt_len {i : Int} (h1 : 0 ≤ i) (h2 : i ≤ 1000000000000) : (PyData.shown (.int i)).length ≤ 14 := by
  have e : (toString i).length ≤ 13 + 1 := int_text_length_le10 (k := 13) (by decide) (by omega)
  show (Str.ofString (toString i)).length ≤ 14
  rw [ofString_length]
  exact e
theorem int_show {i : Int} (h1 : 0 ≤ i) (h2 : i ≤ 1000000000000) : PyData.showable (.int i) = true := by
  show decide (i.natAbs.log2 < 1920) = true
  refine decide_eq_true ?_
  by_cases h0 : i.natAbs = 0
  · rw [h0]
    decide
  · rw [Nat.log2_lt h0]
    have : (10 : Nat) ^ 13 ≤ 2 ^ 1920 := by decide +kernel
    omega
theorem as_py : ∀ {l : List Stay} {es : List D}, okStays l → AsAll l es → ∃ ps, toPys es = some ps ∧ ps.length = l.length ∧ PyData.showableAll ps = true ∧ PyData.hasDictAll ps = false ∧ PyData.depthAll ps ≤ 3 ∧ ∀ t ∈ PyData.shownAll ps, t.length ≤ 60
  | [], [], _, _ => ⟨[], rfl, rfl, rfl, rfl, Nat.zero_le _, fun t m => by cases m⟩
  | [], _ :: _, _, h => h.elim
  | _ :: _, [], _, h => h.elim
  | s :: l, e :: es, ok, ⟨h1, h2⟩ => by
    obtain ⟨ps, e1, e2, e3, e4, e5, e6⟩ := as_py (fun t ht => ok t (List.mem_cons_of_mem _ ht)) h2
    obtain ⟨o1, o2, o3, o4, o5⟩ := ok s (List.mem_cons_self ..)
    have b1 : s.1 ≤ 1000000000000 := by omega
    have b2 : 0 ≤ s.2.1 := by omega
    have l1 := txt_len o1 b1
    have l2 := txt_len b2 o4
    have l3 := txt_len o3 o5
    have p3 : piled (PyData.shownAll (pyS s)) ≤ 48 := by
      show piled [PyData.shown (.int s.1), PyData.shown (.int s.2.1), PyData.shown (.int s.2.2)] ≤ 48
      rw [piled_cons, piled_cons, piled_cons, piled_nil]
      omega
    obtain ⟨p, q1, q2, q3, q4, q5⟩ : ∃ p, toPy e = some p ∧ p.showable = true ∧ p.hasDict = false ∧ p.depth ≤ 2 ∧ p.shown.length ≤ 60 := by
      have sa : PyData.showableAll (pyS s) = true := by
        show (PyData.showable (.int s.1) && (PyData.showable (.int s.2.1) && (PyData.showable (.int s.2.2) && true))) = true
        rw [int_show o1 b1, int_show b2 o4, int_show o3 o5]
        rfl
      rcases h1 with rfl | rfl
      · refine ⟨.list (pyS s), rfl, sa, rfl, ?_, ?_⟩
        · show max 0 (max 0 (max 0 0)) + 1 ≤ 2
          decide
        · have := listText_le (PyData.shownAll (pyS s))
          show (listText (PyData.shownAll (pyS s))).length ≤ 60
          omega
      · refine ⟨.tuple (pyS s), rfl, sa, rfl, ?_, ?_⟩
        · show max 0 (max 0 (max 0 0)) + 1 ≤ 2
          decide
        · have := tupleText_le (PyData.shownAll (pyS s))
          show (tupleText (PyData.shownAll (pyS s))).length ≤ 60
          omega
    refine ⟨p :: ps, ?_, by rw [List.length_cons, List.length_cons, e2], ?_, ?_, ?_, fun t m => ?_⟩
    · show (match toPy e, toPys es with | some p, some ps => some (p :: ps) | _, _ => none) = _
      rw [q1, e1]
    · show (p.showable && PyData.showableAll ps) = true
      rw [q2, e3]
      rfl
    · show (p.hasDict || PyData.hasDictAll ps) = false
      rw [q3, e4]
      rfl
    · show max p.depth (PyData.depthAll ps) ≤ 3
      omega
    · have m' : t ∈ p.shown :: PyData.shownAll ps := m
      rcases List.mem_cons.mp m' with rfl | m'
      · exact q5
      · exact e6 t m'
theorem shownAll_len : ∀ ps : List PyData, (PyData.shownAll ps).length = ps.length
  | [] => rfl
  | p :: ps => congrArg (· + 1) (shownAll_len ps)
/-- what is handed on -/
structure Handed (l : List Stay) (y : D) : Prop where
  sq : isList y = true
  odd : oddOf isStay y = .non
  tup : (items y).map tupS = l.map stD
  wt : DL.wt y = true
  len : (items y).length = l.length
  rep : ∃ d, toPy y = some d ∧ Shows d
  two : (∃ es, y = .lst es) ∨ ∃ es, y = .tup es
theorem handed_ok {l : List Stay} {y : D} (ok : okStays l) (hl : l.length ≤ 100) (h : PrL (PrL eqI) (.lst (l.map stD)) y) : Handed l y := by
  obtain ⟨es, hy, hlen, hi⟩ := h
  have hlen' : es.length = l.length := by
    have : es.length = (l.map stD).length := hlen
    rwa [List.length_map] at this
  have ha := asAll_of hlen' hi
  have eit : items y = es := by rcases hy with rfl | rfl <;> rfl
  have esq : isList y = true := by rcases hy with rfl | rfl <;> rfl
  obtain ⟨ps, e1, e2, e3, e4, e5, e6⟩ := as_py ok ha
  have hp := piled_le e6
  rw [shownAll_len] at hp
  refine ⟨esq, ?_, by rw [eit]; exact as_tup ha, ?_, by rw [eit]; exact hlen', ?_, ?_⟩
  · unfold oddOf
    rw [if_pos esq, eit]
    have e : firstOdd isStay es = none := List.findIdx?_eq_none_iff.mpr fun x hx => by rw [as_stay ok ha x hx]; rfl
    rw [e]
    rfl
  · rcases hy with rfl | rfl <;> exact as_wt ha
  · rcases hy with rfl | rfl
    · refine ⟨.list ps, ?_, e3, e4, ?_, ?_⟩
      · show (toPys es).map PyData.list = _
        rw [e1]
        rfl
      · show PyData.depthAll ps + 1 ≤ 64
        omega
      · have := listText_le (PyData.shownAll ps)
        show (listText (PyData.shownAll ps)).length ≤ sizeLine
        rw [sizeLine_eq]
        omega
    · refine ⟨.tuple ps, ?_, e3, e4, ?_, ?_⟩
      · show (toPys es).map PyData.tuple = _
        rw [e1]
        rfl
      · show PyData.depthAll ps + 1 ≤ 64
        omega
      · have := tupleText_le (PyData.shownAll ps)
        show (tupleText (PyData.shownAll ps)).length ≤ sizeLine
        rw [sizeLine_eq]
        omega
  · rcases hy with rfl | rfl
    · exact .inl ⟨_, rfl⟩
    · exact .inr ⟨_, rfl⟩
end DL
end

section
open PySem L2 DL
namespace K68
section
variable {P : Program} {w : World} {K : PySem.W.Frag} {mg : Str → Option Value} {base : Heap} {T : List (Addr × Str)}
theorem wts_all {ds : List D} (h : ∀ d ∈ ds, wt d = true) : wts ds = true := by
  induction ds with
  | nil => rfl
  | cons d ds ih =>
    unfold wts
    rw [h d (List.mem_cons_self), ih fun x hx => h x (List.mem_cons_of_mem _ hx)]
    rfl
theorem sm_lst {n : Nat} {ds : List D} (hl : ds.length < sizeLine) (h : ∀ d ∈ ds, sm n d = true) : sm (n + 1) (.lst ds) = true := by
  show (decide (ds.length < sizeLine) && _) = true
  rw [decide_eq_true hl]
  exact List.all_eq_true.mpr h
/-- what late_begins and latest refuse -/
def refN (CS CM : Addr) : DF := fun ds g C => ∃ d m, ds = [d, m] ∧ wt d = true ∧ wt m = true ∧ (items d).length < 2 ^ 20 ∧ ((oddOf isStay d ≠ .non ∧ C (.exc CS [("index", oddOf isStay d)] g)) ∨
  ∃ l : List Stay, oddOf isStay d = .non ∧ (items d).map tupS = l.map stD ∧ l.length < 2 ^ 20 ∧ isPos m = false ∧ C (.exc CM [("many", m)] g))
theorem ref_ltb {CS CM : Addr} (ds : List D) (g : Nat) (C : Out → Prop) (h : refN CS CM ds g C) : ltbN CS CM ds g C := by
  obtain ⟨d, m, rfl, h1, h2, h3, h4 | ⟨l, h4, h5, h6, h7, h8⟩⟩ := h
  · exact ⟨d, m, rfl, h1, h2, h3, .inl h4⟩
  · exact ⟨d, m, rfl, h1, h2, h3, .inr ⟨l, h4, h5, h6, .inl ⟨h7, h8⟩⟩⟩
theorem ref_lts {CS CM : Addr} (ds : List D) (g : Nat) (C : Out → Prop) (h : refN CS CM ds g C) : ltsN CS CM ds g C := by
  obtain ⟨d, m, rfl, h1, h2, h3, h4 | ⟨l, h4, h5, h6, h7, h8⟩⟩ := h
  · exact ⟨d, m, rfl, h1, h2, h3, .inl h4⟩
  · exact ⟨d, m, rfl, h1, h2, h3, .inr ⟨l, h4, h5, h6, .inl ⟨h7, h8⟩⟩⟩
def repL (i : Nat) (x : List D) : List D := (List.replicate i x).flatten
theorem repL_succ (i : Nat) (x : List D) : repL (i + 1) x = repL i x ++ x := by
  unfold repL
  rw [List.replicate_succ', List.flatten_append]
  simp
theorem repL_len (i : Nat) (x : List D) : (repL i x).length = i * x.length := by
  unfold repL
  simp
/-- _law_refused_right -/
def rfrN : DF := fun ds g C => ∃ l : List Stay, ds = [.strm, .lst (l.map stD)] ∧ l.length ≤ 100 ∧ okStays l ∧ 10 ≤ g ∧ ∀ g', g - 10 ≤ g' → g' ≤ g → C (.ret (.bl true) g')
theorem ok_law_refused_right (B : Bi mg) {f c p CS CM CI CD gm f1 f2 fl : Addr} {fd : FuncData} (F : FunC K "_law_refused_right" "_law_refused_right" s__law_refused_right f fd c) (tb : Tb base mg T "_law_refused_right" c p)
    (M : MetE P w K mg base CS CM CI CD) (MF : MetF K mg gm) (h1 : Kn P w K mg base T "_law_draw" 1 draN) (h2 : Kn P w K mg base T "_law_pick" 2 picN) (h3 : Kn P w K mg base T "_law_odd_stay" 3 oddN)
    (n1 : mg "late_begins" = some (.ref f1)) (a1 : FnAt K f1) (k1 : KnA P w K mg base T f1 8 (ltbN CS CM)) (n2 : mg "latest" = some (.ref f2)) (a2 : FnAt K f2) (k2 : KnA P w K mg base T f2 8 (ltsN CS CM))
    (n3 : mg "_law_late" = some (.ref fl)) (a3 : FnAt K fl) (h4 : Kn P w K mg base T "in_the_way" 8 (wayN CS CM CI)) (h5 : Kn P w K mg base T "addresses_for" 8 (adfN CS CD)) (h7 : Kn P w K mg base T "_law_same" 5 (sameN 4)) :
    FnOk P w K mg base (L2.CX P w) 12 f fd ["stream", "stays"] (spD K T rfrN) := by
  refine okDc F sc__law_refused_right (fun ds g C h => by obtain ⟨l, rfl, _⟩ := h; rfl) (fun A outer s H E An ds g C hr tk h => ?_)
  obtain ⟨l, rfl, hl, okl, hg, h⟩ := h
  have nd := sc__law_refused_right.nd
  show DSs _ T An ⟨[.dat .strm, .dat (.lst (l.map stD)), .non, .non, .non, .non, .non, .non], [], An.ws, g⟩ _ _
  refine dss_cons (ds_unp (de_tup (da_cons (de_dv (dv_call h1 (hr.mono (by decide)) tkF ?_)))))
  walk_at "gs"
  refine lenD_seq rfl ?_
  rw [List.length_map]
  walk_at "gs"
  refine ⟨l.length + 1, by simp, by omega, by omega, by omega, fun at' hat => ?_⟩
  walk_at "n"
  refine da_cons (de_dv (dv_call h2 (hr.mono (by decide)) tkF ?_))
  walk_at "gs"
  refine ⟨by show 1 ≤ sizeLine; decide, fun b1 => ?_⟩
  walk_at "gs"
  refine ⟨by show 0 ≤ sizeLine; decide, ?_⟩
  walk_at "gs"
  refine de_fn n3 a3 ?_
  walk_at "gs"
  refine ⟨by show 8 ≤ sizeLine; decide, fun b2 => ?_⟩
  walk_at "gs"
  refine ⟨_, rfl, by show 0 < 8; decide, by show 8 < 1073741824; decide, by show 1 ≤ g - 1; omega, fun odd hodd => ?_⟩
  have fodd : wt odd = true ∧ isPos odd = false ∧ isNum odd = false ∧ sm 2 odd = true := by
    simp only [List.mem_cons, List.not_mem_nil, or_false] at hodd
    rcases hodd with rfl | rfl | rfl | rfl | rfl | rfl | rfl | rfl <;> exact ⟨rfl, rfl, rfl, by first | rfl | decide +kernel⟩
  obtain ⟨wodd, iodd, jodd, sodd⟩ := fodd
  walk_at "gs"
  refine ⟨by show 2 ≤ sizeLine; decide, [2, 6], ?_⟩
  walk_at "gg"
  walk_at "gs"
  refine ⟨_, rfl, fun b3 => ?_⟩
  rw [cut_take (by rw [List.length_map]; omega)]
  walk_at "gs"
  refine ⟨rfl, by show 1 ≤ g - 1 - 1; omega, fun os hos wos => ?_⟩
  walk_at "gs"
  have lT : (List.take at' (l.map stD)).length ≤ 100 := by rw [List.length_take, List.length_map]; omega
  have lD : (List.drop at' (l.map stD)).length ≤ 100 := by rw [List.length_drop, List.length_map]; omega
  refine ⟨by show 2 ≤ sizeLine; decide, fun b4 => ⟨by show (List.take at' (l.map stD)).length + 2 ≤ sizeLine; rw [sizeLine_eq]; omega, ?_⟩⟩
  walk_at "gs"
  refine ⟨_, rfl, fun b5 => ?_⟩
  rw [cut_drop (by rw [List.length_map]; omega)]
  walk_at "n"
  refine ⟨by rw [List.length_append, sizeLine_eq]; show (List.take at' (l.map stD)).length + 2 + _ ≤ _; omega, ?_⟩
  have eW : (List.take at' (l.map stD) ++ [os, D.non]) ++ List.drop at' (l.map stD) = List.take at' (l.map stD) ++ os :: (D.non :: List.drop at' (l.map stD)) := by simp
  rw [eW]
  have oW := odd_at okl (n := at') (by omega) hos (D.non :: List.drop at' (l.map stD))
  have wW : wt (.lst (List.take at' (l.map stD) ++ os :: (D.non :: List.drop at' (l.map stD)))) = true := by
    have ws := wts_mem (wt_stays l)
    unfold wt
    refine wts_all fun d hd => ?_
    rcases List.mem_append.mp hd with hd | hd
    · exact ws d (List.mem_of_mem_take hd)
    · rcases List.mem_cons.mp hd with rfl | hd
      · exact wos
      · rcases List.mem_cons.mp hd with rfl | hd
        · rfl
        · exact ws d (List.mem_of_mem_drop hd)
  have lW : (List.take at' (l.map stD) ++ os :: (D.non :: List.drop at' (l.map stD))).length ≤ 300 := by
    rw [List.length_append, List.length_cons, List.length_cons]
    omega
  generalize List.take at' (l.map stD) ++ os :: (D.non :: List.drop at' (l.map stD)) = W at oW wW lW ⊢
  refine dss_cons (ds_parV rfl nd (dv_list (da_nil ⟨by show 0 ≤ sizeLine; decide, fun p3 => dv_list (da_nil ⟨by show 0 ≤ sizeLine; decide, fun p4 => ⟨_, rfl, rfl, ?_⟩⟩)⟩)))
  walk_at "n"
  refine dss_cons (ds_for (passes_of rfl) rfl (di_seq (de_tup (da_cons (de_fn n1 a1 (da_cons (de_fn n2 a2 (da_nil ⟨by show 2 ≤ sizeLine; decide, ?_⟩))))))))
  refine ⟨_, rfl, fun i ρ => ∃ (s5 : Sl), ρ = ⟨[.dat .strm, .dat (.lst (l.map stD)), .dat (.int at'), .own p3 (repL i [.lst [.str "stays", .int at'], .lst [.str "many", odd], .lst [.str "many", .int 0]]), .own p4 (repL i [.lst [.str "stays", .int at'], .lst [.str "many", odd], .lst [.str "many", .int 0]]), s5, .dat odd, .dat (.lst W)], [], An.ws, g - 1 - 1 - 1⟩, ⟨.non, rfl⟩, fun i dd ρ2 ei hI => ?_, fun ρ2 hI => ?_⟩
  · obtain ⟨s5, rfl⟩ := hI
    have hi2 : i < 2 := by
      obtain ⟨z, _⟩ := List.getElem?_eq_some_iff.mp ei
      exact z
    have hrl : (repL i [.lst [.str "stays", .int at'], .lst [.str "many", odd], .lst [.str "many", .int 0]]).length ≤ 10 := by rw [repL_len]; show i * 3 ≤ 10; omega
    obtain ⟨fa, N, rfl, kN, hN⟩ : ∃ (fa : Addr) (N : DF), dd = .fn fa ∧ KnA P w K mg base T fa 8 N ∧ ∀ ds g C, refN CS CM ds g C → N ds g C := by
      match i, ei with
      | 0, e => cases e; exact ⟨f1, _, rfl, k1, ref_ltb⟩
      | 1, e => cases e; exact ⟨f2, _, rfl, k2, ref_lts⟩
    refine ⟨[5], ?_⟩
    walk_at "gg"
    refine dss_cons (ds_app ?_ ?_)
    · exact trivial
    refine de_dv (dv_metL (k := 8) B M MF (fun _ _ => False) (fun c fs g2 => c = CS ∧ fs = [(("index" : Str), D.int at')] ∧ g2 = (g - 1 - 1 - 1)) ?_ (fun r g' z => z.elim) ?_ tb.tb rfl tb.mem tb.uniq (hr.mono (by decide)) (LamX.lamS_by (by kernel_rfl)))
    · intro F0 H0 A1 outer1 s1 H1 E1 f' c' hr2 tk2
      show DV _ T _ ⟨[.dat .strm, .dat (.lst (l.map stD)), .dat (.int at'), _, _, .dat (.fn fa), .dat odd, .dat (.lst W)], [], _, _⟩ _ _
      refine dv_callL kN ?_ hr2 tk2 ?_
      · rfl
      walk_at "go"
      exact hN _ _ _ ⟨.lst W, .int 0, rfl, wW, rfl, by show W.length < 2 ^ 20; omega, .inl ⟨(by rw [oW]; intro z; cases z), rfl, rfl, (by rw [oW]), rfl⟩⟩
    · intro c' fs g' hx
      obtain ⟨e1, e2, e3⟩ := hx
      subst e3
      refine .inl ⟨e1, _, e2, fun a => ?_⟩
      clear e1 e2 c' fs
      refine ⟨?_, ?_⟩
      · simp only [List.length_append, List.length_cons, List.length_nil, sizeLine_eq]
        omega
      refine dss_cons (ds_app ?_ ?_)
      · exact trivial
      refine de_dv (dv_metL (k := 8) B M MF (fun _ _ => False) (fun c fs g2 => c = CM ∧ fs = [(("many" : Str), odd)] ∧ g2 = (g - 1 - 1 - 1)) ?_ (fun r g' z => z.elim) ?_ tb.tb rfl tb.mem tb.uniq (hr.mono (by decide)) (LamX.lamS_by (by kernel_rfl)))
      · intro F0 H0 A1 outer1 s1 H1 E1 f' c' hr2 tk2
        show DV _ T _ ⟨[.dat .strm, .dat (.lst (l.map stD)), .dat (.int at'), _, _, .dat (.fn fa), .dat odd, .dat (.lst W)], [], _, _⟩ _ _
        refine dv_callL kN ?_ hr2 tk2 ?_
        · rfl
        walk_at "go"
        exact hN _ _ _ ⟨.lst (l.map stD), odd, rfl, wt_stays l, wodd, by show (l.map stD).length < 2 ^ 20; rw [List.length_map]; omega, .inr ⟨l, odd_none' okl, tup_stays l, by omega, iodd, rfl, rfl, rfl, rfl⟩⟩
      · intro c' fs g' hx
        obtain ⟨e1, e2, e3⟩ := hx
        subst e3
        refine .inr (.inl ⟨e1, _, e2, fun a => ?_⟩)
        clear e1 e2 c' fs
        refine ⟨?_, ?_⟩
        · simp only [List.length_append, List.length_cons, List.length_nil, sizeLine_eq]
          omega
        refine dss_cons (ds_app ?_ ?_)
        · exact trivial
        refine de_dv (dv_metL (k := 8) B M MF (fun _ _ => False) (fun c fs g2 => c = CM ∧ fs = [(("many" : Str), .int 0)] ∧ g2 = (g - 1 - 1 - 1)) ?_ (fun r g' z => z.elim) ?_ tb.tb rfl tb.mem tb.uniq (hr.mono (by decide)) (LamX.lamS_by (by kernel_rfl)))
        · intro F0 H0 A1 outer1 s1 H1 E1 f' c' hr2 tk2
          show DV _ T _ ⟨[.dat .strm, .dat (.lst (l.map stD)), .dat (.int at'), _, _, .dat (.fn fa), .dat odd, .dat (.lst W)], [], _, _⟩ _ _
          refine dv_callL kN ?_ hr2 tk2 ?_
          · rfl
          walk_at "go"
          exact hN _ _ _ ⟨.lst (l.map stD), .int 0, rfl, wt_stays l, rfl, by show (l.map stD).length < 2 ^ 20; rw [List.length_map]; omega, .inr ⟨l, odd_none' okl, tup_stays l, by omega, rfl, rfl, rfl, rfl, rfl⟩⟩
        · intro c' fs g' hx
          obtain ⟨e1, e2, e3⟩ := hx
          subst e3
          refine .inr (.inl ⟨e1, _, e2, fun a => ?_⟩)
          clear e1 e2 c' fs
          refine ⟨?_, ?_⟩
          · simp only [List.length_append, List.length_cons, List.length_nil, sizeLine_eq]
            omega
          refine dss_cons (ds_ext ?_ ?_)
          · exact trivial
          walk_at "gs"
          refine ⟨by show 2 ≤ sizeLine; decide, fun d1 => ?_⟩
          walk_at "gs"
          refine ⟨by show 2 ≤ sizeLine; decide, fun d2 => ?_⟩
          walk_at "gs"
          refine ⟨by show 2 ≤ sizeLine; decide, fun d3 => ?_⟩
          walk_at "gs"
          refine ⟨by show 3 ≤ sizeLine; decide, fun d4 => ?_⟩
          refine ⟨_, rfl, ?_, dss_nil ?_⟩
          · show (repL i _).length + 3 ≤ sizeLine
            rw [sizeLine_eq]
            omega
          refine ⟨.dat (.fn fa), ?_⟩
          rw [repL_succ]
          show Ev.mk _ _ _ _ = _
          simp only [List.append_assoc]
          rfl
  · obtain ⟨s5, rfl⟩ := hI
    have hrl : (repL 2 [D.lst [.str "stays", .int at'], .lst [.str "many", odd], .lst [.str "many", .int 0]]).length = 6 := rfl
    replace h := h (g - 1 - 1 - 1) (by omega) (by omega)
    have ew : repL [D.fn f1, D.fn f2].length [D.lst [.str "stays", .int at'], .lst [.str "many", odd], .lst [.str "many", .int 0]] = repL 2 [D.lst [.str "stays", .int at'], .lst [.str "many", odd], .lst [.str "many", .int 0]] := rfl
    rw [ew]
    refine dss_cons (ds_app ?_ ?_)
    · exact trivial
    refine de_dv (dv_metL (k := 8) B M MF (fun _ _ => False) (fun c fs g2 => c = CS ∧ fs = [(("index" : Str), D.int at')] ∧ g2 = (g - 1 - 1 - 1)) ?_ (fun r g' z => z.elim) ?_ tb.tb rfl tb.mem tb.uniq (hr.mono (by decide)) (LamX.lamS_by (by kernel_rfl)))
    · intro F0 H0 A1 outer1 s1 H1 E1 f' c' hr2 tk2
      show DV _ T _ ⟨[.dat .strm, .dat (.lst (l.map stD)), .dat (.int at'), _, _, _, .dat odd, .dat (.lst W)], [], _, _⟩ _ _
      refine dv_call h4 hr2 tk2 ?_
      walk_at "gs"
      exact ⟨.lst W, .int 0, .non, rfl, rfl, ⟨wW, rfl, by show W.length < 2 ^ 20; omega, .inl ⟨(by rw [oW]; intro z; cases z), rfl, rfl, (by rw [oW]), rfl⟩⟩⟩
    · intro c' fs g' hx
      obtain ⟨e1, e2, e3⟩ := hx
      subst e3
      refine .inl ⟨e1, _, e2, fun a => ?_⟩
      clear e1 e2 c' fs
      refine ⟨?_, ?_⟩
      · simp only [List.length_append, List.length_cons, List.length_nil, sizeLine_eq]
        omega
      refine dss_cons (ds_app ?_ ?_)
      · exact trivial
      refine de_dv (dv_metL (k := 8) B M MF (fun _ _ => False) (fun c fs g2 => c = CM ∧ fs = [(("many" : Str), odd)] ∧ g2 = (g - 1 - 1 - 1)) ?_ (fun r g' z => z.elim) ?_ tb.tb rfl tb.mem tb.uniq (hr.mono (by decide)) (LamX.lamS_by (by kernel_rfl)))
      · intro F0 H0 A1 outer1 s1 H1 E1 f' c' hr2 tk2
        show DV _ T _ ⟨[.dat .strm, .dat (.lst (l.map stD)), .dat (.int at'), _, _, _, .dat odd, .dat (.lst W)], [], _, _⟩ _ _
        refine dv_call h4 hr2 tk2 ?_
        walk_at "gs"
        exact ⟨.lst (l.map stD), odd, .non, rfl, rfl, wt_stays l, wodd, by show (l.map stD).length < 2 ^ 20; rw [List.length_map]; omega, .inr ⟨l, odd_none' okl, tup_stays l, by omega, .inl ⟨iodd, rfl, rfl, rfl, rfl⟩⟩⟩
      · intro c' fs g' hx
        obtain ⟨e1, e2, e3⟩ := hx
        subst e3
        refine .inr (.inl ⟨e1, _, e2, fun a => ?_⟩)
        clear e1 e2 c' fs
        refine ⟨?_, ?_⟩
        · simp only [List.length_append, List.length_cons, List.length_nil, sizeLine_eq]
          omega
        refine dss_cons (ds_app ?_ ?_)
        · exact trivial
        refine de_dv (dv_metL (k := 8) B M MF (fun _ _ => False) (fun c fs g2 => c = CM ∧ fs = [(("many" : Str), .int 0)] ∧ g2 = (g - 1 - 1 - 1)) ?_ (fun r g' z => z.elim) ?_ tb.tb rfl tb.mem tb.uniq (hr.mono (by decide)) (LamX.lamS_by (by kernel_rfl)))
        · intro F0 H0 A1 outer1 s1 H1 E1 f' c' hr2 tk2
          show DV _ T _ ⟨[.dat .strm, .dat (.lst (l.map stD)), .dat (.int at'), _, _, _, .dat odd, .dat (.lst W)], [], _, _⟩ _ _
          refine dv_call h4 hr2 tk2 ?_
          walk_at "gs"
          exact ⟨.lst (l.map stD), .int 0, .non, rfl, rfl, wt_stays l, rfl, by show (l.map stD).length < 2 ^ 20; rw [List.length_map]; omega, .inr ⟨l, odd_none' okl, tup_stays l, by omega, .inl ⟨rfl, rfl, rfl, rfl, rfl⟩⟩⟩
        · intro c' fs g' hx
          obtain ⟨e1, e2, e3⟩ := hx
          subst e3
          refine .inr (.inl ⟨e1, _, e2, fun a => ?_⟩)
          clear e1 e2 c' fs
          refine ⟨?_, ?_⟩
          · simp only [List.length_append, List.length_cons, List.length_nil, sizeLine_eq]
            omega
          refine dss_cons (ds_app ?_ ?_)
          · exact trivial
          refine de_dv (dv_metL (k := 8) B M MF (fun _ _ => False) (fun c fs g2 => c = CI ∧ fs = [(("index" : Str), odd)] ∧ g2 = (g - 1 - 1 - 1)) ?_ (fun r g' z => z.elim) ?_ tb.tb rfl tb.mem tb.uniq (hr.mono (by decide)) (LamX.lamS_by (by kernel_rfl)))
          · intro F0 H0 A1 outer1 s1 H1 E1 f' c' hr2 tk2
            show DV _ T _ ⟨[.dat .strm, .dat (.lst (l.map stD)), .dat (.int at'), _, _, _, .dat odd, .dat (.lst W)], [], _, _⟩ _ _
            refine dv_call h4 hr2 tk2 ?_
            walk_at "gs"
            exact ⟨.lst (l.map stD), .int 1, odd, rfl, wodd, wt_stays l, rfl, by show (l.map stD).length < 2 ^ 20; rw [List.length_map]; omega, .inr ⟨l, odd_none' okl, tup_stays l, by omega, .inr ⟨1, rfl, Nat.le_refl _, .inl ⟨jodd, rfl, rfl, rfl, rfl⟩⟩⟩⟩
          · intro c' fs g' hx
            obtain ⟨e1, e2, e3⟩ := hx
            subst e3
            refine .inr (.inr (.inl ⟨e1, _, e2, fun a => ?_⟩))
            clear e1 e2 c' fs
            refine ⟨?_, ?_⟩
            · simp only [List.length_append, List.length_cons, List.length_nil, sizeLine_eq]
              omega
            refine dss_cons (ds_app ?_ ?_)
            · exact trivial
            refine de_dv (dv_metL (k := 8) B M MF (fun _ _ => False) (fun c fs g2 => c = CI ∧ fs = [(("index" : Str), .int (l.length : Int))] ∧ g2 = (g - 1 - 1 - 1)) ?_ (fun r g' z => z.elim) ?_ tb.tb rfl tb.mem tb.uniq (hr.mono (by decide)) (LamX.lamS_by (by kernel_rfl)))
            · intro F0 H0 A1 outer1 s1 H1 E1 f' c' hr2 tk2
              show DV _ T _ ⟨[.dat .strm, .dat (.lst (l.map stD)), .dat (.int at'), _, _, _, .dat odd, .dat (.lst W)], [], _, _⟩ _ _
              refine dv_call h4 hr2 tk2 ?_
              walk_at "gs"
              refine lenD_seq rfl ?_
              rw [List.length_map]
              walk_at "gs"
              exact ⟨.lst (l.map stD), .int 2, .int (l.length : Int), rfl, rfl, wt_stays l, rfl, by show (l.map stD).length < 2 ^ 20; rw [List.length_map]; omega, .inr ⟨l, odd_none' okl, tup_stays l, by omega, .inr ⟨2, rfl, by decide, .inr ⟨l.length, rfl, .inl ⟨Nat.le_refl _, rfl, rfl, rfl, rfl⟩⟩⟩⟩⟩
            · intro c' fs g' hx
              obtain ⟨e1, e2, e3⟩ := hx
              subst e3
              refine .inr (.inr (.inl ⟨e1, _, e2, fun a => ?_⟩))
              clear e1 e2 c' fs
              refine ⟨?_, ?_⟩
              · simp only [List.length_append, List.length_cons, List.length_nil, sizeLine_eq]
                omega
              refine dss_cons (ds_app ?_ ?_)
              · exact trivial
              refine de_dv (dv_metL (k := 8) B M MF (fun _ _ => False) (fun c fs g2 => c = CS ∧ fs = [(("index" : Str), D.int at')] ∧ g2 = (g - 1 - 1 - 1)) ?_ (fun r g' z => z.elim) ?_ tb.tb rfl tb.mem tb.uniq (hr.mono (by decide)) (LamX.lamS_by (by kernel_rfl)))
              · intro F0 H0 A1 outer1 s1 H1 E1 f' c' hr2 tk2
                show DV _ T _ ⟨[.dat .strm, .dat (.lst (l.map stD)), .dat (.int at'), _, _, _, .dat odd, .dat (.lst W)], [], _, _⟩ _ _
                refine dv_call h5 hr2 tk2 ?_
                walk_at "gs"
                exact ⟨.lst W, .non, rfl, wW, rfl, by show W.length < 2 ^ 20; omega, .inl ⟨(by rw [oW]; intro z; cases z), rfl, rfl, (by rw [oW]), rfl⟩⟩
              · intro c' fs g' hx
                obtain ⟨e1, e2, e3⟩ := hx
                subst e3
                refine .inl ⟨e1, _, e2, fun a => ?_⟩
                clear e1 e2 c' fs
                refine ⟨?_, ?_⟩
                · simp only [List.length_append, List.length_cons, List.length_nil, sizeLine_eq]
                  omega
                refine dss_cons (ds_app ?_ ?_)
                · exact trivial
                refine de_dv (dv_metL (k := 8) B M MF (fun _ _ => False) (fun c fs g2 => c = CD ∧ fs = [(("day" : Str), odd)] ∧ g2 = (g - 1 - 1 - 1)) ?_ (fun r g' z => z.elim) ?_ tb.tb rfl tb.mem tb.uniq (hr.mono (by decide)) (LamX.lamS_by (by kernel_rfl)))
                · intro F0 H0 A1 outer1 s1 H1 E1 f' c' hr2 tk2
                  show DV _ T _ ⟨[.dat .strm, .dat (.lst (l.map stD)), .dat (.int at'), _, _, _, .dat odd, .dat (.lst W)], [], _, _⟩ _ _
                  refine dv_call h5 hr2 tk2 ?_
                  walk_at "gs"
                  exact ⟨.lst (l.map stD), odd, rfl, wt_stays l, wodd, by show (l.map stD).length < 2 ^ 20; rw [List.length_map]; omega, .inr ⟨l, odd_none' okl, tup_stays l, by omega, .inl ⟨jodd, rfl, rfl, rfl, rfl⟩⟩⟩
                · intro c' fs g' hx
                  obtain ⟨e1, e2, e3⟩ := hx
                  subst e3
                  refine .inr (.inr (.inr ⟨e1, _, e2, fun a => ?_⟩))
                  clear e1 e2 c' fs
                  refine ⟨?_, ?_⟩
                  · simp only [List.length_append, List.length_cons, List.length_nil, sizeLine_eq]
                    omega
                  refine dss_cons (ds_ext ?_ ?_)
                  · exact trivial
                  walk_at "gs"
                  refine ⟨by show 2 ≤ sizeLine; decide, fun d0 => ?_⟩
                  walk_at "gs"
                  refine ⟨by show 2 ≤ sizeLine; decide, fun d1 => ?_⟩
                  walk_at "gs"
                  refine ⟨by show 2 ≤ sizeLine; decide, fun d2 => ?_⟩
                  walk_at "gs"
                  refine ⟨by show 2 ≤ sizeLine; decide, fun d3 => ?_⟩
                  walk_at "gs"
                  refine lenD_seq rfl ?_
                  rw [List.length_map]
                  walk_at "gs"
                  refine ⟨by show 2 ≤ sizeLine; decide, fun d4 => ?_⟩
                  walk_at "gs"
                  refine ⟨by show 2 ≤ sizeLine; decide, fun d5 => ?_⟩
                  walk_at "gs"
                  refine ⟨by show 6 ≤ sizeLine; decide, fun d8 => ?_⟩
                  refine ⟨_, rfl, by show 6 + 6 ≤ sizeLine; decide, ?_⟩
                  walk_at "gs"
                  refine ⟨by show 2 ≤ sizeLine; decide, fun d9 => ?_⟩
                  walk_at "gs"
                  refine ⟨by show 1 ≤ sizeLine; decide, fun d10 => ?_⟩
                  walk_at "gs"
                  refine ⟨by show 12 + 1 ≤ sizeLine; decide, ?_⟩
                  walk_at "gs"
                  refine ⟨.lst [(D.lst [.str "stays", .int at']), (D.lst [.str "many", odd]), (D.lst [.str "many", .int 0]), (D.lst [.str "stays", .int at']), (D.lst [.str "many", odd]), (D.lst [.str "many", .int 0]), (D.lst [.str "stays", .int at']), (D.lst [.str "many", odd]), (D.lst [.str "many", .int 0]), (D.lst [.str "index", odd]), (D.lst [.str "index", .int (l.length : Int)]), (D.lst [.str "stays", .int at']), (D.lst [.str "day", odd])], rfl, sm_lst (by show 13 < sizeLine; decide) (fun d hd => ?_), ?_⟩
                  · simp only [List.mem_cons, List.not_mem_nil, or_false] at hd
                    rcases hd with rfl | rfl | rfl | rfl | rfl | rfl | rfl | rfl | rfl | rfl | rfl | rfl | rfl
                    · exact sm_pair sh_stays rfl
                    · exact sm_pair sh_many sodd
                    · exact sm_pair sh_many rfl
                    · exact sm_pair sh_stays rfl
                    · exact sm_pair sh_many sodd
                    · exact sm_pair sh_many rfl
                    · exact sm_pair sh_stays rfl
                    · exact sm_pair sh_many sodd
                    · exact sm_pair sh_many rfl
                    · exact sm_pair sh_index sodd
                    · exact sm_pair sh_index rfl
                    · exact sm_pair sh_stays rfl
                    · exact sm_pair sh_day sodd
                  exact ⟨.inl rfl, h⟩
end
end K68
end

section
namespace DL
open PySem L2 K68
/-- the plain laws -/
structure PL : Prop where
  good : ∀ l k, okStays l → 1 ≤ k → GoodS l (late l k) ∧ GoodC l (late l k) ∧ ∀ j, j < l.length → (wayG l (late l k) j).length ≤ l.length
  irr : ∀ l k, okStays l → 1 ≤ k → lateP l k = late l k
  mono : ∀ l k j, okStays l → 1 ≤ k → j < l.length → dayOf (late l (k + 1)) j ≤ dayOf (late l k) j
  zero : ∀ l, okStays l → wst l (late l (max 1 l.length)) ≤ 0
def dyD (l : List Stay) (k : Nat) : D := .lst ((List.range l.length).map fun j => .int (dayOf (late l k) j))
def woD (l : List Stay) : Nat → D
  | 0 => .non
  | k + 1 => dyD l (k + 1)
end DL
open PySem L2 DL
namespace K68
section
variable {P : Program} {w : World} {K : PySem.W.Frag} {mg : Str → Option Value} {base : Heap} {T : List (Addr × Str)}
structure Lw (P : Program) (w : World) (K : PySem.W.Frag) (mg : Str → Option Value) (base : Heap) (T : List (Addr × Str)) (CS CM CI CD : Addr) : Prop where
  str : Kn P w K mg base T "_law_stream" 1 strN
  dra : Kn P w K mg base T "_law_draw" 1 draN
  pic : Kn P w K mg base T "_law_pick" 2 picN
  sts : Kn P w K mg base T "_law_stays" 3 stsN
  asl : Kn P w K mg base T "_law_as_lists" 3 (asF (DomL (DomL isInt 3) 100) (PrL (PrL eqI)) 101)
  sam : Kn P w K mg base T "_law_same" 5 (sameN 4)
  lat : Kn P w K mg base T "_law_late" 3 llaN
  cha : Kn P w K mg base T "_law_chain" 1 lchN
  wor : Kn P w K mg base T "_law_worst" 1 lwoN
  rfr : Kn P w K mg base T "_law_refused_right" 12 rfrN
  ltb : Kn P w K mg base T "late_begins" 8 (ltbN CS CM)
  ltbK : KnK P w K mg base T "late_begins" 8 (ltbN CS CM) ["many", "stays"] [1, 0]
  ltsK : KnK P w K mg base T "latest" 8 (ltsN CS CM) ["many", "stays"] [1, 0]
  wayK : KnK P w K mg base T "in_the_way" 8 (wayN CS CM CI) ["index", "many", "stays"] [2, 1, 0]
  adfK : KnK P w K mg base T "addresses_for" 8 (adfN CS CD) ["late", "stays"] [1, 0]
def forB : Stmt → List Stmt
  | .For _ _ b _ _ => b
  | _ => []
def whB : Stmt → List Stmt
  | .While _ b _ _ => b
  | _ => []
abbrev turnB : List Stmt := forB ((defBody s_law).getD 0 (.Pass ⟨0, 0, 0, 0⟩))
abbrev manyB : List Stmt := forB (turnB.getD 4 (.Pass ⟨0, 0, 0, 0⟩))
abbrev daysB : List Stmt := forB (turnB.getD 5 (.Pass ⟨0, 0, 0, 0⟩))
abbrev NL : List Str := ["script", "turn", "stream", "stays", "handed", "before", "worst", "many", "late", "pair", "due", "told", "one", "other", "index", "days"]
theorem sm_two {n : Nat} {a b : D} (ha : sm n a = true) (hb : sm n b = true) : sm (n + 1) (.lst [a, b]) = true := by
  show (decide (2 < sizeLine) && (sm n a && (sm n b && true))) = true
  rw [ha, hb]
  decide
theorem sm_ints {α : Type} {n : Nat} {xs : List α} {f : α → D} (hf : ∀ x, ∃ i : Int, f x = .int i) (h : xs.length < sizeLine) : sm (n + 2) (.lst (xs.map f)) = true := by
  refine sm_lst (by rw [List.length_map]; exact h) fun d hd => ?_
  obtain ⟨x, _, rfl⟩ := List.mem_map.mp hd
  obtain ⟨i, e⟩ := hf x
  rw [e]
  rfl
theorem pre_ok {CS CM : Addr} {l : List Stay} {y : D} (hH : Handed l y) (hl : l.length ≤ 100) {k : Nat} (hk : 1 ≤ k) {g : Nat} {C : Out → Prop} {body : List Stay → Nat → Prop} (h : body l k) : preS CS CM y (.int (k : Int)) g C body :=
  ⟨hH.wt, rfl, by rw [hH.len]; omega, .inr ⟨l, hH.odd, hH.tup, by omega, .inr ⟨k, rfl, hk, h⟩⟩⟩
theorem many_law (pl : PL) (B : Bi mg) {CS CM CI CD : Addr} (L : Lw P w K mg base T CS CM CI CD) {f : Addr} {cdv : Value} {A : Around} {outer : List Env} {s : Shared} {H : Hp} {E : XK} {An : Anc} (hr : Room 12 (A.deeper (PyProof.Rows.envOfC "law" (defScope s_law) s.heap.objs.size f cdv)))
    {l : List Stay} (okl : okStays l) (hl : l.length ≤ 100) {y : D} (hH : Handed l y) {i : Nat} (hi : i < 5) {g : Nat} {s0 s1 s5 s8 s10 s11 s14 s15 : Sl} {ws : List Addr} {O : DO}
    (hn : ∀ s8 s10 s11 s14, O.nx ⟨[s0, s1, .dat .strm, .dat (.lst (l.map stD)), .dat y, s5, .dat (woD l (i + 1)), .dat (.int ((i + 1 : Nat) : Int)), s8, .non, s10, s11, .non, .non, s14, s15], [], ws, g⟩) :
    DSs (bodyCx P w K mg base NL "law" s_law f cdv A outer s H E) T An ⟨[s0, s1, .dat .strm, .dat (.lst (l.map stD)), .dat y, s5, .dat (woD l i), .dat (.int ((i + 1 : Nat) : Int)), s8, .non, s10, s11, .non, .non, s14, s15], [], ws, g⟩ manyB O := by
  have nd := sc_law.nd
  obtain ⟨G, GC, hL⟩ := pl.good l (i + 1) okl (by omega)
  have hP := pl.irr l (i + 1) okl (by omega)
  refine dss_cons (ds_set nd (dv_call L.lat (hr.mono (by decide)) tkF ?_))
  walk_at "gs"
  refine ⟨l, i + 1, rfl, by omega, by omega, by omega, okl, fun a1 => ?_⟩
  walk_at "n"
  refine dss_cons (ds_setLc rfl nd (blkOk_by (own := [("pair", 9)]) (by kernel_rfl)) rfl rfl (di_seq (de_name ?_)))
  walk_at "n"
  refine ⟨_, rfl, lcd_fm (fun x => match x with | .tup [y, _] => [y] | _ => []) rfl (by unfold latL; rw [List.length_map, List.length_range, sizeLine_eq]; omega) (fun i5 y acc D0 ey => ?_) fun a2 => ?_⟩
  · unfold latL at ey
    rw [List.getElem?_map] at ey
    obtain ⟨j, ej, rfl⟩ := Option.map_eq_some_iff.mp ey
    walk_at "blk"
    walk_at "gg"
    walk_at "blk"
    refine dts_nil ⟨fun _ => ?_, fun z => (by cases z)⟩
    walk_at "blk"
    walk_at "go"
    refine ixD_seq (j := 0) rfl rfl rfl ?_
    exact ⟨rfl, rfl, rfl, rfl⟩
  have ed : (latL l (late l (i + 1))).flatMap (fun x => match x with | .tup [y, _] => [y] | _ => []) = (List.range l.length).map fun j => D.int (dayOf (late l (i + 1)) j) := by
    unfold latL
    rw [List.flatMap_map, ← List.map_eq_flatMap]
  rw [ed]
  walk_at "n"
  refine dss_cons (ds_appNew (dv_call L.ltb (hr.mono (by decide)) tkF ?_))
  walk_at "gs"
  refine ⟨y, .int ((i + 1 : Nat) : Int), rfl, pre_ok hH hl (by omega) ?_⟩
  intro a3
  refine ⟨_, _, rfl, de_str ⟨_, rfl, rfl, by rw [List.length_map, List.length_range, sizeLine_eq]; omega, ?_⟩⟩
  walk_at "n"
  refine dss_cons (ds_set nd (dv_list (da_cons (de_dv (dv_callK L.ltbK (hr.mono (by decide)) tkF (dk_cons ?_))))))
  walk_at "gs"
  refine dk_cons ?_
  walk_at "gs"
  refine dk_nil ⟨rfl, ?_⟩
  refine ⟨y, .int ((i + 1 : Nat) : Int), rfl, pre_ok hH hl (by omega) ?_⟩
  intro a4
  walk_at "n"
  refine da_cons (de_dv (dv_callK L.ltsK (hr.mono (by decide)) tkF (dk_cons ?_)))
  walk_at "gs"
  refine dk_cons ?_
  walk_at "gs"
  refine dk_nil ⟨rfl, ?_⟩
  refine ⟨y, .int ((i + 1 : Nat) : Int), rfl, pre_ok hH hl (by omega) ?_⟩
  walk_at "n"
  refine da_nil ⟨by show 2 ≤ sizeLine; decide, fun a5 => ?_⟩
  walk_at "n"
  rw [hP]
  refine dss_cons (ds_if (dt_not (dt_tru (de_dv (dv_call L.sam (hr.mono (by decide)) tkF (da_cons (de_name ?_)))))))
  walk_at "n"
  refine da_cons (de_dv (dv_list (da_cons (de_name ?_))))
  walk_at "n"
  refine da_cons (de_dv (dv_call L.wor (hr.mono (by decide)) tkF ?_))
  walk_at "gs"
  refine ⟨l, late l (i + 1), rfl, by omega, G, ?_⟩
  walk_at "n"
  refine da_nil ⟨by show 2 ≤ sizeLine; decide, fun a6 => ?_⟩
  walk_at "n"
  refine da_nil ?_
  refine ⟨.lst [.lst ((List.range l.length).map fun j => D.int (dayOf (late l (i + 1)) j)), .int (wst l (late l (i + 1)))], rfl, sm_two (sm_ints (fun x => ⟨_, rfl⟩) (by rw [List.length_range, sizeLine_eq]; omega)) rfl, ?_⟩
  walk_at "n"
  refine ⟨true, rfl, fun z => (by cases z), fun _ => ?_⟩
  refine dss_nil ?_
  have fold : (D.lst ((List.range l.length).map fun j => D.int (dayOf (late l (i + 1)) j))) = dyD l (i + 1) := rfl
  refine dss_cons (ds_if (dt_imp (C1 := fun k ρ' => k = false ∧ ρ' = ⟨[s0, s1, .dat .strm, .dat (.lst (l.map stD)), .dat y, s5, .dat (woD l i), .dat (.int ((i + 1 : Nat) : Int)), .dat (.lst (latL l (late l (i + 1)))), .non, .dat (dyD l (i + 1)), .dat (.lst [dyD l (i + 1), .int (wst l (late l (i + 1)))]), .non, .non, s14, s15], [], ws, g⟩) (dt_bool (dw_and (dt_isnt ?_))) ?_))
  · walk_at "gs"
    cases i with
    | zero =>
      refine ⟨rfl, fun z => (by cases z), fun _ => ⟨rfl, rfl⟩⟩
    | succ i =>
      refine ⟨rfl, fun _ => ?_, fun z => (by cases z)⟩
      refine dw_and1 (dt_tru (de_dv (dv_any rfl B.any (da_cons (de_dv (dv_lc rfl nd (blkOk_by (own := [("one", 12), ("other", 13)]) (by kernel_rfl)) (di_zip B.zip ?_)))))))
      walk_at "gs"
      refine .inl ⟨_, _, rfl, rfl, ?_⟩
      have hz : zipOf ((List.range l.length).map fun j => D.int (dayOf (late l (i + 1 + 1)) j)) ((List.range l.length).map fun j => D.int (dayOf (late l (i + 1)) j)) = (List.range l.length).map fun j => .tup [D.int (dayOf (late l (i + 1 + 1)) j), D.int (dayOf (late l (i + 1)) j)] := by
        generalize List.range l.length = rs
        induction rs with
        | nil => rfl
        | cons r rs ih =>
          rw [List.map_cons, List.map_cons, List.map_cons, zipOf, ih]
      rw [hz]
      refine lcd_fm (fun x => match x with | .tup [.int a, .int b] => [.bl (decide (a > b))] | _ => []) rfl (by rw [List.length_map, List.length_range, sizeLine_eq]; omega) (fun i5 y5 acc D0 ey => ?_) fun a7 => ?_
      · rw [List.getElem?_map] at ey
        obtain ⟨j, ej, rfl⟩ := Option.map_eq_some_iff.mp ey
        walk_at "blk"
        walk_at "gg"
        walk_at "blk"
        refine dts_nil ⟨fun _ => ?_, fun z => (by cases z)⟩
        walk_at "blk"
        walk_at "go"
        exact ⟨rfl, rfl, rfl, rfl⟩
      · refine da_nil ⟨(List.range l.length).map fun j => decide (dayOf (late l (i + 1 + 1)) j > dayOf (late l (i + 1)) j), ?_, ?_⟩
        · show some _ = some _
          congr 1
          rw [List.flatMap_map, List.map_map]
          exact (List.map_eq_flatMap).symm
        · have ea : ((List.range l.length).map fun j => decide (dayOf (late l (i + 1 + 1)) j > dayOf (late l (i + 1)) j)).any id = false := by
            rw [List.any_eq_false]
            intro b hb
            obtain ⟨j, hj, rfl⟩ := List.mem_map.mp hb
            have := pl.mono l (i + 1) j okl (by omega) (List.mem_range.mp hj)
            simp only [id, decide_eq_true_eq]
            omega
          rw [ea]
          exact ⟨_, rfl, rfl, rfl⟩
  rintro k ρ' ⟨rfl, rfl⟩
  refine ⟨fun z => (by cases z), fun _ => ?_⟩
  refine dss_nil ?_
  refine dss_cons (ds_set nd (dv_de (de_name ?_)))
  walk_at "n"
  refine dss_cons (ds_for (passes_of rfl) rfl (di_rng1 B.range ?_))
  walk_at "gs"
  refine lenD_seq rfl ?_
  walk_at "gs"
  rw [List.length_map]
  refine ⟨by omega, by omega, fun j ρ => ∃ s11 s14 : Sl, ρ = ⟨[s0, s1, .dat .strm, .dat (.lst (l.map stD)), .dat y, s5, .dat (woD l (i + 1)), .dat (.int ((i + 1 : Nat) : Int)), .dat (.lst (latL l (late l (i + 1)))), .non, .dat (dyD l (i + 1)), s11, .non, .non, s14, s15], [], ws, g⟩, ⟨_, s14, rfl⟩, fun i9 dd ρ2 ei hI => ?_, fun ρ2 hI => ?_⟩
  · obtain ⟨s11', s14', rfl⟩ := hI
    unfold rngD at ei
    rw [List.getElem?_map] at ei
    obtain ⟨j, ej, rfl⟩ := Option.map_eq_some_iff.mp ei
    have hj : j < l.length := by have := List.mem_of_getElem? ej; rw [List.mem_range] at this; omega
    have ez0 : (0 : Int) + (j : Int) = j := Int.zero_add _
    rw [ez0]
    refine ⟨[14], ?_⟩
    walk_at "gg"
    refine dss_cons (ds_set nd (dv_callK L.wayK (hr.mono (by decide)) tkF (dk_cons ?_)))
    walk_at "gs"
    refine dk_cons ?_
    walk_at "gs"
    refine dk_cons ?_
    walk_at "gs"
    refine dk_nil ⟨rfl, ?_⟩
    refine ⟨y, .int ((i + 1 : Nat) : Int), .int (j : Int), rfl, rfl, pre_ok hH hl (by omega) (.inr ⟨j, rfl, .inr ⟨hj, ?_⟩⟩)⟩
    rw [hP]
    refine ⟨G, hL, fun a8 => ?_⟩
    walk_at "n"
    refine dss_cons (ds_if (dt_not (dt_tru (de_dv (dv_call L.sam (hr.mono (by decide)) tkF (da_cons (de_name ?_)))))))
    walk_at "n"
    refine da_cons (de_dv (dv_call L.cha (hr.mono (by decide)) tkF ?_))
    walk_at "gs"
    refine ⟨l, late l (i + 1), j, rfl, by omega, hj, G, GC, hL, fun a9 => ?_⟩
    walk_at "n"
    refine da_nil ?_
    have hw := hL j hj
    refine ⟨.lst ((wayG l (late l (i + 1)) j).map idD), rfl, sm_ints (fun x => ⟨_, rfl⟩) (by rw [sizeLine_eq]; omega), ?_⟩
    walk_at "n"
    refine ⟨true, rfl, fun z => (by cases z), fun _ => ?_⟩
    exact dss_nil (dss_nil ⟨_, _, rfl⟩)
  · obtain ⟨s11', s14', rfl⟩ := hI
    exact dss_nil (hn _ _ _ _)
/-- the days -/
def dys (l : List Stay) (r : Nat) : List D := [.int 0, .int 1, .int (r : Int), .int (wst l (late l 1))]
theorem least_many (pl : PL) {l : List Stay} (okl : okStays l) {d : Int} (hd : 0 ≤ d) : ∃ r : Nat, 1 ≤ r ∧ r ≤ max 1 l.length ∧ wst l (late l r) ≤ d ∧ ∀ r', 1 ≤ r' → r' < r → d < wst l (late l r') := by
  have hz := pl.zero l okl
  have key : ∀ (n r : Nat), 1 ≤ r → r + n = max 1 l.length → (∀ r', 1 ≤ r' → r' < r → d < wst l (late l r')) → ∃ r : Nat, 1 ≤ r ∧ r ≤ max 1 l.length ∧ wst l (late l r) ≤ d ∧ ∀ r', 1 ≤ r' → r' < r → d < wst l (late l r') := by
    intro n
    induction n with
    | zero =>
      intro r h1 h2 h3
      have : r = max 1 l.length := by omega
      subst this
      exact ⟨_, h1, Nat.le_refl _, by omega, h3⟩
    | succ n ih =>
      intro r h1 h2 h3
      by_cases e : wst l (late l r) ≤ d
      · exact ⟨r, h1, by omega, e, h3⟩
      · refine ih (r + 1) (by omega) (by omega) fun r' q1 q2 => ?_
        by_cases z : r' = r
        · subst z; omega
        · exact h3 r' q1 (by omega)
  exact key (max 1 l.length - 1) 1 (Nat.le_refl _) (by omega) fun r' q1 q2 => by omega
theorem days_law (pl : PL) (B : Bi mg) {CS CM CI CD : Addr} (L : Lw P w K mg base T CS CM CI CD) {f : Addr} {cdv : Value} {A : Around} {outer : List Env} {s : Shared} {H : Hp} {E : XK} {An : Anc} (hr : Room 12 (A.deeper (PyProof.Rows.envOfC "law" (defScope s_law) s.heap.objs.size f cdv)))
    {l : List Stay} (okl : okStays l) (hl : l.length ≤ 100) {y : D} (hH : Handed l y) {d : Int} (hd : 0 ≤ d) {g : Nat} {s0 s1 s5 s6 s7 s8 s10 s11 s14 : Sl} {ws : List Addr} {O : DO}
    (hn : ∀ s7, O.nx ⟨[s0, s1, .dat .strm, .dat (.lst (l.map stD)), .dat y, s5, s6, s7, s8, .non, s10, s11, .non, .non, s14, .dat (.int d)], [], ws, g⟩) :
    DSs (bodyCx P w K mg base NL "law" s_law f cdv A outer s H E) T An ⟨[s0, s1, .dat .strm, .dat (.lst (l.map stD)), .dat y, s5, s6, s7, s8, .non, s10, s11, .non, .non, s14, .dat (.int d)], [], ws, g⟩ daysB O := by
  have nd := sc_law.nd
  obtain ⟨r, hr1, hr2, hr3, hr4⟩ := least_many pl okl hd
  walk_at "gs"
  refine ds_while (passes_of rfl) (fun m ρ => ∃ q, 1 ≤ q ∧ q + m = r ∧ ρ = ⟨[s0, s1, .dat .strm, .dat (.lst (l.map stD)), .dat y, s5, s6, .dat (.int ((q : Nat) : Int)), s8, .non, s10, s11, .non, .non, s14, .dat (.int d)], [], ws, g⟩) ⟨r - 1, 1, Nat.le_refl _, by omega, rfl⟩ fun n ρ1 hI => ?_
  obtain ⟨q, hq, hqn, rfl⟩ := hI
  obtain ⟨G, _, _⟩ := pl.good l q okl hq
  refine dt_gt (de_dv (dv_call L.wor (hr.mono (by decide)) tkF (da_cons (de_name ?_))))
  walk_at "n"
  refine da_cons (de_dv (dv_call L.lat (hr.mono (by decide)) tkF ?_))
  walk_at "gs"
  refine ⟨l, q, rfl, hq, by omega, by omega, okl, fun a1 => ?_⟩
  refine da_nil ⟨l, late l q, rfl, by omega, G, ?_⟩
  walk_at "gs"
  refine ⟨fun e => ?_, fun e => ?_⟩
  · have e1 : d < wst l (late l q) := of_decide_eq_true e
    have hqr : q ≠ r := fun z => by rw [z] at e1; omega
    walk_at "gs"
    exact ⟨n - 1, by omega, q + 1, by omega, by omega, rfl⟩
  · have e1 : ¬ d < wst l (late l q) := of_decide_eq_false e
    have hqr : q = r := by
      by_cases z : q < r
      · exact absurd (hr4 q hq z) e1
      · omega
    subst hqr
    refine dss_cons (ds_if (dt_not (dt_tru (de_dv (dv_call L.sam (hr.mono (by decide)) tkF (da_cons (de_dv (dv_callK L.adfK (hr.mono (by decide)) tkF (dk_cons ?_)))))))))
    walk_at "gs"
    refine dk_cons ?_
    walk_at "gs"
    refine dk_nil ⟨rfl, ?_⟩
    refine ⟨y, .int d, rfl, hH.wt, rfl, by rw [hH.len]; omega, .inr ⟨l, hH.odd, hH.tup, by omega, .inr ⟨d, q, rfl, decide_eq_true hd, hq, ?_, ?_, ?_⟩⟩⟩
    · rw [pl.irr l q okl hq]
      exact hr3
    · intro r' q1 q2
      rw [pl.irr l r' okl q1]
      exact hr4 r' q1 q2
    walk_at "gs"
    refine ⟨.int (q : Int), rfl, rfl, ?_⟩
    walk_at "n"
    refine ⟨true, rfl, fun z => (by cases z), fun _ => ?_⟩
    exact dss_nil (dss_nil (hn _))
end
end K68
end

section
open PySem L2 DL
namespace K68
section
variable {P : Program} {w : World} {K : PySem.W.Frag} {mg : Str → Option Value} {base : Heap} {T : List (Addr × Str)}
theorem body_law (pl : PL) (B : Bi mg) {CS CM CI CD : Addr} (L : Lw P w K mg base T CS CM CI CD) {f : Addr} {cdv : Value} {A : Around} {outer : List Env} {s : Shared} {H : Hp} {E : XK} {An : Anc} (hgd : A.guards = some []) {ns : List Int} (hns : ns.length ≤ 63) {C : Out → Prop} (hr : Room 12 (A.deeper (PyProof.Rows.envOfC "law" (defScope s_law) s.heap.objs.size f cdv)))
    (h : ∀ g', C (.ret (.bl true) g')) : DSs (bodyCx P w K mg base NL "law" s_law f cdv A outer s H E) T An ⟨[.dat (.kl (ns.map D.int)), .non, .non, .non, .non, .non, .non, .non, .non, .non, .non, .non, .non, .non, .non, .non], [], An.ws, 300000⟩ (defBody s_law) (bodyO An.ws C) := by
  have nd := sc_law.nd
  have hu : (A.deeper (PyProof.Rows.envOfC "law" (defScope s_law) s.heap.objs.size f cdv)).units + 70 < cLine := by have := hr.un; omega
  refine dss_cons (ds_for (passes_of rfl) rfl (di_rng1 B.range ?_))
  walk_at "gs"
  refine ⟨by decide, by decide, fun i ρ => ∃ (s1 s2 s3 s4 s5 s6 s7 s8 s10 s11 s14 s15 : Sl) (ws : List Addr) (g1 : Nat), 300000 - 100000 * i ≤ g1 ∧ g1 ≤ 300000 ∧ ρ = ⟨[.dat (.kl (ns.map D.int)), s1, s2, s3, s4, s5, s6, s7, s8, .non, s10, s11, .non, .non, s14, s15], [], ws, g1⟩, ⟨.non, .non, .non, .non, .non, .non, .non, .non, .non, .non, .non, .non, An.ws, 300000, by omega, by omega, rfl⟩, fun i dd ρ2 ei hI => ?_, fun ρ2 hI => ?_⟩
  · obtain ⟨s1, s2, s3, s4, s5, s6, s7, s8, s10, s11, s14, s15, ws, g1, q1, q2, rfl⟩ := hI
    have hi3 : i < 3 := by
      obtain ⟨z, _⟩ := List.getElem?_eq_some_iff.mp ei
      exact z
    unfold rngD at ei
    rw [List.getElem?_map] at ei
    obtain ⟨i6, e6, rfl⟩ := Option.map_eq_some_iff.mp ei
    have ei6 : i6 = i := by
      obtain ⟨z, e7⟩ := List.getElem?_eq_some_iff.mp e6
      rw [List.getElem_range] at e7
      exact e7.symm
    subst ei6
    rw [Int.zero_add]
    refine ⟨[1], ?_⟩
    walk_at "gg"
    refine dss_cons (ds_strm nd ?_)
    refine dv_call L.str (hr.mono (by decide)) tkF ?_
    walk_at "gs"
    refine ⟨ns, i6, rfl, hns, by omega, fun c m hc hm hm2 a => ?_⟩
    refine ⟨a, c, m, g1, rfl, hc, hm, hm2, fun _ _ => Nat.le_refl _, by show g1 ≤ 1099511627776; omega, by show 2 < 16; decide, ?_⟩
    show DSs _ T An ⟨[.dat (.kl (ns.map D.int)), .dat (.int i6), .dat .strm, s3, s4, s5, s6, s7, s8, .non, s10, s11, .non, .non, s14, s15], [], a :: ws, g1⟩ _ _
    generalize a :: ws = ws1
    have q3 : 100000 ≤ g1 := by omega
    refine dss_cons (ds_set nd (dv_call L.sts (hr.mono (by decide)) tkF ?_))
    walk_at "gs"
    refine de_dv (dv_call L.pic (hr.mono (by decide)) tkF ?_)
    walk_at "gs"
    refine ⟨by show 3 ≤ sizeLine; decide, fun b1 => ?_⟩
    walk_at "gs"
    refine ⟨_, rfl, by decide, by decide, by show 1 ≤ g1; omega, fun d1 hd1 => ?_⟩
    obtain ⟨mo, rfl, hmo⟩ : ∃ mo : Nat, d1 = .int mo ∧ mo ≤ 16 := by
      simp only [List.mem_cons, List.not_mem_nil, or_false] at hd1
      rcases hd1 with rfl | rfl | rfl
      · exact ⟨4, rfl, by decide⟩
      · exact ⟨9, rfl, by decide⟩
      · exact ⟨16, rfl, by decide⟩
    walk_at "gs"
    refine ⟨mo, rfl, by omega, by show 1000 ≤ g1 - 1; omega, fun l g2 hl okl q4 q5 p3 => ?_⟩
    have q4' : g1 - 1 - 1000 ≤ g2 := q4
    have q5' : g2 ≤ g1 - 1 := q5
    have hl2 : l.length ≤ 16 := by omega
    walk_at "n"
    refine dss_cons (ds_set nd (dv_de (de_dv (dv_call L.asl (hr.mono (by decide)) tkF ?_))))
    walk_at "gs"
    refine ⟨.lst (l.map stD), rfl, ⟨l.map stD, .inl rfl, by rw [List.length_map]; omega, fun d hd => ?_⟩, by show 101 ≤ g2; omega, fun y g4 hy q8 q9 => ?_⟩
    · obtain ⟨s, _, rfl⟩ := List.mem_map.mp hd
      refine ⟨_, .inr rfl, by show 3 ≤ 3; decide, fun e he => ?_⟩
      simp only [List.mem_cons, List.not_mem_nil, or_false] at he
      rcases he with rfl | rfl | rfl <;> exact ⟨_, rfl⟩
    have hH := handed_ok okl (by omega) hy
    have q9' : g4 ≤ g2 := q9
    have q8' : g2 - 101 ≤ g4 := q8
    refine (show ∀ {P Q : Prop}, P → (P → Q) → P ∧ Q from fun a b => ⟨a, b a⟩) ?_ (fun key es ey a => ?_)
    rotate_left
    · subst ey
      exact key
    walk_at "n"
    obtain ⟨dy, edy, sdy⟩ := hH.rep
    have hrp : ∀ {C : CV} {ρ : Ev}, C (.v (.str dy.shown)) ρ → reprD [y] C ρ := fun {C ρ} c => by
      rcases hH.two with ⟨es, rfl⟩ | ⟨es, rfl⟩
      · exact ⟨dy, edy, sdy, c⟩
      · exact ⟨dy, edy, sdy, c⟩
    refine dss_cons (ds_par rfl nd (dv_repr hgd hu B.repr ?_))
    walk_at "gs"
    refine hrp ?_
    refine ⟨_, rfl, ?_⟩
    walk_at "gs"
    show DS _ T An ⟨[.dat (.kl (ns.map D.int)), .dat (.int i6), .dat .strm, .dat (.lst (l.map stD)), .dat y, .dat (.str dy.shown), .dat .non, s7, s8, .non, s10, s11, .non, .non, s14, s15], [], ws1, g4⟩ _ _
    refine ds_for (passes_of rfl) rfl (di_rng2 B.range ?_)
    walk_at "gs"
    refine ⟨⟨by decide, by decide, by decide, by decide⟩, fun i ρ => ∃ (s7 s8 s10 s11 s14 : Sl), ρ = ⟨[.dat (.kl (ns.map D.int)), .dat (.int i6), .dat .strm, .dat (.lst (l.map stD)), .dat y, .dat (.str dy.shown), .dat (woD l i), s7, s8, .non, s10, s11, .non, .non, s14, s15], [], ws1, g4⟩, ⟨s7, s8, s10, s11, s14, rfl⟩, fun i dd ρ2 ei2 hI2 => ?_, fun ρ2 hI2 => ?_⟩
    · obtain ⟨s7', s8', s10', s11', s14', rfl⟩ := hI2
      have hi5 : i < 5 := by
        obtain ⟨z, _⟩ := List.getElem?_eq_some_iff.mp ei2
        exact z
      have hdd : dd = D.int ((i + 1 : Nat) : Int) := by
        unfold rngD at ei2
        rw [List.getElem?_map, List.getElem?_range (show i < ((6 : Int) - 1).toNat from hi5)] at ei2
        cases ei2
        exact congrArg D.int (by omega)
      subst hdd
      refine ⟨[7], ?_⟩
      walk_at "gg"
      exact many_law pl B L hr okl (by omega) hH hi5 (g := g4) (s0 := .dat (.kl (ns.map D.int))) (s1 := .dat (.int i6)) (s5 := .dat (.str dy.shown)) (s15 := s15) (fun t8 t10 t11 t14 => ⟨_, t8, t10, t11, t14, rfl⟩)
    obtain ⟨s7', s8', s10', s11', s14', rfl⟩ := hI2
    obtain ⟨G, _, _⟩ := pl.good l 1 okl (Nat.le_refl _)
    refine dss_cons (ds_for (passes_of rfl) rfl (di_seq (de_dv (dv_list (da_cons (de_int (da_cons (de_int (da_cons (de_dv (dv_call L.dra (hr.mono (by decide)) tkF ?_)))))))))))
    walk_at "gs"
    refine ⟨12, rfl, by decide, by decide, by show 1 ≤ g4; omega, fun r hr3 => ?_⟩
    walk_at "n"
    refine da_cons (de_dv (dv_call L.wor (hr.mono (by decide)) tkF (da_cons (de_name ?_))))
    walk_at "n"
    refine da_cons (de_dv (dv_call L.lat (hr.mono (by decide)) tkF ?_))
    walk_at "gs"
    refine ⟨l, 1, rfl, Nat.le_refl _, by decide, by omega, okl, fun a1 => ?_⟩
    refine da_nil ⟨l, late l 1, rfl, by omega, G, ?_⟩
    walk_at "n"
    refine da_nil ⟨by show 4 ≤ sizeLine; decide, fun a2 => ?_⟩
    refine ⟨dys l r, rfl, fun i ρ => ∃ (s7 s15 : Sl), ρ = ⟨[.dat (.kl (ns.map D.int)), .dat (.int i6), .dat .strm, .dat (.lst (l.map stD)), .dat y, .dat (.str dy.shown), .dat (woD l 5), s7, s8', .non, s10', s11', .non, .non, s14', s15], [], ws1, g4 - 1⟩, ⟨s7', s15, rfl⟩, fun i dd ρ2 ei3 hI3 => ?_, fun ρ2 hI3 => ?_⟩
    · obtain ⟨t7, t15, rfl⟩ := hI3
      have hw0 : 0 ≤ wst l (late l 1) := by
        unfold wst
        cases e : (List.range l.length).map (fun j => dayOf (late l 1) j - (stAt l j).1) with
        | nil => exact Int.le_refl _
        | cons n ns =>
          obtain ⟨p1, _, _⟩ := foldl_max_le ns n
          have hm : n ∈ (List.range l.length).map (fun j => dayOf (late l 1) j - (stAt l j).1) := by rw [e]; exact List.mem_cons_self
          obtain ⟨j, hj, rfl⟩ := List.mem_map.mp hm
          have := G.nn j (List.mem_range.mp hj)
          show 0 ≤ ns.foldl max _
          omega
      obtain ⟨d, rfl, hd⟩ : ∃ d : Int, dd = .int d ∧ 0 ≤ d := by
        have hm := List.mem_of_getElem? ei3
        simp only [dys, List.mem_cons, List.not_mem_nil, or_false] at hm
        rcases hm with rfl | rfl | rfl | rfl
        · exact ⟨0, rfl, Int.le_refl _⟩
        · exact ⟨1, rfl, by decide⟩
        · exact ⟨_, rfl, by omega⟩
        · exact ⟨_, rfl, hw0⟩
      refine ⟨[15], ?_⟩
      walk_at "gg"
      exact days_law pl B L hr okl (by omega) hH hd (g := g4 - 1) (s0 := .dat (.kl (ns.map D.int))) (s1 := .dat (.int i6)) (s5 := .dat (.str dy.shown)) (s6 := .dat (woD l 5)) (s8 := s8') (s10 := s10') (s11 := s11') (s14 := s14') (fun t7 => ⟨t7, _, rfl⟩)
    obtain ⟨t7, t15, rfl⟩ := hI3
    refine dss_cons (ds_if (dt_bool (dw_or (dt_neS (de_dv (dv_repr hgd hu B.repr (da_cons (de_name ?_))))))))
    walk_at "n"
    refine da_nil (hrp ?_)
    refine de_name ?_
    walk_at "n"
    have e9 : (!(dy.shown == dy.shown)) = false := by simp
    show branch _ _ (!(dy.shown == dy.shown))
    rw [e9]
    refine ⟨fun z => (by cases z), fun _ => ?_⟩
    refine dw_or1 (dt_not (dt_tru (de_dv (dv_call L.rfr (hr.mono (by decide)) tkF ?_))))
    walk_at "gs"
    refine ⟨l, rfl, by omega, okl, by show 10 ≤ g4 - 1; omega, fun g6 r3 r4 => ?_⟩
    have r3' : g4 - 1 - 10 ≤ g6 := r3
    have r4' : g6 ≤ g4 - 1 := r4
    refine ⟨true, rfl, fun z => (by cases z), fun _ => ?_⟩
    refine dss_nil (dss_nil ?_)
    exact ⟨_, _, _, _, _, _, _, _, _, _, _, _, ws1, g6, by omega, by omega, rfl⟩
  · obtain ⟨s1, s2, s3, s4, s5, s6, s7, s8, s10, s11, s14, s15, ws, g1, q1, q2, rfl⟩ := hI
    walk_at "gs"
    exact ⟨.inr ⟨_, rfl⟩, h _⟩
end
end K68
end

section
namespace DL
open PySem PySem.Spec L2 K68
/-! ### the order -/
theorem nodup_len {α : Type} [DecidableEq α] : ∀ {xs ys : List α}, xs.Nodup → (∀ x ∈ xs, x ∈ ys) → xs.length ≤ ys.length
  | [], _, _, _ => Nat.zero_le _
  | x :: xs, ys, nd, h => by
    have hx : x ∈ ys := h x (List.mem_cons_self ..)
    obtain ⟨n1, n2⟩ := List.nodup_cons.mp nd
    have ih := nodup_len (xs := xs) (ys := ys.erase x) n2 fun y hy => by
      have hne : y ≠ x := fun z => n1 (z ▸ hy)
      exact (List.mem_erase_of_ne hne).mpr (h y (List.mem_cons_of_mem _ hy))
    rw [List.length_erase_of_mem hx] at ih
    have := List.length_pos_of_mem hx
    rw [List.length_cons]
    omega
theorem sort_mem {n : Nat} {b : Nat → Int} {j : Nat} : j ∈ sortIx n b ↔ j < n := by
  unfold sortIx
  rw [List.mem_mergeSort, List.mem_range]
theorem sort_nodup (n : Nat) (b : Nat → Int) : (sortIx n b).Nodup := by
  unfold sortIx
  exact (List.mergeSort_perm _ _).nodup_iff.mpr List.nodup_range
theorem sort_len (n : Nat) (b : Nat → Int) : (sortIx n b).length = n := by
  unfold sortIx
  rw [List.length_mergeSort, List.length_range]
theorem sort_pair (n : Nat) (b : Nat → Int) : (sortIx n b).Pairwise fun p q => b p ≤ b q := by
  unfold sortIx
  have h := List.pairwise_mergeSort (le := fun p q => decide (b p < b q ∨ b p = b q ∧ (p : Int) ≤ q)) (fun x y z h1 h2 => by
    simp only [decide_eq_true_eq] at h1 h2 ⊢
    omega) (fun x y => by
    simp only [Bool.or_eq_true, decide_eq_true_eq]
    omega) (List.range n)
  refine h.imp fun {p q} z => ?_
  simp only [decide_eq_true_eq] at z
  omega
theorem st_ok {l : List Stay} (ok : okStays l) {j : Nat} (hj : j < l.length) : 0 ≤ (stAt l j).1 ∧ (stAt l j).1 ≤ (stAt l j).2.1 ∧ 0 ≤ (stAt l j).2.2 := by
  unfold stAt
  rw [List.getElem?_eq_getElem hj]
  have := ok _ (List.getElem_mem hj)
  exact ⟨this.1, this.2.1, this.2.2.1⟩
/-! ### one step -/
section step
variable {l : List Stay} {k : Nat} {S : SS} {j : Nat}
theorem R_step (q : Nat) : (sstep l k S j).R q = if q = j then some (sday l k S j, spk l k S j, S.L (spk l k S j)) else S.R q := rfl
theorem day_step (q : Nat) : dayOf (sstep l k S j) q = if q = j then sday l k S j else dayOf S q := by
  unfold dayOf
  rw [R_step]
  by_cases e : q = j
  · rw [if_pos e, if_pos e]
  · rw [if_neg e, if_neg e]
theorem adr_step (q : Nat) : adrOf (sstep l k S j) q = if q = j then spk l k S j else adrOf S q := by
  unfold adrOf
  rw [R_step]
  by_cases e : q = j
  · rw [if_pos e, if_pos e]
  · rw [if_neg e, if_neg e]
theorem pre_step (q : Nat) : preOf (sstep l k S j) q = if q = j then S.L (spk l k S j) else preOf S q := by
  unfold preOf
  rw [R_step]
  by_cases e : q = j
  · rw [if_pos e, if_pos e]
  · rw [if_neg e, if_neg e]
theorem L_step (a : Nat) : (sstep l k S j).L a = if a = spk l k S j then some j else S.L a := rfl
theorem F_step (a : Nat) : (sstep l k S j).F a = if a = spk l k S j then some (sday l k S j + (stAt l j).2.1 - (stAt l j).1 + (stAt l j).2.2) else S.F a := rfl
theorem fr_at (a : Nat) : (sstep l k S j).fr a = if a = spk l k S j then sday l k S j + (stAt l j).2.1 - (stAt l j).1 + (stAt l j).2.2 + 1 else S.fr a := by
  rw [fr_step]
  rfl
theorem sday_ge : (stAt l j).1 ≤ sday l k S j := Int.le_max_left _ _
end step
/-! ### addresses that nobody needs -/
theorem pk_is {f : Nat → Int} {x : Int} {k a : Nat} (ha : a < k) (h1 : f a ≤ x) (h2 : ∀ b, b < a → ¬ f b ≤ x) : pkF f x k = a := by
  unfold pkF
  have : (List.range k).find? (fun a => decide (f a ≤ x)) = some a := List.find?_range_eq_some.mpr ⟨decide_eq_true h1, List.mem_range.mpr ha, fun j hj => by simp [h2 j hj]⟩
  rw [this]
  rfl
theorem pk_irr {f : Nat → Int} {x : Int} {k m t : Nat} (hk : t < k) (hm : t < m) (h : f t ≤ x) : pkF f x k = pkF f x m ∧ pkF f x k ≤ t := by
  obtain ⟨b, bs, e1, e2, e3⟩ := low_some (f := f) (x := x) (k := t + 1) (a := t) (by omega) h
  have e4 : pkF f x (t + 1) = b := low_head e1
  have h2 : ∀ c, c < b → ¬ f c ≤ x := fun c hc => pk_first (k := t + 1) ⟨t, by omega, h⟩ (by rw [e4]; exact hc)
  rw [pk_is (k := k) (a := b) (by omega) e3 h2, pk_is (k := m) (a := b) (by omega) e3 h2]
  exact ⟨rfl, by omega⟩
theorem idle_day {l : List Stay} {k t : Nat} {S : SS} {j : Nat} (ht : t < k) (hF : S.F t = none) (hb : 0 ≤ (stAt l j).1) : sday l k S j = (stAt l j).1 := by
  have h0 : S.fr t = 0 := by unfold SS.fr; rw [hF]
  have := mn_le (f := S.fr) (k := k - 1) (a := t) (by omega)
  unfold sday
  omega
theorem idle_step {l : List Stay} {k m t : Nat} {S : SS} {j : Nat} (hk : t < k) (hm : t < m) (hF : ∀ a, t ≤ a → S.F a = none) (hb : 0 ≤ (stAt l j).1) : sstep l k S j = sstep l m S j ∧ ∀ a, t + 1 ≤ a → (sstep l m S j).F a = none := by
  have d1 := idle_day (l := l) (k := k) (S := S) (j := j) hk (hF t (Nat.le_refl _)) hb
  have d2 := idle_day (l := l) (k := m) (S := S) (j := j) hm (hF t (Nat.le_refl _)) hb
  have h0 : S.fr t ≤ (stAt l j).1 := by unfold SS.fr; rw [hF t (Nat.le_refl _)]; exact hb
  obtain ⟨p1, p2⟩ := pk_irr (f := S.fr) hk hm h0
  have e1 : spk l k S j = spk l m S j := by unfold spk; rw [d1, d2]; exact p1
  have e2 : spk l m S j ≤ t := by rw [← e1]; unfold spk; rw [d1]; exact p2
  refine ⟨?_, fun a ha => ?_⟩
  · unfold sstep
    rw [e1, d1, d2]
  · rw [F_step, if_neg (by omega)]
    exact hF a (by omega)
theorem run_irr {l : List Stay} {k m : Nat} (hmk : m ≤ k) : ∀ (js : List Nat) (t : Nat) (S : SS), (∀ a, t ≤ a → S.F a = none) → t + js.length ≤ m → (∀ j ∈ js, 0 ≤ (stAt l j).1) → js.foldl (sstep l m) S = js.foldl (sstep l k) S
  | [], _, _, _, _, _ => rfl
  | j :: js, t, S, hF, hl, hb => by
    rw [List.length_cons] at hl
    obtain ⟨e, h2⟩ := idle_step (l := l) (k := m) (m := k) (t := t) (S := S) (j := j) (by omega) (by omega) hF (hb j (List.mem_cons_self))
    rw [List.foldl_cons, List.foldl_cons, e]
    exact run_irr hmk js (t + 1) _ h2 (by omega) fun i hi => hb i (List.mem_cons_of_mem _ hi)
theorem late_irr {l : List Stay} (ok : okStays l) {k : Nat} (hk : 1 ≤ k) : lateP l k = late l k := by
  unfold lateP
  by_cases h : k ≤ max 1 l.length
  · rw [Nat.min_eq_left h]
  · rw [Nat.min_eq_right (by omega)]
    exact run_irr (by omega) _ 0 sNone (fun _ _ => rfl) (by rw [sort_len]; omega) fun j hj => (st_ok ok (sort_mem.mp hj)).1
/-! ### as many addresses as stays -/
theorem run_zero {l : List Stay} {m : Nat} : ∀ (js : List Nat) (t : Nat) (S : SS), (∀ a, t ≤ a → S.F a = none) → t + js.length ≤ m → (∀ j ∈ js, 0 ≤ (stAt l j).1) → ∀ j, (j ∈ js ∨ dayOf S j = (stAt l j).1) → dayOf (js.foldl (sstep l m) S) j = (stAt l j).1
  | [], _, _, _, _, _, j, h => by
    rcases h with h | h
    · cases h
    · exact h
  | i :: js, t, S, hF, hl, hb, j, h => by
    rw [List.length_cons] at hl
    obtain ⟨_, h2⟩ := idle_step (l := l) (k := m) (m := m) (t := t) (S := S) (j := i) (by omega) (by omega) hF (hb i (List.mem_cons_self))
    have hd := idle_day (l := l) (k := m) (t := t) (S := S) (j := i) (by omega) (hF t (Nat.le_refl _)) (hb i (List.mem_cons_self))
    rw [List.foldl_cons]
    refine run_zero js (t + 1) _ h2 (by omega) (fun i hi => hb i (List.mem_cons_of_mem _ hi)) j ?_
    by_cases e : j = i
    · refine .inr ?_
      rw [day_step, if_pos e, hd, e]
    · rcases h with h | h
      · rcases List.mem_cons.mp h with h | h
        · exact absurd h e
        · exact .inl h
      · refine .inr ?_
        rw [day_step, if_neg e]
        exact h
theorem late_zero {l : List Stay} (ok : okStays l) : wst l (late l (max 1 l.length)) ≤ 0 := by
  have hd : ∀ j, j < l.length → dayOf (late l (max 1 l.length)) j = (stAt l j).1 := fun j hj =>
    run_zero _ 0 sNone (fun _ _ => rfl) (by rw [sort_len]; omega) (fun i hi => (st_ok ok (sort_mem.mp hi)).1) j (.inl (sort_mem.mpr hj))
  unfold wst
  cases e : (List.range l.length).map (fun j => dayOf (late l (max 1 l.length)) j - (stAt l j).1) with
  | nil => exact Int.le_refl _
  | cons n ns =>
    have all0 : ∀ y ∈ n :: ns, y = 0 := fun y hy => by
      rw [← e] at hy
      obtain ⟨j, hj, rfl⟩ := List.mem_map.mp hy
      rw [hd j (List.mem_range.mp hj)]
      omega
    obtain ⟨_, _, q⟩ := foldl_max_le ns n
    show ns.foldl max n ≤ 0
    rcases q with q | q
    · rw [q, all0 n (List.mem_cons_self)]
      exact Int.le_refl _
    · rw [all0 _ (List.mem_cons_of_mem _ q)]
      exact Int.le_refl _
end DL
end

section
namespace DL
open PySem PySem.Spec L2 K68
/-! ### one address more -/
def cnt (f : Nat → Int) (x : Int) (k : Nat) : Nat := (lowIx f x k).length
theorem cnt_pos {f : Nat → Int} {x : Int} {k : Nat} (h : 1 ≤ cnt f x k) : ∃ a, a < k ∧ f a ≤ x := by
  unfold cnt at h
  cases e : lowIx f x k with
  | nil => rw [e] at h; exact absurd h (by decide)
  | cons a as =>
    have hm : a ∈ lowIx f x k := by rw [e]; exact List.mem_cons_self
    unfold lowIx at hm
    obtain ⟨h1, h2⟩ := List.mem_filter.mp hm
    exact ⟨a, List.mem_range.mp h1, of_decide_eq_true h2⟩
theorem cnt_one {f : Nat → Int} {x : Int} {k a : Nat} (ha : a < k) (h : f a ≤ x) : 1 ≤ cnt f x k := by
  obtain ⟨b, bs, e, _⟩ := low_some ha h
  unfold cnt
  rw [e, List.length_cons]
  omega
theorem cnt_zero {f : Nat → Int} {x : Int} {k : Nat} (h : ∀ a, a < k → x < f a) : cnt f x k = 0 := by
  unfold cnt lowIx
  rw [List.length_eq_zero_iff, List.filter_eq_nil_iff]
  intro a ha
  have := h a (List.mem_range.mp ha)
  simp only [decide_eq_true_eq]
  omega
theorem cnt_succ (f : Nat → Int) (x : Int) (k : Nat) : cnt f x (k + 1) = cnt f x k + if f k ≤ x then 1 else 0 := by
  unfold cnt lowIx
  rw [List.range_succ, List.filter_append, List.length_append]
  by_cases e : f k ≤ x
  · rw [if_pos e, List.filter_cons, if_pos (decide_eq_true e)]
    rfl
  · rw [if_neg e, List.filter_cons, if_neg (by simp [e])]
    rfl
theorem cnt_up (f : Nat → Int) (x v : Int) (a : Nat) : ∀ k, cnt (upN f a v) x k + (if a < k then (if f a ≤ x then 1 else 0) else 0) = cnt f x k + (if a < k then (if v ≤ x then 1 else 0) else 0)
  | 0 => rfl
  | k + 1 => by
    have ih := cnt_up f x v a k
    rw [cnt_succ, cnt_succ]
    by_cases e : a = k
    · subst e
      have e1 : upN f a v a = v := if_pos rfl
      rw [e1, if_pos (Nat.lt_succ_self a), if_pos (Nat.lt_succ_self a)]
      rw [if_neg (Nat.lt_irrefl a), if_neg (Nat.lt_irrefl a)] at ih
      omega
    · have e1 : upN f a v k = f k := if_neg (fun z => e z.symm)
      rw [e1]
      by_cases h : a < k
      · have h2 : a < k + 1 := by omega
        simp only [h, h2, if_true] at ih ⊢
        omega
      · have h2 : ¬ a < k + 1 := by omega
        simp only [h, h2, if_false] at ih ⊢
        omega
def Dom (k : Nat) (S0 S1 : SS) (b : Int) : Prop := ∀ x, b ≤ x → cnt S0.fr x k ≤ cnt S1.fr x (k + 1)
theorem dom_step {l : List Stay} {k : Nat} (hk : 1 ≤ k) {S0 S1 : SS} {b : Int} (D : Dom k S0 S1 b) {j : Nat} (hb : b ≤ (stAt l j).1) (hw : 0 ≤ (stAt l j).2.1 - (stAt l j).1 + (stAt l j).2.2) : sday l (k + 1) S1 j ≤ sday l k S0 j ∧ Dom k (sstep l k S0 j) (sstep l (k + 1) S1 j) (stAt l j).1 := by
  obtain ⟨_, _, a2, a3⟩ := day_some l hk S0 j
  obtain ⟨_, _, c2, c3⟩ := day_some l (k := k + 1) (by omega) S1 j
  have g0 := sday_ge (l := l) (k := k) (S := S0) (j := j)
  have g1 := sday_ge (l := l) (k := k + 1) (S := S1) (j := j)
  have hday : sday l (k + 1) S1 j ≤ sday l k S0 j := by
    have h1 := cnt_one (f := S0.fr) (x := sday l k S0 j) a2 a3
    have h2 := D (sday l k S0 j) (by omega)
    obtain ⟨a, h3, h4⟩ := cnt_pos (f := S1.fr) (x := sday l k S0 j) (k := k + 1) (by omega)
    have h5 := mn_le (f := S1.fr) (k := k + 1 - 1) (a := a) (by omega)
    have h6 : sday l (k + 1) S1 j = max (stAt l j).1 (mnF S1.fr (k + 1 - 1)) := rfl
    omega
  refine ⟨hday, fun x hx => ?_⟩
  have u0 := cnt_up S0.fr x (sday l k S0 j + (stAt l j).2.1 - (stAt l j).1 + (stAt l j).2.2 + 1) (spk l k S0 j) k
  have u1 := cnt_up S1.fr x (sday l (k + 1) S1 j + (stAt l j).2.1 - (stAt l j).1 + (stAt l j).2.2 + 1) (spk l (k + 1) S1 j) (k + 1)
  rw [← fr_step, if_pos a2, if_pos a2] at u0
  rw [← fr_step, if_pos c2, if_pos c2] at u1
  by_cases hlt : x < sday l k S0 j
  · have hmn : sday l k S0 j = mnF S0.fr (k - 1) := by
      have : sday l k S0 j = max (stAt l j).1 (mnF S0.fr (k - 1)) := rfl
      omega
    have z : cnt S0.fr x k = 0 := cnt_zero fun a ha => by
      have := mn_le (f := S0.fr) (k := k - 1) (a := a) (by omega)
      omega
    have z2 : ¬ (sday l k S0 j + (stAt l j).2.1 - (stAt l j).1 + (stAt l j).2.2 + 1 ≤ x) := by omega
    rw [if_neg z2, z] at u0
    omega
  · have h1 : S0.fr (spk l k S0 j) ≤ x := by omega
    have h2 : S1.fr (spk l (k + 1) S1 j) ≤ x := by omega
    have hd := D x (by omega)
    rw [if_pos h1] at u0
    rw [if_pos h2] at u1
    by_cases e : sday l k S0 j + (stAt l j).2.1 - (stAt l j).1 + (stAt l j).2.2 + 1 ≤ x
    · have e2 : sday l (k + 1) S1 j + (stAt l j).2.1 - (stAt l j).1 + (stAt l j).2.2 + 1 ≤ x := by omega
      rw [if_pos e] at u0
      rw [if_pos e2] at u1
      omega
    · rw [if_neg e] at u0
      split at u1 <;> omega
theorem dom_run {l : List Stay} {k : Nat} (hk : 1 ≤ k) : ∀ (js : List Nat) (S0 S1 : SS) (b : Int), Dom k S0 S1 b → (∀ j ∈ js, b ≤ (stAt l j).1) → js.Pairwise (fun p q => (stAt l p).1 ≤ (stAt l q).1) → (∀ j ∈ js, 0 ≤ (stAt l j).2.1 - (stAt l j).1 + (stAt l j).2.2) →
    (∀ j, dayOf S1 j ≤ dayOf S0 j) → ∀ j, dayOf (js.foldl (sstep l (k + 1)) S1) j ≤ dayOf (js.foldl (sstep l k) S0) j
  | [], _, _, _, _, _, _, _, h => h
  | i :: js, S0, S1, b, D, hb, hp, hw, h => by
    obtain ⟨h1, h2⟩ := dom_step (l := l) hk D (hb i (List.mem_cons_self)) (hw i (List.mem_cons_self))
    obtain ⟨p1, p2⟩ := List.pairwise_cons.mp hp
    rw [List.foldl_cons, List.foldl_cons]
    refine dom_run hk js _ _ _ h2 p1 p2 (fun j hj => hw j (List.mem_cons_of_mem _ hj)) fun j => ?_
    rw [day_step, day_step]
    by_cases e : j = i
    · rw [if_pos e, if_pos e]
      exact h1
    · rw [if_neg e, if_neg e]
      exact h j
theorem late_mono {l : List Stay} (ok : okStays l) {k : Nat} (hk : 1 ≤ k) (j : Nat) : dayOf (late l (k + 1)) j ≤ dayOf (late l k) j := by
  refine dom_run hk _ sNone sNone 0 (fun x hx => ?_) (fun i hi => (st_ok ok (sort_mem.mp hi)).1) (sort_pair _ _) (fun i hi => ?_) (fun i => Int.le_refl _) j
  · rw [cnt_succ]
    omega
  · obtain ⟨q1, q2, q3⟩ := st_ok ok (sort_mem.mp hi)
    omega
/-! ### who is ahead at an address -/
def endOf (l : List Stay) (S : SS) (q : Nat) : Int := dayOf S q + (stAt l q).2.1 - (stAt l q).1 + (stAt l q).2.2
structure Hist (l : List Stay) (S : SS) (done : List Nat) : Prop where
  ap : ∀ q ∈ done, ∀ q' ∈ done, q ≠ q' → adrOf S q = adrOf S q' → endOf l S q < dayOf S q' ∨ endOf l S q' < dayOf S q
  len : ∀ q ∈ done, dayOf S q ≤ endOf l S q
  fre : ∀ q ∈ done, endOf l S q < S.fr (adrOf S q)
  las : ∀ a p, S.L a = some p → p ∈ done ∧ adrOf S p = a ∧ S.fr a = endOf l S p + 1
  non : ∀ a, S.L a = none → S.fr a = 0
  beg : ∀ j ∈ done, (stAt l j).1 ≤ dayOf S j
  pre : ∀ j ∈ done, (stAt l j).1 < dayOf S j → ∃ p, preOf S j = some p ∧ p ∈ done ∧ p ≠ j ∧ adrOf S p = adrOf S j ∧ endOf l S p = dayOf S j - 1
theorem hist_step {l : List Stay} (ok : okStays l) {k : Nat} (hk : 1 ≤ k) {S : SS} {done : List Nat} (Hs : Hist l S done) {j : Nat} (hj : j < l.length) (hn : j ∉ done) : Hist l (sstep l k S j) (j :: done) := by
  obtain ⟨b1, b2, b3⟩ := st_ok ok hj
  obtain ⟨_, _, a2, a3⟩ := day_some l hk S j
  have g0 := sday_ge (l := l) (k := k) (S := S) (j := j)
  have ne : ∀ q ∈ done, q ≠ j := fun q hq z => hn (z ▸ hq)
  have dq : ∀ q ∈ done, dayOf (sstep l k S j) q = dayOf S q := fun q hq => by rw [day_step, if_neg (ne q hq)]
  have aq : ∀ q ∈ done, adrOf (sstep l k S j) q = adrOf S q := fun q hq => by rw [adr_step, if_neg (ne q hq)]
  have pq : ∀ q ∈ done, preOf (sstep l k S j) q = preOf S q := fun q hq => by rw [pre_step, if_neg (ne q hq)]
  have eq : ∀ q ∈ done, endOf l (sstep l k S j) q = endOf l S q := fun q hq => by unfold endOf; rw [dq q hq]
  have dj : dayOf (sstep l k S j) j = sday l k S j := by rw [day_step, if_pos rfl]
  have aj : adrOf (sstep l k S j) j = spk l k S j := by rw [adr_step, if_pos rfl]
  have pj : preOf (sstep l k S j) j = S.L (spk l k S j) := by rw [pre_step, if_pos rfl]
  have ej : endOf l (sstep l k S j) j = sday l k S j + (stAt l j).2.1 - (stAt l j).1 + (stAt l j).2.2 := by unfold endOf; rw [dj]
  have lt : ∀ q ∈ done, adrOf S q = spk l k S j → endOf l S q < sday l k S j := fun q hq e => by
    have := Hs.fre q hq
    rw [e] at this
    omega
  refine ⟨fun q hq q' hq' h e => ?_, fun q hq => ?_, fun q hq => ?_, fun a p h => ?_, fun a h => ?_, fun q hq => ?_, fun q hq h => ?_⟩
  · rcases List.mem_cons.mp hq with eqj | mq
    · rw [eqj] at e h ⊢
      rcases List.mem_cons.mp hq' with eqj' | mq'
      · exact absurd eqj'.symm h
      · rw [aj, aq q' mq'] at e
        rw [eq q' mq', dj]
        exact .inr (lt q' mq' e.symm)
    · rcases List.mem_cons.mp hq' with eqj' | mq'
      · rw [eqj'] at e h ⊢
        rw [aj, aq q mq] at e
        rw [eq q mq, dj]
        exact .inl (lt q mq e)
      · rw [aq q mq, aq q' mq'] at e
        rw [eq q mq, eq q' mq', dq q mq, dq q' mq']
        exact Hs.ap q mq q' mq' h e
  · rcases List.mem_cons.mp hq with rfl | hq
    · rw [dj, ej]; omega
    · rw [dq q hq, eq q hq]; exact Hs.len q hq
  · rcases List.mem_cons.mp hq with rfl | hq
    · rw [aj, ej, fr_at, if_pos rfl]; omega
    · rw [aq q hq, eq q hq, fr_at]
      by_cases e : adrOf S q = spk l k S j
      · rw [if_pos e]
        have := lt q hq e
        omega
      · rw [if_neg e]
        exact Hs.fre q hq
  · rw [L_step] at h
    by_cases e : a = spk l k S j
    · rw [if_pos e] at h
      cases h
      rw [fr_at, if_pos e, aj, ej]
      exact ⟨List.mem_cons_self, e.symm, rfl⟩
    · rw [if_neg e] at h
      obtain ⟨h1, h2, h3⟩ := Hs.las a p h
      rw [fr_at, if_neg e, aq p h1, eq p h1]
      exact ⟨List.mem_cons_of_mem _ h1, h2, h3⟩
  · rw [L_step] at h
    by_cases e : a = spk l k S j
    · rw [if_pos e] at h; cases h
    · rw [if_neg e] at h
      rw [fr_at, if_neg e]
      exact Hs.non a h
  · rcases List.mem_cons.mp hq with rfl | hq
    · rw [dj]; exact g0
    · rw [dq q hq]; exact Hs.beg q hq
  · rcases List.mem_cons.mp hq with rfl | hq
    · rw [dj] at h
      have hm : sday l k S q = mnF S.fr (k - 1) := by
        have : sday l k S q = max (stAt l q).1 (mnF S.fr (k - 1)) := rfl
        omega
      have hm2 := mn_le (f := S.fr) (k := k - 1) (a := spk l k S q) (by omega)
      have hf : S.fr (spk l k S q) = sday l k S q := by omega
      cases eL : S.L (spk l k S q) with
      | none =>
        have := Hs.non _ eL
        omega
      | some p =>
        obtain ⟨h1, h2, h3⟩ := Hs.las _ p eL
        refine ⟨p, by rw [pj, eL], List.mem_cons_of_mem _ h1, ne p h1, ?_, ?_⟩
        · rw [aq p h1, aj, h2]
        · rw [eq p h1, dj]
          omega
    · rw [dq q hq] at h
      obtain ⟨p, h1, h2, h3, h4, h5⟩ := Hs.pre q hq h
      exact ⟨p, by rw [pq q hq, h1], List.mem_cons_of_mem _ h2, h3, by rw [aq p h2, aq q hq, h4], by rw [eq p h2, dq q hq, h5]⟩
theorem hist_run {l : List Stay} (ok : okStays l) {k : Nat} (hk : 1 ≤ k) : ∀ (js done : List Nat) (S : SS), Hist l S done → js.Nodup → (∀ j ∈ js, j < l.length ∧ j ∉ done) → ∃ done', (∀ q, q ∈ done' ↔ q ∈ js ∨ q ∈ done) ∧ Hist l (js.foldl (sstep l k) S) done'
  | [], done, S, Hs, _, _ => ⟨done, fun q => by simp, Hs⟩
  | j :: js, done, S, Hs, nd, h => by
    obtain ⟨n1, n2⟩ := List.nodup_cons.mp nd
    obtain ⟨h1, h2⟩ := h j (List.mem_cons_self)
    obtain ⟨done', d1, d2⟩ := hist_run ok hk js (j :: done) _ (hist_step ok hk Hs h1 h2) n2 fun i hi => by
      obtain ⟨q1, q2⟩ := h i (List.mem_cons_of_mem _ hi)
      refine ⟨q1, fun z => ?_⟩
      rcases List.mem_cons.mp z with rfl | z
      · exact n1 hi
      · exact q2 z
    refine ⟨done', fun q => ?_, d2⟩
    rw [d1 q, List.mem_cons, List.mem_cons]
    constructor
    · rintro (h | h | h)
      · exact .inl (.inr h)
      · exact .inl (.inl h)
      · exact .inr h
    · rintro ((h | h) | h)
      · exact .inr (.inl h)
      · exact .inl h
      · exact .inr (.inr h)
theorem late_hist {l : List Stay} (ok : okStays l) {k : Nat} (hk : 1 ≤ k) : ∃ done, (∀ q, q ∈ done ↔ q < l.length) ∧ Hist l (late l k) done := by
  obtain ⟨done, d1, d2⟩ := hist_run ok hk (sortIx l.length (begOf l)) [] sNone ⟨fun q hq => (by cases hq), fun q hq => (by cases hq), fun q hq => (by cases hq), fun a p h => (by cases h), fun a _ => rfl, fun q hq => (by cases hq), fun q hq => (by cases hq)⟩ (sort_nodup _ _) fun j hj => ⟨sort_mem.mp hj, by simp⟩
  exact ⟨done, fun q => by rw [d1 q, sort_mem]; simp, d2⟩
theorem late_good {l : List Stay} (ok : okStays l) {k : Nat} (hk : 1 ≤ k) : GoodS l (late l k) ∧ GoodC l (late l k) := by
  obtain ⟨done, hd, Hs⟩ := late_hist ok hk
  have endlt : ∀ p j, p ∈ done → endOf l (late l k) p = dayOf (late l k) j - 1 → dayOf (late l k) p < dayOf (late l k) j := fun p j hp e => by
    have := Hs.len p hp
    omega
  refine ⟨⟨fun j hj => ⟨(st_ok ok hj).1, Hs.beg j ((hd j).mpr hj)⟩, fun j hj h => ?_⟩, ⟨fun j p hj h e => ?_⟩⟩
  · obtain ⟨p, h1, h2, _, _, h5⟩ := Hs.pre j ((hd j).mpr hj) h
    exact ⟨p, h1, (hd p).mp h2, endlt p j h2 h5⟩
  · obtain ⟨p', h1, h2, h3, h4, h5⟩ := Hs.pre j ((hd j).mpr hj) h
    rw [e] at h1
    cases h1
    have only : ∀ a, a < l.length → (condS l (late l k) j a = true ↔ a = p) := fun a ha => by
      unfold condS
      rw [Bool.and_eq_true, Bool.and_eq_true, decide_eq_true_eq, decide_eq_true_eq, decide_eq_true_eq]
      constructor
      · rintro ⟨c1, c2, c3⟩
        have ca : endOf l (late l k) a = dayOf (late l k) j - 1 := c3
        have ma := (hd a).mpr ha
        have la := Hs.len a ma
        have lp := Hs.len p h2
        refine Classical.byContradiction fun z => ?_
        rcases Hs.ap a ma p h2 z (by rw [c2, h4]) with q | q <;> omega
      · rintro rfl
        exact ⟨h3, h4, h5⟩
    have hp := (hd p).mp h2
    have key : ∀ n, p < n → n ≤ l.length → (List.range n).filter (condS l (late l k) j) = [p] := by
      intro n
      induction n with
      | zero => intro h; omega
      | succ n ih =>
        intro h1 h2
        rw [List.range_succ, List.filter_append]
        by_cases e : p = n
        · have e1 : (List.range n).filter (condS l (late l k) j) = [] := List.filter_eq_nil_iff.mpr fun a ha z => by
            have ha := List.mem_range.mp ha
            have := (only a (by omega)).mp z
            omega
          rw [e1, List.filter_cons, if_pos ((only n (by omega)).mpr e.symm), e]
          rfl
        · rw [ih (by omega) (by omega), List.filter_cons, if_neg (fun z => e ((only n (by omega)).mp z).symm)]
          rfl
    exact key l.length hp (Nat.le_refl _)
theorem way_mem {l : List Stay} {S : SS} (G : GoodS l S) : ∀ (n j : Nat), j < l.length → (∀ m ∈ way l S n j, m < l.length ∧ dayOf S m ≤ dayOf S j) ∧ (way l S n j).Nodup
  | 0, j, hj => ⟨fun m hm => by obtain rfl := List.mem_singleton.mp hm; exact ⟨hj, Int.le_refl _⟩, by show [j].Nodup; simp⟩
  | n + 1, j, hj => by
    by_cases h : (stAt l j).1 < dayOf S j
    · obtain ⟨p, e, hp, hd⟩ := G.pre j hj h
      obtain ⟨h1, h2⟩ := way_mem G n p hp
      unfold way
      rw [if_pos h, e]
      dsimp only
      refine ⟨fun m hm => ?_, ?_⟩
      · rcases List.mem_append.mp hm with hm | hm
        · obtain ⟨q1, q2⟩ := h1 m hm
          exact ⟨q1, by omega⟩
        · obtain rfl := List.mem_singleton.mp hm
          exact ⟨hj, Int.le_refl _⟩
      · rw [List.nodup_append]
        refine ⟨h2, by simp, fun a ha b hb z => ?_⟩
        obtain rfl := List.mem_singleton.mp hb
        subst z
        have := (h1 a ha).2
        omega
    · rw [way_on h]
      exact ⟨fun m hm => by obtain rfl := List.mem_singleton.mp hm; exact ⟨hj, Int.le_refl _⟩, by simp⟩
theorem way_short {l : List Stay} {S : SS} (G : GoodS l S) {j : Nat} (hj : j < l.length) : (wayG l S j).length ≤ l.length := by
  obtain ⟨h1, h2⟩ := way_mem G (dayOf S j).toNat j hj
  have := nodup_len (ys := List.range l.length) h2 fun x hx => List.mem_range.mpr (h1 x hx).1
  rw [List.length_range] at this
  exact this
theorem plain : PL where
  good := fun l k ok hk => ⟨(late_good ok hk).1, (late_good ok hk).2, fun j hj => way_short (late_good ok hk).1 hj⟩
  irr := fun l k ok hk => late_irr ok hk
  mono := fun l k j ok hk hj => late_mono ok hk j
  zero := fun l ok => late_zero ok
end DL
end

section
open PySem L2 DL PyProof.Rows
namespace K68
/-- all that the head tells -/
structure Txt (P : Program) (K : PySem.W.Frag) (mg : Str → Option Value) (p0 p1 p2 : Addr) : Prop where
  d_is_list : ∃ f, DefK K "is_list" s_is_list f
  d_is_whole : ∃ f, DefK K "is_whole" s_is_whole f
  d_is_number : ∃ f, DefK K "is_number" s_is_number f
  d_is_positive : ∃ f, DefK K "is_positive" s_is_positive f
  d_first_odd : ∃ f, DefK K "first_odd" s_first_odd f
  d_is_stay : ∃ f, DefK K "is_stay" s_is_stay f
  d_checked_stays : ∃ f, DefK K "checked_stays" s_checked_stays f
  d_check_some : ∃ f, DefK K "check_some" s_check_some f
  d_begun : ∃ f, DefK K "begun" s_begun f
  d_late_begins : ∃ f, DefK K "late_begins" s_late_begins f
  d_most_late : ∃ f, DefK K "most_late" s_most_late f
  d_latest : ∃ f, DefK K "latest" s_latest f
  d_in_the_way : ∃ f, DefK K "in_the_way" s_in_the_way f
  d_addresses_for : ∃ f, DefK K "addresses_for" s_addresses_for f
  d__law_stream : ∃ f, DefK K "_law_stream" s__law_stream f
  d__law_draw : ∃ f, DefK K "_law_draw" s__law_draw f
  d__law_pick : ∃ f, DefK K "_law_pick" s__law_pick f
  d__law_same : ∃ f, DefK K "_law_same" s__law_same f
  d__law_as_lists : ∃ f, DefK K "_law_as_lists" s__law_as_lists f
  d__law_stays : ∃ f, DefK K "_law_stays" s__law_stays f
  d__law_odd_stay : ∃ f, DefK K "_law_odd_stay" s__law_odd_stay f
  d__law_late : ∃ f, DefK K "_law_late" s__law_late f
  d__law_chain : ∃ f, DefK K "_law_chain" s__law_chain f
  d__law_worst : ∃ f, DefK K "_law_worst" s__law_worst f
  d__law_met : ∃ f, DefK K "_law_met" s__law_met f
  d_law : ∃ f, DefK K "law" s_law f
  d_in_order : ∃ f c, DefCK K "in_order" s_in_order f c p0
  d__law_order : ∃ f c, DefCK K "_law_order" s__law_order f c p1
  d__law_refused_right : ∃ f c, DefCK K "_law_refused_right" s__law_refused_right f c p2
  f_isinstance : PySem.W.nsIn K mainGlobals "isinstance" = some none
  f_len : PySem.W.nsIn K mainGlobals "len" = some none
  f_all : PySem.W.nsIn K mainGlobals "all" = some none
  f_any : PySem.W.nsIn K mainGlobals "any" = some none
  f_int : PySem.W.nsIn K mainGlobals "int" = some none
  f_bool : PySem.W.nsIn K mainGlobals "bool" = some none
  f_str : PySem.W.nsIn K mainGlobals "str" = some none
  f_list : PySem.W.nsIn K mainGlobals "list" = some none
  f_tuple : PySem.W.nsIn K mainGlobals "tuple" = some none
  f_dict : PySem.W.nsIn K mainGlobals "dict" = some none
  f_abs : PySem.W.nsIn K mainGlobals "abs" = some none
  f_max : PySem.W.nsIn K mainGlobals "max" = some none
  f_min : PySem.W.nsIn K mainGlobals "min" = some none
  f_sum : PySem.W.nsIn K mainGlobals "sum" = some none
  f_range : PySem.W.nsIn K mainGlobals "range" = some none
  f_enumerate : PySem.W.nsIn K mainGlobals "enumerate" = some none
  f_zip : PySem.W.nsIn K mainGlobals "zip" = some none
  f_sorted : PySem.W.nsIn K mainGlobals "sorted" = some none
  f_set : PySem.W.nsIn K mainGlobals "set" = some none
  f_repr : PySem.W.nsIn K mainGlobals "repr" = some none
  f_super : PySem.W.nsIn K mainGlobals "super" = some none
  any : PySem.W.nsIn K cStatics "thirdparty.any" = some none
  top : (P.main.scope.names.lookup ("super" : Str)).isSome = false
  exc : ∃ CS CM CI CD, ExcK P K mg "BadStays" "index" "index" CS ∧ ExcK P K mg "BadMany" "many" "many" CM ∧ ExcK P K mg "BadIndex" "index" "index" CI ∧ ExcK P K mg "BadDay" "day" "day" CD ∧ PySem.W.exmOne K (.ref CS) (.ref CS) = some true ∧ PySem.W.exmOne K (.ref CM) (.ref CS) = some false ∧ PySem.W.exmOne K (.ref CM) (.ref CM) = some true ∧ PySem.W.exmOne K (.ref CI) (.ref CS) = some false ∧ PySem.W.exmOne K (.ref CI) (.ref CM) = some false ∧ PySem.W.exmOne K (.ref CI) (.ref CI) = some true ∧ PySem.W.exmOne K (.ref CD) (.ref CS) = some false ∧ PySem.W.exmOne K (.ref CD) (.ref CM) = some false ∧ PySem.W.exmOne K (.ref CD) (.ref CI) = some false ∧ PySem.W.exmOne K (.ref CD) (.ref CD) = some true
theorem excP {P : Program} {K : PySem.W.Frag} {mg : Str → Option Value} {CS CM CI CD : Addr} (a0 : ExcK P K mg "BadStays" "index" "index" CS) (a1 : ExcK P K mg "BadMany" "many" "many" CM) (a2 : ExcK P K mg "BadIndex" "index" "index" CI) (a3 : ExcK P K mg "BadDay" "day" "day" CD) (b0 : PySem.W.exmOne K (.ref CS) (.ref CS) = some true) (b1 : PySem.W.exmOne K (.ref CM) (.ref CS) = some false) (b2 : PySem.W.exmOne K (.ref CM) (.ref CM) = some true) (b3 : PySem.W.exmOne K (.ref CI) (.ref CS) = some false) (b4 : PySem.W.exmOne K (.ref CI) (.ref CM) = some false) (b5 : PySem.W.exmOne K (.ref CI) (.ref CI) = some true) (b6 : PySem.W.exmOne K (.ref CD) (.ref CS) = some false) (b7 : PySem.W.exmOne K (.ref CD) (.ref CM) = some false) (b8 : PySem.W.exmOne K (.ref CD) (.ref CI) = some false) (b9 : PySem.W.exmOne K (.ref CD) (.ref CD) = some true) : ∃ CS CM CI CD, ExcK P K mg "BadStays" "index" "index" CS ∧ ExcK P K mg "BadMany" "many" "many" CM ∧ ExcK P K mg "BadIndex" "index" "index" CI ∧ ExcK P K mg "BadDay" "day" "day" CD ∧ PySem.W.exmOne K (.ref CS) (.ref CS) = some true ∧ PySem.W.exmOne K (.ref CM) (.ref CS) = some false ∧ PySem.W.exmOne K (.ref CM) (.ref CM) = some true ∧ PySem.W.exmOne K (.ref CI) (.ref CS) = some false ∧ PySem.W.exmOne K (.ref CI) (.ref CM) = some false ∧ PySem.W.exmOne K (.ref CI) (.ref CI) = some true ∧ PySem.W.exmOne K (.ref CD) (.ref CS) = some false ∧ PySem.W.exmOne K (.ref CD) (.ref CM) = some false ∧ PySem.W.exmOne K (.ref CD) (.ref CI) = some false ∧ PySem.W.exmOne K (.ref CD) (.ref CD) = some true := ⟨CS, CM, CI, CD, a0, a1, a2, a3, b0, b1, b2, b3, b4, b5, b6, b7, b8, b9⟩
def tabsOf (p0 p1 p2 : Addr) : List (Addr × Str) := [(p0, ("in_order" : Str) ++ ".<locals>." ++ "<lambda>"), (p1, ("_law_order" : Str) ++ ".<locals>." ++ "<lambda>"), (p2, ("_law_refused_right" : Str) ++ ".<locals>." ++ "<lambda>")]
theorem run (pl : PL) {P : Program} {w : World} {K : PySem.W.Frag} {mg : Str → Option Value} {p0 p1 p2 fa : Addr} (tx : Txt P K mg p0 p1 p2) (n01 : p0 ≠ p1) (n02 : p0 ≠ p2) (n12 : p1 ≠ p2) (hfa : ∀ base : Heap, K.In base → base.Ns mainGlobals mg → mg "law" = some (.ref fa)) :
    ∃ c0 c1 c2 : Addr, (∃ f, DefCK K "in_order" s_in_order f c0 p0) ∧ (∃ f, DefCK K "_law_order" s__law_order f c1 p1) ∧ (∃ f, DefCK K "_law_refused_right" s__law_refused_right f c2 p2) ∧ RunG P w K mg fa [(c0, p0), (c1, p1), (c2, p2)] 63 := by
  obtain ⟨f_is_list, d_is_list⟩ := tx.d_is_list
  obtain ⟨f_is_whole, d_is_whole⟩ := tx.d_is_whole
  obtain ⟨f_is_number, d_is_number⟩ := tx.d_is_number
  obtain ⟨f_is_positive, d_is_positive⟩ := tx.d_is_positive
  obtain ⟨f_first_odd, d_first_odd⟩ := tx.d_first_odd
  obtain ⟨f_is_stay, d_is_stay⟩ := tx.d_is_stay
  obtain ⟨f_checked_stays, d_checked_stays⟩ := tx.d_checked_stays
  obtain ⟨f_check_some, d_check_some⟩ := tx.d_check_some
  obtain ⟨f_begun, d_begun⟩ := tx.d_begun
  obtain ⟨f_late_begins, d_late_begins⟩ := tx.d_late_begins
  obtain ⟨f_most_late, d_most_late⟩ := tx.d_most_late
  obtain ⟨f_latest, d_latest⟩ := tx.d_latest
  obtain ⟨f_in_the_way, d_in_the_way⟩ := tx.d_in_the_way
  obtain ⟨f_addresses_for, d_addresses_for⟩ := tx.d_addresses_for
  obtain ⟨f__law_stream, d__law_stream⟩ := tx.d__law_stream
  obtain ⟨f__law_draw, d__law_draw⟩ := tx.d__law_draw
  obtain ⟨f__law_pick, d__law_pick⟩ := tx.d__law_pick
  obtain ⟨f__law_same, d__law_same⟩ := tx.d__law_same
  obtain ⟨f__law_as_lists, d__law_as_lists⟩ := tx.d__law_as_lists
  obtain ⟨f__law_stays, d__law_stays⟩ := tx.d__law_stays
  obtain ⟨f__law_odd_stay, d__law_odd_stay⟩ := tx.d__law_odd_stay
  obtain ⟨f__law_late, d__law_late⟩ := tx.d__law_late
  obtain ⟨f__law_chain, d__law_chain⟩ := tx.d__law_chain
  obtain ⟨f__law_worst, d__law_worst⟩ := tx.d__law_worst
  obtain ⟨f__law_met, d__law_met⟩ := tx.d__law_met
  obtain ⟨f_law, d_law⟩ := tx.d_law
  obtain ⟨f_in_order, c0, d_in_order⟩ := tx.d_in_order
  obtain ⟨f__law_order, c1, d__law_order⟩ := tx.d__law_order
  obtain ⟨f__law_refused_right, c2, d__law_refused_right⟩ := tx.d__law_refused_right
  obtain ⟨CS, CM, CI, CD, xe0, xe1, xe2, xe3, x0, x1, x2, x3, x4, x5, x6, x7, x8, x9⟩ := tx.exc
  refine ⟨c0, c1, c2, ⟨_, d_in_order⟩, ⟨_, d__law_order⟩, ⟨_, d__law_refused_right⟩, ?_⟩
  intro base s H a ns X G TB e0 hT only sq hlen
  have B : Bi mg := ⟨PySem.W.mg_none_of X G tx.f_isinstance, PySem.W.mg_none_of X G tx.f_len, PySem.W.mg_none_of X G tx.f_all, PySem.W.mg_none_of X G tx.f_any, PySem.W.mg_none_of X G tx.f_int, PySem.W.mg_none_of X G tx.f_bool, PySem.W.mg_none_of X G tx.f_str, PySem.W.mg_none_of X G tx.f_list, PySem.W.mg_none_of X G tx.f_tuple, PySem.W.mg_none_of X G tx.f_dict, PySem.W.mg_none_of X G tx.f_abs, PySem.W.mg_none_of X G tx.f_max, PySem.W.mg_none_of X G tx.f_min, PySem.W.mg_none_of X G tx.f_sum, PySem.W.mg_none_of X G tx.f_range, PySem.W.mg_none_of X G tx.f_enumerate, PySem.W.mg_none_of X G tx.f_zip, PySem.W.mg_none_of X G tx.f_sorted, PySem.W.mg_none_of X G tx.f_set, PySem.W.mg_none_of X G tx.f_repr⟩
  have S : SupM P K mg := ⟨PySem.W.mg_none_of X G tx.f_super, tx.top, tx.any⟩
  have ECS : KnE P w K mg base "BadStays" CS "index" := excOf X G S xe0
  have ECM : KnE P w K mg base "BadMany" CM "many" := excOf X G S xe1
  have ECI : KnE P w K mg base "BadIndex" CI "index" := excOf X G S xe2
  have ECD : KnE P w K mg base "BadDay" CD "day" := excOf X G S xe3
  obtain ⟨T, eT⟩ : ∃ T, T = tabsOf p0 p1 p2 := ⟨_, rfl⟩
  have tb0 : Tb base mg T "in_order" c0 p0 := ⟨TB (c0, p0) (by simp), by rw [eT]; simp [tabsOf], fun q hq e => by
    rw [eT] at hq
    simp only [tabsOf, List.mem_cons, List.not_mem_nil, or_false] at hq
    rcases hq with rfl | rfl | rfl
    · rfl
    · exact absurd e.symm n01
    · exact absurd e.symm n02⟩
  have tb1 : Tb base mg T "_law_order" c1 p1 := ⟨TB (c1, p1) (by simp), by rw [eT]; simp [tabsOf], fun q hq e => by
    rw [eT] at hq
    simp only [tabsOf, List.mem_cons, List.not_mem_nil, or_false] at hq
    rcases hq with rfl | rfl | rfl
    · exact absurd e n01
    · rfl
    · exact absurd e.symm n12⟩
  have tb2 : Tb base mg T "_law_refused_right" c2 p2 := ⟨TB (c2, p2) (by simp), by rw [eT]; simp [tabsOf], fun q hq e => by
    rw [eT] at hq
    simp only [tabsOf, List.mem_cons, List.not_mem_nil, or_false] at hq
    rcases hq with rfl | rfl | rfl
    · exact absurd e n02
    · exact absurd e n12
    · rfl⟩
  have tabs : LamX.Tabs T H := start_tabs fun p hp => by
    rw [eT] at hp
    simp only [tabsOf, List.mem_cons, List.not_mem_nil, or_false] at hp
    rcases hp with rfl | rfl | rfl
    · exact hT (c0, p0) (by simp)
    · exact hT (c1, p1) (by simp)
    · exact hT (c2, p2) (by simp)
  have k_is_list : Kn P w K mg base T "is_list" 1 (pred isList) := knOf X G d_is_list (fun _ F => ok_is_list B F) (fun _ _ _ _ _ _ us hl => match us, hl with | [_], _ => rfl)
  have k_is_whole : Kn P w K mg base T "is_whole" 1 (pred isWhole) := knOf X G d_is_whole (fun _ F => ok_is_whole B F) (fun _ _ _ _ _ _ us hl => match us, hl with | [_], _ => rfl)
  have k_is_number : Kn P w K mg base T "is_number" 2 (pred isNum) := knOf X G d_is_number (fun _ F => ok_is_number B F k_is_whole) (fun _ _ _ _ _ _ us hl => match us, hl with | [_], _ => rfl)
  have k_is_positive : Kn P w K mg base T "is_positive" 2 (pred isPos) := knOf X G d_is_positive (fun _ F => ok_is_positive B F k_is_whole) (fun _ _ _ _ _ _ us hl => match us, hl with | [_], _ => rfl)
  have k_first_odd : Kn P w K mg base T "first_odd" 5 (fod P w K mg base T 3) := knOf X G d_first_odd (fun _ F => ok_first_odd B F k_is_list) (fun _ _ _ _ _ _ us hl => match us, hl with | [_, _], _ => rfl)
  have a_is_stay : KnA P w K mg base T f_is_stay 3 (pred isStay) := knAOf X G d_is_stay (fun _ F => ok_is_stay B F k_is_list k_is_number) (fun _ _ _ _ _ _ us hl => match us, hl with | [_], _ => rfl)
  have k_checked_stays : Kn P w K mg base T "checked_stays" 7 (chkN CS) := knOf X G d_checked_stays (fun _ F => ok_checked_stays B ECS F k_first_odd (PySem.W.mg_of X G d_is_stay.ns) d_is_stay.at_ a_is_stay) (fun _ _ _ _ _ _ us hl => match us, hl with | [_], _ => rfl)
  have k_check_some : Kn P w K mg base T "check_some" 3 (cmN isPos CM "many") := knOf X G d_check_some (fun _ F => ok_check_some B ECM F k_is_positive) (fun _ _ _ _ _ _ us hl => match us, hl with | [_], _ => rfl)
  have k_in_order : Kn P w K mg base T "in_order" 2 (ordN) := knCOf X G d_in_order (fun _ F => ok_in_order B F tb0) (fun _ _ _ _ _ _ us hl => match us, hl with | [_], _ => rfl)
  have k_begun : Kn P w K mg base T "begun" 3 (begN) := knOf X G d_begun (fun _ F => ok_begun B F k_in_order) (fun _ _ _ _ _ _ us hl => match us, hl with | [_, _], _ => rfl)
  have k_ltb : Kn P w K mg base T "late_begins" 8 (ltbN CS CM) := knOf X G d_late_begins (fun _ F => ok_late_begins B F k_checked_stays k_check_some k_begun) (fun _ _ _ _ _ _ us hl => match us, hl with | [_, _], _ => rfl)
  have a_ltb : KnA P w K mg base T f_late_begins 8 (ltbN CS CM) := knAOf X G d_late_begins (fun _ F => ok_late_begins B F k_checked_stays k_check_some k_begun) (fun _ _ _ _ _ _ us hl => match us, hl with | [_, _], _ => rfl)
  have kk_ltb : KnK P w K mg base T "late_begins" 8 (ltbN CS CM) ["many", "stays"] [1, 0] := knKOf X G d_late_begins (fun _ F => ok_late_begins B F k_checked_stays k_check_some k_begun) (fun _ _ _ _ _ _ us hl => match us, hl with | [_, _], _ => rfl)
  have k_most : Kn P w K mg base T "most_late" 4 (wstN) := knOf X G d_most_late (fun _ F => ok_most_late B F k_begun) (fun _ _ _ _ _ _ us hl => match us, hl with | [_, _], _ => rfl)
  have a_lts : KnA P w K mg base T f_latest 8 (ltsN CS CM) := knAOf X G d_latest (fun _ F => ok_latest B F k_checked_stays k_check_some k_most) (fun _ _ _ _ _ _ us hl => match us, hl with | [_, _], _ => rfl)
  have kk_lts : KnK P w K mg base T "latest" 8 (ltsN CS CM) ["many", "stays"] [1, 0] := knKOf X G d_latest (fun _ F => ok_latest B F k_checked_stays k_check_some k_most) (fun _ _ _ _ _ _ us hl => match us, hl with | [_, _], _ => rfl)
  have k_way : Kn P w K mg base T "in_the_way" 8 (wayN CS CM CI) := knOf X G d_in_the_way (fun _ F => ok_in_the_way B ECI F k_checked_stays k_check_some k_is_number k_begun) (fun _ _ _ _ _ _ us hl => match us, hl with | [_, _, _], _ => rfl)
  have kk_way : KnK P w K mg base T "in_the_way" 8 (wayN CS CM CI) ["index", "many", "stays"] [2, 1, 0] := knKOf X G d_in_the_way (fun _ F => ok_in_the_way B ECI F k_checked_stays k_check_some k_is_number k_begun) (fun _ _ _ _ _ _ us hl => match us, hl with | [_, _, _], _ => rfl)
  have k_adf : Kn P w K mg base T "addresses_for" 8 (adfN CS CD) := knOf X G d_addresses_for (fun _ F => ok_addresses_for B ECD F k_checked_stays k_is_number k_most) (fun _ _ _ _ _ _ us hl => match us, hl with | [_, _], _ => rfl)
  have kk_adf : KnK P w K mg base T "addresses_for" 8 (adfN CS CD) ["late", "stays"] [1, 0] := knKOf X G d_addresses_for (fun _ F => ok_addresses_for B ECD F k_checked_stays k_is_number k_most) (fun _ _ _ _ _ _ us hl => match us, hl with | [_, _], _ => rfl)
  have k_draw : Kn P w K mg base T "_law_draw" 1 (draN) := knOf X G d__law_draw (fun _ F => ok_law_draw B F) (fun _ _ _ _ _ _ us hl => match us, hl with | [_, _], _ => rfl)
  have k_pick : Kn P w K mg base T "_law_pick" 2 (picN) := knOf X G d__law_pick (fun _ F => ok_law_pick B F k_draw) (fun _ _ _ _ _ _ us hl => match us, hl with | [_, _], _ => rfl)
  have k_stream : Kn P w K mg base T "_law_stream" 1 (strN) := knOf X G d__law_stream (fun _ F => ok_law_stream B F) (fun _ _ _ _ _ _ us hl => match us, hl with | [_, _], _ => rfl)
  have k_sts : Kn P w K mg base T "_law_stays" 3 (stsN) := knOf X G d__law_stays (fun _ F => ok_law_stays B F k_draw k_pick) (fun _ _ _ _ _ _ us hl => match us, hl with | [_, _], _ => rfl)
  have k_odd : Kn P w K mg base T "_law_odd_stay" 3 (oddN) := knOf X G d__law_odd_stay (fun _ F => ok_law_odd_stay B F k_pick) (fun _ _ _ _ _ _ us hl => match us, hl with | [_], _ => rfl)
  have as0 : Kn P w K mg base T "_law_as_lists" 1 (asF isInt eqI 0) := knOf X G d__law_as_lists (fun _ F => ok_as0 B F) (fun _ _ _ _ _ _ us hl => match us, hl with | [_, _], _ => rfl)
  have as1 : Kn P w K mg base T "_law_as_lists" 2 (asF (DomL isInt 3) (PrL eqI) (1 + 3 * 0)) := knOf X G d__law_as_lists (fun _ F => ok_as1 B F k_draw (by decide) as0 3 (by decide)) (fun _ _ _ _ _ _ us hl => match us, hl with | [_, _], _ => rfl)
  have as2 : Kn P w K mg base T "_law_as_lists" 3 (asF (DomL (DomL isInt 3) 100) (PrL (PrL eqI)) (1 + 100 * (1 + 3 * 0))) := knOf X G d__law_as_lists (fun _ F => ok_as1 B F k_draw (by decide) as1 100 (by decide)) (fun _ _ _ _ _ _ us hl => match us, hl with | [_, _], _ => rfl)
  have sm0 : Kn P w K mg base T "_law_same" 1 (sameN 0) := knOf X G d__law_same (fun _ F => ok_same0 F) (fun _ _ _ _ _ _ us hl => match us, hl with | [_, _], _ => rfl)
  have sm1 : Kn P w K mg base T "_law_same" 2 (sameN 1) := knOf X G d__law_same (fun _ F => ok_same1 B F sm0) (fun _ _ _ _ _ _ us hl => match us, hl with | [_, _], _ => rfl)
  have sm2 : Kn P w K mg base T "_law_same" 3 (sameN 2) := knOf X G d__law_same (fun _ F => ok_same1 B F sm1) (fun _ _ _ _ _ _ us hl => match us, hl with | [_, _], _ => rfl)
  have sm3 : Kn P w K mg base T "_law_same" 4 (sameN 3) := knOf X G d__law_same (fun _ F => ok_same1 B F sm2) (fun _ _ _ _ _ _ us hl => match us, hl with | [_, _], _ => rfl)
  have sm4 : Kn P w K mg base T "_law_same" 5 (sameN 4) := knOf X G d__law_same (fun _ F => ok_same1 B F sm3) (fun _ _ _ _ _ _ us hl => match us, hl with | [_, _], _ => rfl)
  have k_lord : Kn P w K mg base T "_law_order" 2 (ordN) := knCOf X G d__law_order (fun _ F => ok_law_order B F tb1) (fun _ _ _ _ _ _ us hl => match us, hl with | [_], _ => rfl)
  have k_llate : Kn P w K mg base T "_law_late" 3 (llaN) := knOf X G d__law_late (fun _ F => ok_law_late B F k_lord) (fun _ _ _ _ _ _ us hl => match us, hl with | [_, _], _ => rfl)
  have k_lcha : Kn P w K mg base T "_law_chain" 1 (lchN) := knOf X G d__law_chain (fun _ F => ok_law_chain B F) (fun _ _ _ _ _ _ us hl => match us, hl with | [_, _, _], _ => rfl)
  have k_lwor : Kn P w K mg base T "_law_worst" 1 (lwoN) := knOf X G d__law_worst (fun _ F => ok_law_worst B F) (fun _ _ _ _ _ _ us hl => match us, hl with | [_, _], _ => rfl)
  have M : MetE P w K mg base CS CM CI CD := ⟨ECS, ECM, ECI, ECD, x0, x1, x2, x3, x4, x5, x6, x7, x8, x9⟩
  have MF : MetF K mg f__law_met := by
    refine ⟨PySem.W.mg_of X G d__law_met.ns, d__law_met.kp, ?_⟩
    obtain ⟨oc, od, kV, doc, pm, an, cdv, ct, osl, l, hc⟩ := d__law_met.ex
    exact ⟨oc, od, .none, kV, doc, pm, an, cdv, ct, osl, l, hc, .all fun us hl => match us, hl with | [_], _ => rfl⟩
  have k_rfr : Kn P w K mg base T "_law_refused_right" 12 (rfrN) := knCOf X G d__law_refused_right (fun _ F => ok_law_refused_right B F tb2 M MF k_draw k_pick k_odd (PySem.W.mg_of X G d_late_begins.ns) d_late_begins.at_ a_ltb (PySem.W.mg_of X G d_latest.ns) d_latest.at_ a_lts (PySem.W.mg_of X G d__law_late.ns) d__law_late.at_ k_way k_adf sm4) (fun _ _ _ _ _ _ us hl => match us, hl with | [_, _], _ => rfl)
  have L : Lw P w K mg base T CS CM CI CD := ⟨k_stream, k_draw, k_pick, k_sts, as2, sm4, k_llate, k_lcha, k_lwor, k_rfr, k_ltb, kk_ltb, kk_lts, kk_way, kk_adf⟩
  have efa : fa = f_law := by
    have e1 := hfa base X G
    have e2 := PySem.W.mg_of X G d_law.ns
    rw [e1] at e2
    cases e2
    rfl
  subst efa
  obtain ⟨oc, od, kV, doc, pm, an, cdv, ct, osl, l, hc⟩ := d_law.ex
  have F := fun_mk (st := s_law) l hc d_law.kp
  have vr : Vals [V.ref a] [Value.ref a] := .cons rfl .nil
  refine okRun (T := T) (k := 12) (g := 300000) (C := fun o => ∃ g', o = .ret (.bl true) g') F sc_law (vs := [.ref a]) (ds := [.kl (ns.map D.int)]) ⟨rfl, by decide, by decide⟩ e0 (.of_eq rfl) vr rfl (start_ok tabs) (.cons (.kl (start_sq sq) (Rs.ofInts ns)) .nil) (fun d g' c v F' H' r => ?_) (fun ds g' c a H' => ?_) (fun c2 g' c a H' => ?_) (fun cdv hr => ?_)
  · obtain ⟨_, e⟩ := c
    cases e
    cases r
    rfl
  · obtain ⟨_, e⟩ := c
    cases e
  · obtain ⟨_, e⟩ := c
    cases e
  · exact body_law pl B L rfl hlen hr fun g' => ⟨g', rfl⟩
end K68
end

section
open PySem L2 DL PyProof.Rows
namespace K68
theorem top {P : Program} {w : World} {K : PySem.W.Frag} {h : Heap} {mg : Str → Option Value} {fa p0 p1 p2 : Addr} (KX : K.In h) (hmg : mg "law" = some (.ref fa)) (hT : ∀ p ∈ [p2, p1, p0], h.get? p = some (PySem.W.tabObj #[])) (n01 : p0 ≠ p1) (n02 : p0 ≠ p2) (n12 : p1 ≠ p2)
    (d_is_list : ∃ f, DefK K "is_list" s_is_list f)
    (d_is_whole : ∃ f, DefK K "is_whole" s_is_whole f)
    (d_is_number : ∃ f, DefK K "is_number" s_is_number f)
    (d_is_positive : ∃ f, DefK K "is_positive" s_is_positive f)
    (d_first_odd : ∃ f, DefK K "first_odd" s_first_odd f)
    (d_is_stay : ∃ f, DefK K "is_stay" s_is_stay f)
    (d_checked_stays : ∃ f, DefK K "checked_stays" s_checked_stays f)
    (d_check_some : ∃ f, DefK K "check_some" s_check_some f)
    (d_begun : ∃ f, DefK K "begun" s_begun f)
    (d_late_begins : ∃ f, DefK K "late_begins" s_late_begins f)
    (d_most_late : ∃ f, DefK K "most_late" s_most_late f)
    (d_latest : ∃ f, DefK K "latest" s_latest f)
    (d_in_the_way : ∃ f, DefK K "in_the_way" s_in_the_way f)
    (d_addresses_for : ∃ f, DefK K "addresses_for" s_addresses_for f)
    (d__law_stream : ∃ f, DefK K "_law_stream" s__law_stream f)
    (d__law_draw : ∃ f, DefK K "_law_draw" s__law_draw f)
    (d__law_pick : ∃ f, DefK K "_law_pick" s__law_pick f)
    (d__law_same : ∃ f, DefK K "_law_same" s__law_same f)
    (d__law_as_lists : ∃ f, DefK K "_law_as_lists" s__law_as_lists f)
    (d__law_stays : ∃ f, DefK K "_law_stays" s__law_stays f)
    (d__law_odd_stay : ∃ f, DefK K "_law_odd_stay" s__law_odd_stay f)
    (d__law_late : ∃ f, DefK K "_law_late" s__law_late f)
    (d__law_chain : ∃ f, DefK K "_law_chain" s__law_chain f)
    (d__law_worst : ∃ f, DefK K "_law_worst" s__law_worst f)
    (d__law_met : ∃ f, DefK K "_law_met" s__law_met f)
    (d_law : ∃ f, DefK K "law" s_law f)
    (d_in_order : ∃ f c, DefCK K "in_order" s_in_order f c p0)
    (d__law_order : ∃ f c, DefCK K "_law_order" s__law_order f c p1)
    (d__law_refused_right : ∃ f c, DefCK K "_law_refused_right" s__law_refused_right f c p2)
    (f_isinstance : PySem.W.nsIn K mainGlobals "isinstance" = some none)
    (f_len : PySem.W.nsIn K mainGlobals "len" = some none)
    (f_all : PySem.W.nsIn K mainGlobals "all" = some none)
    (f_any : PySem.W.nsIn K mainGlobals "any" = some none)
    (f_int : PySem.W.nsIn K mainGlobals "int" = some none)
    (f_bool : PySem.W.nsIn K mainGlobals "bool" = some none)
    (f_str : PySem.W.nsIn K mainGlobals "str" = some none)
    (f_list : PySem.W.nsIn K mainGlobals "list" = some none)
    (f_tuple : PySem.W.nsIn K mainGlobals "tuple" = some none)
    (f_dict : PySem.W.nsIn K mainGlobals "dict" = some none)
    (f_abs : PySem.W.nsIn K mainGlobals "abs" = some none)
    (f_max : PySem.W.nsIn K mainGlobals "max" = some none)
    (f_min : PySem.W.nsIn K mainGlobals "min" = some none)
    (f_sum : PySem.W.nsIn K mainGlobals "sum" = some none)
    (f_range : PySem.W.nsIn K mainGlobals "range" = some none)
    (f_enumerate : PySem.W.nsIn K mainGlobals "enumerate" = some none)
    (f_zip : PySem.W.nsIn K mainGlobals "zip" = some none)
    (f_sorted : PySem.W.nsIn K mainGlobals "sorted" = some none)
    (f_set : PySem.W.nsIn K mainGlobals "set" = some none)
    (f_repr : PySem.W.nsIn K mainGlobals "repr" = some none)
    (f_super : PySem.W.nsIn K mainGlobals "super" = some none)
    (hany : PySem.W.nsIn K cStatics "thirdparty.any" = some none) (htop : (P.main.scope.names.lookup ("super" : Str)).isSome = false)
    (hexc : ∃ CS CM CI CD, ExcK P K mg "BadStays" "index" "index" CS ∧ ExcK P K mg "BadMany" "many" "many" CM ∧ ExcK P K mg "BadIndex" "index" "index" CI ∧ ExcK P K mg "BadDay" "day" "day" CD ∧ PySem.W.exmOne K (.ref CS) (.ref CS) = some true ∧ PySem.W.exmOne K (.ref CM) (.ref CS) = some false ∧ PySem.W.exmOne K (.ref CM) (.ref CM) = some true ∧ PySem.W.exmOne K (.ref CI) (.ref CS) = some false ∧ PySem.W.exmOne K (.ref CI) (.ref CM) = some false ∧ PySem.W.exmOne K (.ref CI) (.ref CI) = some true ∧ PySem.W.exmOne K (.ref CD) (.ref CS) = some false ∧ PySem.W.exmOne K (.ref CD) (.ref CM) = some false ∧ PySem.W.exmOne K (.ref CD) (.ref CI) = some false ∧ PySem.W.exmOne K (.ref CD) (.ref CD) = some true) :
    ∃ cs : List (Addr × Addr), (∀ p ∈ cs, h.get? p.2 = some emptyTab ∧ K.lookup p.2 = none ∧ PySem.W.CodeHd h p.1 p.2) ∧ RunG P w K mg fa cs 63 := by
  have tx : Txt P K mg p0 p1 p2 := ⟨d_is_list, d_is_whole, d_is_number, d_is_positive, d_first_odd, d_is_stay, d_checked_stays, d_check_some, d_begun, d_late_begins, d_most_late, d_latest, d_in_the_way, d_addresses_for, d__law_stream, d__law_draw, d__law_pick, d__law_same, d__law_as_lists, d__law_stays, d__law_odd_stay, d__law_late, d__law_chain, d__law_worst, d__law_met, d_law, d_in_order, d__law_order, d__law_refused_right, f_isinstance, f_len, f_all, f_any, f_int, f_bool, f_str, f_list, f_tuple, f_dict, f_abs, f_max, f_min, f_sum, f_range, f_enumerate, f_zip, f_sorted, f_set, f_repr, f_super, hany, htop, hexc⟩
  obtain ⟨c0, c1, c2, ⟨_, e0⟩, ⟨_, e1⟩, ⟨_, e2⟩, run⟩ := run plain (w := w) (fa := fa) tx n01 n02 n12 fun _ _ _ => hmg
  refine ⟨_, fun p hp => ?_, run⟩
  simp only [List.mem_cons, List.not_mem_nil, or_false] at hp
  rcases hp with rfl | rfl | rfl
  · exact ⟨hT p0 (by simp), e0.out, PySem.W.codeHd_of_K KX e0.hd⟩
  · exact ⟨hT p1 (by simp), e1.out, PySem.W.codeHd_of_K KX e1.hd⟩
  · exact ⟨hT p2 (by simp), e2.out, PySem.W.codeHd_of_K KX e2.hd⟩
end K68
end

set_option maxHeartbeats 0
open PySem PySem.W PyProof.Rows
theorem PySem.Challenge.cw_oldaddress_k68_whole_late_begins_holds : PySem.Challenge.rw_oldaddress_k68_whole_late_begins.Holds := by
  w_on; o_law; k_head; (case hw => w_witness2)
  k_fill
  refine DL.walkG (n := 63) (l := PySem.Challenge.rw_oldaddress_k68_whole_late_begins) rfl (by decide) rfl (fun w h Y => PySem.W.km_in_of Y) ?F
  case F =>
    intro w mg fa h Y KX G hmg
    refine' K68.top (p0 := 156) (p1 := 249) (p2 := 278) KX hmg (PySem.W.km_tabs_of Y) (by decide) (by decide) (by decide) ?d_is_list ?d_is_whole ?d_is_number ?d_is_positive ?d_first_odd ?d_is_stay ?d_checked_stays ?d_check_some ?d_begun ?d_late_begins ?d_most_late ?d_latest ?d_in_the_way ?d_addresses_for ?d__law_stream ?d__law_draw ?d__law_pick ?d__law_same ?d__law_as_lists ?d__law_stays ?d__law_odd_stay ?d__law_late ?d__law_chain ?d__law_worst ?d__law_met ?d_law ?d_in_order ?d__law_order ?d__law_refused_right ?f_isinstance ?f_len ?f_all ?f_any ?f_int ?f_bool ?f_str ?f_list ?f_tuple ?f_dict ?f_abs ?f_max ?f_min ?f_sum ?f_range ?f_enumerate ?f_zip ?f_sorted ?f_set ?f_repr ?f_super ?hany ?htop ?hexc
    (case d_is_list => (refine' DL.defK ?a ?b ?c ?d ?e; (case a => k_is); (case b => k_is); (case c => k_is); (case d => k_is); (case e => k_is)))
    (case d_is_whole => (refine' DL.defK ?a ?b ?c ?d ?e; (case a => k_is); (case b => k_is); (case c => k_is); (case d => k_is); (case e => k_is)))
    (case d_is_number => (refine' DL.defK ?a ?b ?c ?d ?e; (case a => k_is); (case b => k_is); (case c => k_is); (case d => k_is); (case e => k_is)))
    (case d_is_positive => (refine' DL.defK ?a ?b ?c ?d ?e; (case a => k_is); (case b => k_is); (case c => k_is); (case d => k_is); (case e => k_is)))
    (case d_first_odd => (refine' DL.defK ?a ?b ?c ?d ?e; (case a => k_is); (case b => k_is); (case c => k_is); (case d => k_is); (case e => k_is)))
    (case d_is_stay => (refine' DL.defK ?a ?b ?c ?d ?e; (case a => k_is); (case b => k_is); (case c => k_is); (case d => k_is); (case e => k_is)))
    (case d_checked_stays => (refine' DL.defK ?a ?b ?c ?d ?e; (case a => k_is); (case b => k_is); (case c => k_is); (case d => k_is); (case e => k_is)))
    (case d_check_some => (refine' DL.defK ?a ?b ?c ?d ?e; (case a => k_is); (case b => k_is); (case c => k_is); (case d => k_is); (case e => k_is)))
    (case d_begun => (refine' DL.defK ?a ?b ?c ?d ?e; (case a => k_is); (case b => k_is); (case c => k_is); (case d => k_is); (case e => k_is)))
    (case d_late_begins => (refine' DL.defK ?a ?b ?c ?d ?e; (case a => k_is); (case b => k_is); (case c => k_is); (case d => k_is); (case e => k_is)))
    (case d_most_late => (refine' DL.defK ?a ?b ?c ?d ?e; (case a => k_is); (case b => k_is); (case c => k_is); (case d => k_is); (case e => k_is)))
    (case d_latest => (refine' DL.defK ?a ?b ?c ?d ?e; (case a => k_is); (case b => k_is); (case c => k_is); (case d => k_is); (case e => k_is)))
    (case d_in_the_way => (refine' DL.defK ?a ?b ?c ?d ?e; (case a => k_is); (case b => k_is); (case c => k_is); (case d => k_is); (case e => k_is)))
    (case d_addresses_for => (refine' DL.defK ?a ?b ?c ?d ?e; (case a => k_is); (case b => k_is); (case c => k_is); (case d => k_is); (case e => k_is)))
    (case d__law_stream => (refine' DL.defK ?a ?b ?c ?d ?e; (case a => k_is); (case b => k_is); (case c => k_is); (case d => k_is); (case e => k_is)))
    (case d__law_draw => (refine' DL.defK ?a ?b ?c ?d ?e; (case a => k_is); (case b => k_is); (case c => k_is); (case d => k_is); (case e => k_is)))
    (case d__law_pick => (refine' DL.defK ?a ?b ?c ?d ?e; (case a => k_is); (case b => k_is); (case c => k_is); (case d => k_is); (case e => k_is)))
    (case d__law_same => (refine' DL.defK ?a ?b ?c ?d ?e; (case a => k_is); (case b => k_is); (case c => k_is); (case d => k_is); (case e => k_is)))
    (case d__law_as_lists => (refine' DL.defK ?a ?b ?c ?d ?e; (case a => k_is); (case b => k_is); (case c => k_is); (case d => k_is); (case e => k_is)))
    (case d__law_stays => (refine' DL.defK ?a ?b ?c ?d ?e; (case a => k_is); (case b => k_is); (case c => k_is); (case d => k_is); (case e => k_is)))
    (case d__law_odd_stay => (refine' DL.defK ?a ?b ?c ?d ?e; (case a => k_is); (case b => k_is); (case c => k_is); (case d => k_is); (case e => k_is)))
    (case d__law_late => (refine' DL.defK ?a ?b ?c ?d ?e; (case a => k_is); (case b => k_is); (case c => k_is); (case d => k_is); (case e => k_is)))
    (case d__law_chain => (refine' DL.defK ?a ?b ?c ?d ?e; (case a => k_is); (case b => k_is); (case c => k_is); (case d => k_is); (case e => k_is)))
    (case d__law_worst => (refine' DL.defK ?a ?b ?c ?d ?e; (case a => k_is); (case b => k_is); (case c => k_is); (case d => k_is); (case e => k_is)))
    (case d__law_met => (refine' DL.defK ?a ?b ?c ?d ?e; (case a => k_is); (case b => k_is); (case c => k_is); (case d => k_is); (case e => k_is)))
    (case d_law => (refine' DL.defK ?a ?b ?c ?d ?e; (case a => k_is); (case b => k_is); (case c => k_is); (case d => k_is); (case e => k_is)))
    (case d_in_order => (refine' DL.defCK ?a ?b ?c ?d ?e ?g ?h; (case a => k_is); (case b => k_is); (case c => k_is); (case d => k_is); (case e => k_is); (case g => first | rfl | k_is); (case h => first | rfl | k_is)))
    (case d__law_order => (refine' DL.defCK ?a ?b ?c ?d ?e ?g ?h; (case a => k_is); (case b => k_is); (case c => k_is); (case d => k_is); (case e => k_is); (case g => first | rfl | k_is); (case h => first | rfl | k_is)))
    (case d__law_refused_right => (refine' DL.defCK ?a ?b ?c ?d ?e ?g ?h; (case a => k_is); (case b => k_is); (case c => k_is); (case d => k_is); (case e => k_is); (case g => first | rfl | k_is); (case h => first | rfl | k_is)))
    (case f_isinstance => k_is)
    (case f_len => k_is)
    (case f_all => k_is)
    (case f_any => k_is)
    (case f_int => k_is)
    (case f_bool => k_is)
    (case f_str => k_is)
    (case f_list => k_is)
    (case f_tuple => k_is)
    (case f_dict => k_is)
    (case f_abs => k_is)
    (case f_max => k_is)
    (case f_min => k_is)
    (case f_sum => k_is)
    (case f_range => k_is)
    (case f_enumerate => k_is)
    (case f_zip => k_is)
    (case f_sorted => k_is)
    (case f_set => k_is)
    (case f_repr => k_is)
    (case f_super => k_is)
    (case hany => first | k_is | rfl)
    (case htop => first | rfl | decide +kernel)
    case hexc =>
      refine' K68.excP (DL.excK ?q0ns ?q0lC ?q0ve ?q0sa ?q0exC ?q0tyC ?q0kC ?q0ga ?q0gg ?q0hdC ?q0no ?q0i1 ?q0i2 ?q0l ?q0hcd ?q0lc ?q0hv ?q0hf ?q0lcc ?q0hp ?q0Si ?q0hl ?q0sup ?q0sb ?q0own ?q0ic ?q0hb) (DL.excK ?q1ns ?q1lC ?q1ve ?q1sa ?q1exC ?q1tyC ?q1kC ?q1ga ?q1gg ?q1hdC ?q1no ?q1i1 ?q1i2 ?q1l ?q1hcd ?q1lc ?q1hv ?q1hf ?q1lcc ?q1hp ?q1Si ?q1hl ?q1sup ?q1sb ?q1own ?q1ic ?q1hb) (DL.excK ?q2ns ?q2lC ?q2ve ?q2sa ?q2exC ?q2tyC ?q2kC ?q2ga ?q2gg ?q2hdC ?q2no ?q2i1 ?q2i2 ?q2l ?q2hcd ?q2lc ?q2hv ?q2hf ?q2lcc ?q2hp ?q2Si ?q2hl ?q2sup ?q2sb ?q2own ?q2ic ?q2hb) (DL.excK ?q3ns ?q3lC ?q3ve ?q3sa ?q3exC ?q3tyC ?q3kC ?q3ga ?q3gg ?q3hdC ?q3no ?q3i1 ?q3i2 ?q3l ?q3hcd ?q3lc ?q3hv ?q3hf ?q3lcc ?q3hp ?q3Si ?q3hl ?q3sup ?q3sb ?q3own ?q3ic ?q3hb) ?x0 ?x1 ?x2 ?x3 ?x4 ?x5 ?x6 ?x7 ?x8 ?x9
      (case q0ns => k_is)
      (case q0lC => k_is)
      (case q0ve => first | rfl | decide +kernel)
      (case q0sa => k_is)
      (case q0exC => k_is)
      (case q0tyC => k_is)
      (case q0kC => k_is)
      (case q0ga => k_is)
      (case q0gg => k_is)
      (case q0hdC => first | k_is | rfl)
      (case q0no => k_is)
      (case q0i1 => k_is)
      (case q0i2 => k_is)
      (case q0l => k_is)
      (case q0hcd => k_is)
      (case q0lc => k_is)
      (case q0hv => first | rfl | decide +kernel)
      (case q0hf => first | rfl | decide +kernel)
      (case q0lcc => k_is)
      (case q0hp => first | rfl | decide +kernel)
      (case q0Si => kernel_rfl)
      (case q0hl => first | rfl | decide +kernel)
      (case q0sup => first | rfl | kernel_rfl)
      (case q0sb => k_is)
      (case q0own => k_is)
      (case q0ic => k_is)
      (case q0hb => exact fun us hl => match us, hl with | [_, _], _ => rfl)
      (case q1ns => k_is)
      (case q1lC => k_is)
      (case q1ve => first | rfl | decide +kernel)
      (case q1sa => k_is)
      (case q1exC => k_is)
      (case q1tyC => k_is)
      (case q1kC => k_is)
      (case q1ga => k_is)
      (case q1gg => k_is)
      (case q1hdC => first | k_is | rfl)
      (case q1no => k_is)
      (case q1i1 => k_is)
      (case q1i2 => k_is)
      (case q1l => k_is)
      (case q1hcd => k_is)
      (case q1lc => k_is)
      (case q1hv => first | rfl | decide +kernel)
      (case q1hf => first | rfl | decide +kernel)
      (case q1lcc => k_is)
      (case q1hp => first | rfl | decide +kernel)
      (case q1Si => kernel_rfl)
      (case q1hl => first | rfl | decide +kernel)
      (case q1sup => first | rfl | kernel_rfl)
      (case q1sb => k_is)
      (case q1own => k_is)
      (case q1ic => k_is)
      (case q1hb => exact fun us hl => match us, hl with | [_, _], _ => rfl)
      (case q2ns => k_is)
      (case q2lC => k_is)
      (case q2ve => first | rfl | decide +kernel)
      (case q2sa => k_is)
      (case q2exC => k_is)
      (case q2tyC => k_is)
      (case q2kC => k_is)
      (case q2ga => k_is)
      (case q2gg => k_is)
      (case q2hdC => first | k_is | rfl)
      (case q2no => k_is)
      (case q2i1 => k_is)
      (case q2i2 => k_is)
      (case q2l => k_is)
      (case q2hcd => k_is)
      (case q2lc => k_is)
      (case q2hv => first | rfl | decide +kernel)
      (case q2hf => first | rfl | decide +kernel)
      (case q2lcc => k_is)
      (case q2hp => first | rfl | decide +kernel)
      (case q2Si => kernel_rfl)
      (case q2hl => first | rfl | decide +kernel)
      (case q2sup => first | rfl | kernel_rfl)
      (case q2sb => k_is)
      (case q2own => k_is)
      (case q2ic => k_is)
      (case q2hb => exact fun us hl => match us, hl with | [_, _], _ => rfl)
      (case q3ns => k_is)
      (case q3lC => k_is)
      (case q3ve => first | rfl | decide +kernel)
      (case q3sa => k_is)
      (case q3exC => k_is)
      (case q3tyC => k_is)
      (case q3kC => k_is)
      (case q3ga => k_is)
      (case q3gg => k_is)
      (case q3hdC => first | k_is | rfl)
      (case q3no => k_is)
      (case q3i1 => k_is)
      (case q3i2 => k_is)
      (case q3l => k_is)
      (case q3hcd => k_is)
      (case q3lc => k_is)
      (case q3hv => first | rfl | decide +kernel)
      (case q3hf => first | rfl | decide +kernel)
      (case q3lcc => k_is)
      (case q3hp => first | rfl | decide +kernel)
      (case q3Si => kernel_rfl)
      (case q3hl => first | rfl | decide +kernel)
      (case q3sup => first | rfl | kernel_rfl)
      (case q3sb => k_is)
      (case q3own => k_is)
      (case q3ic => k_is)
      (case q3hb => exact fun us hl => match us, hl with | [_, _], _ => rfl)
      (case x0 => first | k_is | rfl | kernel_rfl)
      (case x1 => first | k_is | rfl | kernel_rfl)
      (case x2 => first | k_is | rfl | kernel_rfl)
      (case x3 => first | k_is | rfl | kernel_rfl)
      (case x4 => first | k_is | rfl | kernel_rfl)
      (case x5 => first | k_is | rfl | kernel_rfl)
      (case x6 => first | k_is | rfl | kernel_rfl)
      (case x7 => first | k_is | rfl | kernel_rfl)
      (case x8 => first | k_is | rfl | kernel_rfl)
      (case x9 => first | k_is | rfl | kernel_rfl)
#print axioms PySem.Challenge.cw_oldaddress_k68_whole_late_begins_holds
