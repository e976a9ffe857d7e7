import PyProof.Rows.All
import Wide.All
import OpenK.AllK
import Wide.FinOn
import HandS.ForMost
import HandS.Slots
import HandS.Lambda
import HandS.TupAny
import HandS.Star
import HandS.IsInst
import HandS.Text
import HandS.Style
import HandS.Zip
import HandS.Defaults
import HandS.SlotsOwn
import HandS.ExcCtx
import HandS.ExcOwn
import HandS.CallSlots
import KE.KStateDown
import HandS.Ends
import HandS.EndBits
import HandS.More
import HandS.Words
import HandS.Head0
import HandS.Head1
import HandS.Head2
import HandS.HeadEnd
import HandS.HeadHook1
import HandS.HeadHook2
import HandS.EndTab
import KE.KNestM
import HandS.Strs
import HandS.SetKeys
import PyProof.InstNe
import PyProof.SetKind
import PyProof.SetRoads
import PyProof.FactsLen
import HandS.Conv
import PyProof.ReprRoads
import HandS.Dict
import HandS.MakeKwOnly
import KE.KOpsOwn
import HandS.Deep
import KE.KRevSl
import HandS.Replace
import HandS.ReplaceLit
import HandS.TryOnly
import PyProof.DictUpdate
import HandS.DictComp
import HandS.Iter
import KE.GoesEnum
import KE.KExcSuper
import KE.KSuper
import HandS.ExcInit
import HandS.ExcSuper
import KE.KExcIs
import HandS.ExcField
import HandS.ExcIs
import PyProof.EqAt
import PyProof.EqKinds
import PyProof.TupleCall
import HandS.Base
import HandS.Call
import HandS.List
import HandS.OwnEq
import HandS.TryMany
import PyProof.Rows.SortShell
import PyProof.Rows.SortStr
import PyProof.Rows.SortKeyStr
import KE.KSortTup
import HandS.Sort
import HandS.SortOrd
import KE.KDictSum
import OpenK.KMeth
import HandS.ExcBuiltin
import PyProof.ExcAttrAll.ValueError
import HandS.Codes
import PySem.Challenge.RW_flexpats_k00_errors_and_what_they_keep
set_option Elab.async false
section
set_option Elab.async false
set_option linter.all false
set_option maxRecDepth 100000
set_option maxHeartbeats 2000000
/-! Fx1: data, what they are worth in a heap, a frame's locals as data, expressions over them -/
namespace Fx
open PySem PySem.Spec PyProof.Rows L2

/-! ### data -/
inductive D where
  | non | bl (b : Bool) | int (i : Int) | str (x : Str)
  | tup (ds : List D) | lst (ds : List D) | scr (ns : List Int) | dct (es : List (Key × D))
  | slt (c : Nat) (fs : List D) | ins (c : Nat) (fs : List (Str × D)) | cls (c : Nat) | ty (n : String) | exc (c : Nat) (v : D)

/-- the written part, the classes by number -/
structure Tab where
  K : PySem.W.Frag
  cl : Nat → Addr
  tb : List (Addr × Str)

/-- an exception of the class at C that was caught: its dict is at dx -/
def ExK (C dx a : Addr) : HO := .ext fun h => ∃ (oe : Obj) (vs : Array Value), h.get? a = some oe ∧ Zc (.ref C) (some dx) oe ∧ oe.data = .fields vs

/-- an exception object of some class, as a value -/
def ExG (cls : Value) (d : Option Addr) (a : Addr) : HO := .ext fun h => ∃ (oe : Obj) (vs : Array Value), h.get? a = some oe ∧ Zc cls d oe ∧ oe.data = .fields vs

mutual
inductive Is (T : Tab) (B : Hp) : V → D → Prop
  | non : Is T B .non .non
  | bl (b : Bool) : Is T B (.bl b) (.bl b)
  | int (i : Int) : Is T B (.int i) (.int i)
  | str (x : Str) : Is T B (.str x) (.str x)
  | tup {a : Addr} {vs : List V} {ds : List D} (h : B a = some (.tup vs)) (l : IsL T B vs ds) : Is T B (.ref a) (.tup ds)
  | lst {a : Addr} {vs : List V} {ds : List D} (h : B a = some (.lst vs)) (l : IsL T B vs ds) : Is T B (.ref a) (.lst ds)
  | scr {a : Addr} {ns : List Int} (h : SqL T.K B a (ns.map V.int)) : Is T B (.ref a) (.scr ns)
  | dct {a : Addr} {kvs : List (Key × V)} {es : List (Key × D)} (h : Rd B a (.dK kvs)) (l : IsK T B kvs es) : Is T B (.ref a) (.dct es)
  | slt {a dx : Addr} {c : Nat} {vs : List V} {fs : List D} (h : B a = some (SlX.SlO a (T.cl c) dx (vs.map some))) (hd : B dx = some (.xd [])) (l : IsL T B vs fs) : Is T B (.ref a) (.slt c fs)
  | ins {a : Addr} {c : Nat} {es : List (Str × D)} (h : B a = some (ExG (.type "ValueError") none a)) : Is T B (.ref a) (.ins c es)
  | cls (c : Nat) : Is T B (.ref (T.cl c)) (.cls c)
  | ty (n : String) : Is T B (.ty n) (.ty n)
  | exc {a dx : Addr} {c : Nat} {v : V} {d : D} (h : B a = some (ExK (T.cl c) dx a)) (hd : B dx = some (.xd [("value", v)])) (l : Is T B v d) : Is T B (.ref a) (.exc c d)
inductive IsL (T : Tab) (B : Hp) : List V → List D → Prop
  | nil : IsL T B [] []
  | cons {v : V} {d : D} {vs : List V} {ds : List D} (h : Is T B v d) (t : IsL T B vs ds) : IsL T B (v :: vs) (d :: ds)
inductive IsK (T : Tab) (B : Hp) : List (Key × V) → List (Key × D) → Prop
  | nil : IsK T B [] []
  | cons {k : Key} {v : V} {d : D} {vs : List (Key × V)} {ds : List (Key × D)} (h : Is T B v d) (t : IsK T B vs ds) : IsK T B ((k, v) :: vs) ((k, d) :: ds)
inductive IsF (T : Tab) (B : Hp) : List (Str × V) → List (Str × D) → Prop
  | nil : IsF T B [] []
  | cons {k : Str} {v : V} {d : D} {vs : List (Str × V)} {ds : List (Str × D)} (h : Is T B v d) (t : IsF T B vs ds) : IsF T B ((k, v) :: vs) ((k, d) :: ds)
end

theorem rd_mono {B B' : Hp} {a : Addr} {u : HO} (e : Same B B') (h : Rd B a u) : Rd B' a u := by
  rcases h with h | ⟨o, h⟩
  · exact Or.inl (e a _ h)
  · exact Or.inr ⟨o, e a _ h⟩
theorem sqt_mono {K : PySem.W.Frag} {B B' : Hp} {a : Addr} {xs : List V} (e : Same B B') (h : SqT K B a xs) : SqT K B' a xs := by
  rcases h with h | h
  · exact Or.inl (rd_mono e h)
  · exact Or.inr h
theorem sql_mono {K : PySem.W.Frag} {B B' : Hp} {a : Addr} {xs : List V} (e : Same B B') (h : SqL K B a xs) : SqL K B' a xs := by
  rcases h with h | h
  · exact Or.inl (rd_mono e h)
  · exact Or.inr h

section
variable {T : Tab} {B B' : Hp}
mutual
theorem Is.mono (e : Same B B') : ∀ {v : V} {d : D}, Is T B v d → Is T B' v d
  | _, _, .non => .non
  | _, _, .bl b => .bl b
  | _, _, .int i => .int i
  | _, _, .str x => .str x
  | _, _, .tup h l => .tup (e _ _ h) (IsL.mono e l)
  | _, _, .lst h l => .lst (e _ _ h) (IsL.mono e l)
  | _, _, .scr h => .scr (sql_mono e h)
  | _, _, .dct h l => .dct (rd_mono e h) (IsK.mono e l)
  | _, _, .slt h hd l => .slt (e _ _ h) (e _ _ hd) (IsL.mono e l)
  | _, _, .ins h => .ins (e _ _ h)
  | _, _, .cls c => .cls c
  | _, _, .ty n => .ty n
  | _, _, .exc h hd l => .exc (e _ _ h) (e _ _ hd) (Is.mono e l)
theorem IsL.mono (e : Same B B') : ∀ {vs : List V} {ds : List D}, IsL T B vs ds → IsL T B' vs ds
  | _, _, .nil => .nil
  | _, _, .cons h t => .cons (Is.mono e h) (IsL.mono e t)
theorem IsK.mono (e : Same B B') : ∀ {vs : List (Key × V)} {ds : List (Key × D)}, IsK T B vs ds → IsK T B' vs ds
  | _, _, .nil => .nil
  | _, _, .cons h t => .cons (Is.mono e h) (IsK.mono e t)
theorem IsF.mono (e : Same B B') : ∀ {vs : List (Str × V)} {ds : List (Str × D)}, IsF T B vs ds → IsF T B' vs ds
  | _, _, .nil => .nil
  | _, _, .cons h t => .cons (Is.mono e h) (IsF.mono e t)
end
theorem IsL.length : ∀ {vs : List V} {ds : List D}, IsL T B vs ds → vs.length = ds.length
  | _, _, .nil => rfl
  | _, _, .cons _ t => by rw [List.length_cons, List.length_cons, IsL.length t]
theorem IsL.append : ∀ {vs ws : List V} {ds es : List D}, IsL T B vs ds → IsL T B ws es → IsL T B (vs ++ ws) (ds ++ es)
  | _, _, _, _, .nil, u => u
  | _, _, _, _, .cons h t, u => .cons h (IsL.append t u)
theorem IsL.get : ∀ {vs : List V} {ds : List D} {i : Nat} {d : D}, IsL T B vs ds → ds[i]? = some d → ∃ v, vs[i]? = some v ∧ Is T B v d
  | _, _, _, _, .nil, e => by simp at e
  | _, _, 0, d, .cons h t, e => by
    simp at e
    subst e
    exact ⟨_, rfl, h⟩
  | _, _, i + 1, d, .cons h t, e => by
    obtain ⟨v, h1, h2⟩ := IsL.get (i := i) (d := d) t (by simpa using e)
    exact ⟨v, by simpa using h1, h2⟩
theorem IsL.get' : ∀ {vs : List V} {ds : List D} {i : Nat} {v : V}, IsL T B vs ds → vs[i]? = some v → ∃ d, ds[i]? = some d ∧ Is T B v d
  | _, _, _, _, .nil, e => by simp at e
  | _, _, 0, v, .cons h t, e => by
    simp at e
    subst e
    exact ⟨_, rfl, h⟩
  | _, _, i + 1, v, .cons h t, e => by
    obtain ⟨d, h1, h2⟩ := IsL.get' (i := i) (v := v) t (by simpa using e)
    exact ⟨d, by simpa using h1, h2⟩
theorem IsL.take : ∀ {vs : List V} {ds : List D} (n : Nat), IsL T B vs ds → IsL T B (vs.take n) (ds.take n)
  | _, _, 0, _ => .nil
  | _, _, _ + 1, .nil => .nil
  | _, _, n + 1, .cons h t => .cons h (IsL.take n t)
theorem IsL.drop : ∀ {vs : List V} {ds : List D} (n : Nat), IsL T B vs ds → IsL T B (vs.drop n) (ds.drop n)
  | _, _, 0, h => h
  | _, _, _ + 1, .nil => .nil
  | _, _, n + 1, .cons _ t => IsL.drop n t
theorem IsL.set {v : V} {d : D} (h : Is T B v d) : ∀ {vs : List V} {ds : List D} (i : Nat), IsL T B vs ds → IsL T B (vs.set i v) (ds.set i d)
  | _, _, _, .nil => .nil
  | _, _, 0, .cons _ t => .cons h t
  | _, _, i + 1, .cons g t => .cons g (IsL.set h i t)
theorem IsL.erase : ∀ {vs : List V} {ds : List D} (i : Nat), IsL T B vs ds → IsL T B (vs.eraseIdx i) (ds.eraseIdx i)
  | _, _, _, .nil => .nil
  | _, _, 0, .cons _ t => t
  | _, _, i + 1, .cons h t => .cons h (IsL.erase i t)
theorem IsL.rev : ∀ {vs : List V} {ds : List D}, IsL T B vs ds → IsL T B vs.reverse ds.reverse
  | _, _, .nil => .nil
  | _, _, .cons h t => by
    rw [List.reverse_cons, List.reverse_cons]
    exact (IsL.rev t).append (.cons h .nil)
theorem IsL.rep {vs : List V} {ds : List D} (h : IsL T B vs ds) : ∀ n : Nat, IsL T B (List.replicate n vs).flatten (List.replicate n ds).flatten
  | 0 => .nil
  | n + 1 => by
    rw [List.replicate_succ, List.replicate_succ, List.flatten_cons, List.flatten_cons]
    exact h.append (IsL.rep h n)
end

/-! ### a frame's locals -/
/-- what stands at an address that the frame may change -/
inductive Own where
  | lst (ds : List D) | dct (es : List (Key × D)) | obj (c : Nat) (fs : List (Option D))
@[simp ↓] def Own.d : Own → Option D
  | .lst ds => some (.lst ds)
  | .dct es => some (.dct es)
  | .obj _ _ => none
@[simp ↓] def allD : List (Option D) → Option (List D)
  | [] => some []
  | some d :: r => (allD r).map (d :: ·)
  | none :: _ => none
/-- taken as data -/
@[simp ↓] def Own.z : Own → Option D
  | .lst ds => some (.lst ds)
  | .dct es => some (.dct es)
  | .obj c fs => (allD fs).map (.slt c)
/-- an object's slots as far as they are stored -/
def IsO (T : Tab) (B : Hp) (vs : List (Option V)) (fs : List (Option D)) : Prop :=
  vs.length ≤ fs.length ∧ ∀ (i : Nat) (d : D), fs[i]? = some (some d) → ∃ v, vs[i]? = some (some v) ∧ Is T B v d
theorem IsO.mono {T : Tab} {B B' : Hp} (e : Same B B') {vs : List (Option V)} {fs : List (Option D)} (h : IsO T B vs fs) : IsO T B' vs fs :=
  ⟨h.1, fun i d q => let ⟨v, a, b⟩ := h.2 i d q; ⟨v, a, b.mono e⟩⟩
theorem IsO.all {T : Tab} {B : Hp} : ∀ {vs : List (Option V)} {fs : List (Option D)} {ds : List D}, IsO T B vs fs → allD fs = some ds → ∃ ws, vs = ws.map some ∧ IsL T B ws ds
  | [], [], _, _, e => by
    cases e
    exact ⟨[], rfl, .nil⟩
  | _ :: _, [], _, h, _ => absurd h.1 (by simp)
  | vs, none :: _, _, _, e => by cases e
  | vs, some d :: fs, ds, h, e => by
    have e1 : (allD fs).map (d :: ·) = some ds := e
    cases e2 : allD fs with
    | none =>
      rw [e2] at e1
      cases e1
    | some ds' =>
      rw [e2] at e1
      cases e1
      obtain ⟨v, a, b⟩ := h.2 0 d rfl
      cases vs with
      | nil => cases a
      | cons w vs =>
        cases (Option.some.inj a)
        obtain ⟨ws, c1, c2⟩ := IsO.all (vs := vs) (fs := fs) ⟨by simpa using h.1, fun i d q => h.2 (i + 1) d (by simpa using q)⟩ e2
        exact ⟨v :: ws, by rw [c1]; rfl, .cons b c2⟩
inductive Slot where
  | no | imm (d : D) | own (o : Own) | par (j : Nat) (o : Own)
abbrev Lo := List Slot
/-- what an expression gives: a datum; what the i-th local holds; a new list, dict -/
inductive Opd where
  | imm (d : D) | own (i : Nat) | new (o : Own)

/-- a frame's beginning: what is data, the heap, what it may change -/
structure Fr where
  B0 : Hp
  H0 : Hp
  A0 : List Addr

def OwnIs (T : Tab) (B H : Hp) (p : Addr) : Own → Prop
  | .lst ds => ∃ vs, H p = some (.lst vs) ∧ IsL T B vs ds
  | .dct es => ∃ kvs, H p = some (.dK kvs) ∧ IsK T B kvs es
  | .obj c fs => ∃ dx vs, H p = some (SlX.SlO p (T.cl c) dx vs) ∧ B dx = some (.xd []) ∧ IsO T B vs fs
def OwnAt (σ : L2.St) (G : Lo) (i : Nat) (p : Addr) : Prop := σ[i]? = some (some (.ref p)) ∧ ∃ o, G[i]? = some (.own o) ∨ ∃ j, G[i]? = some (.par j o)
def Ownd (σ : L2.St) (G : Lo) (p : Addr) : Prop := ∃ i, OwnAt σ G i p
def SlotOk (T : Tab) (F : Fr) (B H : Hp) (v : Option V) : Slot → Prop
  | .no => True
  | .imm d => ∃ u, v = some u ∧ Is T B u d
  | .own o => ∃ p, v = some (.ref p) ∧ B p = none ∧ OwnIs T B H p o ∧ F.H0 p = none
  | .par j o => ∃ p, v = some (.ref p) ∧ B p = none ∧ OwnIs T B H p o ∧ F.A0[j]? = some p
/-- no table of code objects -/
def NT (o : HO) : Prop := ∀ ps, o ≠ .tbl ps
/-- the tables that may grow: each code object that they tell is data and bears the name -/
def Tbs (T : Tab) (B H : Hp) : Prop := ∀ q ∈ T.tb, B q.1 = none ∧ ∃ ps : Array Value, H q.1 = some (.tbl ps) ∧ TriplesOk ps.toList ∧ ∀ (pos : Pos) (cv : Value), codeAmong pos ps.toList = some cv → ∃ c, cv = .ref c ∧ B c = some (LamX.CodeO c q.2)
theorem Tbs.write {T : Tab} {B H : Hp} (t : Tbs T B H) {p : Addr} {u : HO} (hp : ∀ ps, H p ≠ some (.tbl ps)) : Tbs T B (upd H p u) := fun q hq => by
  obtain ⟨b, ps, h, r⟩ := t q hq
  refine ⟨b, ps, ?_, r⟩
  rw [upd_ne fun z => hp ps (by rw [← z]; exact h)]
  exact h
theorem Tbs.data {T : Tab} {B H : Hp} (t : Tbs T B H) {p : Addr} {u : HO} (hp : ∀ ps, H p ≠ some (.tbl ps)) (bp : B p = none) : Tbs T (upd B p u) H := fun q hq => by
  obtain ⟨b, ps, h, h2, h3⟩ := t q hq
  refine ⟨?_, ps, h, h2, fun pos cv k => ?_⟩
  · rw [upd_ne fun z => hp ps (by rw [← z]; exact h)]
    exact b
  · obtain ⟨c, e1, e2⟩ := h3 pos cv k
    exact ⟨c, e1, by rw [upd_ne fun z => by rw [z, bp] at e2; cases e2]; exact e2⟩
theorem Tbs.swap {T : Tab} {B H : Hp} (t : Tbs T B H) {d : Addr} {u v w : HO} (hd : B d = some u) (n : ∀ q, u ≠ LamX.CodeO d q) : Tbs T (upd B d v) (upd H d w) := fun q hq => by
  obtain ⟨b, ps, h, h2, h3⟩ := t q hq
  have ne : q.1 ≠ d := fun z => by
    rw [z, hd] at b
    cases b
  refine ⟨by rw [upd_ne ne]; exact b, ps, by rw [upd_ne ne]; exact h, h2, fun pos cv k => ?_⟩
  obtain ⟨c, e1, e2⟩ := h3 pos cv k
  have nc : c ≠ d := fun z => by
    subst z
    rw [hd] at e2
    exact n q.2 (Option.some.inj e2)
  exact ⟨c, e1, by rw [upd_ne nc]; exact e2⟩
theorem none_nt {H : Hp} {p : Addr} (h : H p = none) : ∀ ps, H p ≠ some (.tbl ps) := fun ps z => by
  rw [h] at z
  cases z
theorem some_nt {H : Hp} {p : Addr} {u : HO} (h : H p = some u) (n : NT u) : ∀ ps, H p ≠ some (.tbl ps) := fun ps z => by
  rw [h] at z
  exact n ps (Option.some.inj z)
theorem nt_lst (xs : List V) : NT (.lst xs) := fun _ z => nomatch z
theorem nt_tup (xs : List V) : NT (.tup xs) := fun _ z => nomatch z
theorem nt_dK (xs : List (Key × V)) : NT (.dK xs) := fun _ z => nomatch z
theorem nt_xd (fs : List (Str × V)) : NT (.xd fs) := fun _ z => nomatch z
theorem nt_own (a : Addr) : NT (.own a) := fun _ z => nomatch z
theorem nt_ins (C dx : Addr) (fs : List (Str × V)) : NT (.ins C dx fs) := fun _ z => nomatch z
theorem nt_frz (o : Obj) (u : HO) : NT (.frz o u) := fun _ z => nomatch z
theorem nt_ext (φ : Heap → Prop) : NT (.ext φ) := fun _ z => nomatch z
theorem OwnIs.nt {T : Tab} {B H : Hp} {p : Addr} {w : Own} (h : OwnIs T B H p w) {u : HO} (e : H p = some u) : NT u := by
  cases w with
  | lst ds =>
    obtain ⟨vs, a, _⟩ := h
    rw [a] at e
    cases e
    exact nt_lst _
  | dct es =>
    obtain ⟨vs, a, _⟩ := h
    rw [a] at e
    cases e
    exact nt_dK _
  | obj c fs =>
    obtain ⟨dx, vs, a, _⟩ := h
    rw [a] at e
    cases e
    exact nt_ext _
structure Sta (T : Tab) (F : Fr) (B H : Hp) (σ : L2.St) (G : Lo) : Prop where
  bh : Same B H
  b0 : Same F.B0 B
  h0 : ∀ a o, F.H0 a = some o → NT o → a ∉ F.A0 → H a = some o
  a0 : ∀ a, a ∈ F.A0 → H a ≠ none
  nb : ∀ a, F.H0 a ≠ none → F.B0 a = none → B a = none
  len : σ.length = G.length
  sl : ∀ (i : Nat) (s : Slot), G[i]? = some s → SlotOk T F B H (σ[i]?).join s
  dj : ∀ (i j : Nat) (p : Addr), i ≠ j → OwnAt σ G i p → ¬ OwnAt σ G j p
  al : ∀ a, F.H0 a ≠ none → H a ≠ none
  tb : Tbs T B H
def OpdOk (T : Tab) (F : Fr) (B H : Hp) (σ : L2.St) (G : Lo) (v : V) : Opd → Prop
  | .imm d => Is T B v d
  | .own i => σ[i]? = some (some v)
  | .new o => ∃ p, v = .ref p ∧ B p = none ∧ OwnIs T B H p o ∧ F.H0 p = none ∧ ¬ Ownd σ G p
/-- what stood and is not the frame's own stands -/
structure Kp (B H : Hp) (σ : L2.St) (G : Lo) (B' H' : Hp) (G' : Lo) : Prop where
  b : Same B B'
  h : ∀ a o, H a = some o → NT o → ¬ Ownd σ G a → H' a = some o
  n : ∀ a, H a ≠ none → B a = none → ¬ Ownd σ G a → B' a = none
  g : ∀ p, Ownd σ G' p → Ownd σ G p
  t : ∀ a, H a ≠ none → H' a ≠ none

section
variable {T : Tab} {F : Fr} {B B' B1 B2 H H' H1 H2 : Hp} {σ : L2.St} {G G' G1 G2 : Lo} {v : V} {o : Opd}
theorem OwnIs.mono {p : Addr} {w : Own} (e : Same B B') (h : OwnIs T B H p w) (k : H' p = H p) : OwnIs T B' H' p w := by
  cases w with
  | lst ds =>
    obtain ⟨vs, a, b⟩ := h
    exact ⟨vs, k.trans a, b.mono e⟩
  | dct es =>
    obtain ⟨vs, a, b⟩ := h
    exact ⟨vs, k.trans a, b.mono e⟩
  | obj c fs =>
    obtain ⟨dx, vs, a, b, l⟩ := h
    exact ⟨dx, vs, k.trans a, e _ _ b, l.mono e⟩
theorem OwnIs.there {p : Addr} {w : Own} (h : OwnIs T B H p w) : ∃ o, H p = some o := by
  cases w with
  | lst ds =>
    obtain ⟨vs, a, b⟩ := h
    exact ⟨_, a⟩
  | dct es =>
    obtain ⟨vs, a, b⟩ := h
    exact ⟨_, a⟩
  | obj c fs =>
    obtain ⟨dx, vs, a, b, l⟩ := h
    exact ⟨_, a⟩
theorem Kp.refl : Kp B H σ G B H G := ⟨Same.refl _, fun _ _ h _ _ => h, fun _ _ h _ => h, fun _ h => h, fun _ h => h⟩
theorem Kp.trans (a : Kp B H σ G B1 H1 G1) (b : Kp B1 H1 σ G1 B2 H2 G2) : Kp B H σ G B2 H2 G2 :=
  ⟨a.b.trans b.b, fun x u h m n => b.h x u (a.h x u h m n) m fun z => n (a.g _ z), fun x h1 h2 h3 => b.n x (a.t x h1) (a.n x h1 h2 h3) fun z => h3 (a.g _ z), fun p h => a.g p (b.g p h), fun p h => b.t p (a.t p h)⟩
/-- an operand stands while others are read -/
theorem OpdOk.keep (h : OpdOk T F B H σ G v o) (k : Kp B H σ G B' H' G') : OpdOk T F B' H' σ G' v o := by
  cases o with
  | imm d => exact Is.mono k.b h
  | own i => exact h
  | new w =>
    obtain ⟨p, e, b, q, f, n⟩ := h
    obtain ⟨u, hu⟩ := q.there
    have hp := k.h p u hu (q.nt hu) n
    exact ⟨p, e, k.n p (by rw [hu]; exact fun z => nomatch z) b n, q.mono k.b (hp.trans hu.symm), f, fun z => n (k.g _ z)⟩

/-- what an operand is worth -/
@[simp ↓] def cont (G : Lo) : Opd → Option D
  | .imm d => some d
  | .own i => match G[i]? with
    | some (.own w) => w.d
    | some (.par _ w) => w.d
    | some (.imm d) => some d
    | _ => none
  | .new w => w.d

/-- what stands behind a value: scalars by themselves; a list, a tuple, a dict with data items in B -/
def See (T : Tab) (B H : Hp) (v : V) : D → Prop
  | .lst ds => ∃ a vs, v = .ref a ∧ H a = some (.lst vs) ∧ IsL T B vs ds
  | .tup ds => ∃ a vs, v = .ref a ∧ B a = some (.tup vs) ∧ IsL T B vs ds
  | .dct es => ∃ a kvs, v = .ref a ∧ Rd H a (.dK kvs) ∧ IsK T B kvs es
  | d => Is T B v d
theorem See.of (e : Same B H) {d : D} (h : Is T B v d) : See T B H v d := by
  cases h with
  | tup h l => exact ⟨_, _, rfl, h, l⟩
  | lst h l => exact ⟨_, _, rfl, e _ _ h, l⟩
  | dct h l => exact ⟨_, _, rfl, rd_mono e h, l⟩
  | scr h => exact .scr h
  | non => exact .non
  | bl b => exact .bl b
  | int i => exact .int i
  | str x => exact .str x
  | slt h hd l => exact .slt h hd l
  | ins h => exact .ins h
  | cls c => exact .cls c
  | ty n => exact .ty n
  | exc h hd l => exact .exc h hd l
theorem OwnIs.see {p : Addr} {w : Own} {d : D} (h : OwnIs T B H p w) (e : w.d = some d) : See T B H (.ref p) d := by
  cases w with
  | lst ds =>
    cases e
    obtain ⟨vs, a, b⟩ := h
    exact ⟨p, vs, rfl, a, b⟩
  | dct es =>
    cases e
    obtain ⟨vs, a, b⟩ := h
    exact ⟨p, vs, rfl, .inl a, b⟩
  | obj c fs => cases e
theorem join_some {i : Nat} {u : V} (h : (σ[i]?).join = some u) : σ[i]? = some (some u) := by
  cases e : σ[i]? with
  | none =>
    rw [e] at h
    cases h
  | some x =>
    rw [e] at h
    have h2 : x = some u := h
    rw [h2]
theorem Sta.see (S : Sta T F B H σ G) (h : OpdOk T F B H σ G v o) {d : D} (c : cont G o = some d) : See T B H v d := by
  cases o with
  | imm d' =>
    have e : d' = d := Option.some.inj c
    subst e
    exact See.of S.bh h
  | new w =>
    have e1 : w.d = some d := c
    obtain ⟨p, e, b, q, f, n⟩ := h
    subst e
    exact q.see e1
  | own i =>
    have h : σ[i]? = some (some v) := h
    have c1 : (match G[i]? with | some (.own w) => w.d | some (.par _ w) => w.d | some (.imm d) => some d | _ => none) = some d := c
    cases e : G[i]? with
    | none =>
      rw [e] at c1
      cases c1
    | some s =>
      rw [e] at c1
      have q := S.sl i s e
      rw [h] at q
      cases s with
      | no => cases c1
      | imm d' =>
        have e2 : d' = d := Option.some.inj c1
        subst e2
        obtain ⟨u, e3, q⟩ := q
        have e4 : v = u := Option.some.inj e3
        subst e4
        exact See.of S.bh q
      | own w =>
        have e2 : w.d = some d := c1
        obtain ⟨p, e3, _, q, _⟩ := q
        have e4 : v = .ref p := Option.some.inj e3
        subst e4
        exact q.see e2
      | par j w =>
        have e2 : w.d = some d := c1
        obtain ⟨p, e3, _, q, _⟩ := q
        have e4 : v = .ref p := Option.some.inj e3
        subst e4
        exact q.see e2
end

/-! ### expressions -/
def tG (X : Cx) (e : Expr) : TE := fun σ H Q => ∀ (pins : List (Addr × Obj)) (s : Shared), Inv X pins σ H s → wpAny (model X.prog X.w) X.A (eval e X.env) (EP X pins σ Q) X.xe s
def tGT (X : Cx) (e : Expr) : TT := fun σ H Q => ∀ (pins : List (Addr × Obj)) (s : Shared), Inv X pins σ H s → wpAny (model X.prog X.w) X.A (isTrue e X.env (eval e X.env)) (TP X pins σ Q) X.xe s
def tGA (X : Cx) (es : List Expr) : TA := fun σ H Q => ∀ (pos : Pos) (pins : List (Addr × Obj)) (s : Shared), Inv X pins σ H s → wpAny (model X.prog X.w) X.A (spliced (backTo pos (starEach es X.env))) (AP X pins σ Q) X.xe s
theorem pe_G (X : Cx) (e : Expr) : PE X e (tG X e) := ⟨fun pins s σ H Q I h => h pins s I⟩
theorem pt_G (X : Cx) (e : Expr) : PT X e (tGT X e) := ⟨fun pins s σ H Q I h => h pins s I⟩
theorem pa_G (X : Cx) (es : List Expr) : PA X es (tGA X es) := ⟨fun pos pins s σ H Q I h => h pos pins s I⟩
theorem tG_of {X : Cx} {e : Expr} {t : TE} (h : PE X e t) {σ : L2.St} {H : Hp} {Q : VK} (q : t σ H Q) : tG X e σ H Q := fun pins s I => h.run pins s σ H Q I q
theorem tGT_of {X : Cx} {e : Expr} {t : TT} (h : PT X e t) {σ : L2.St} {H : Hp} {Q : Bool → Hp → Prop} (q : t σ H Q) : tGT X e σ H Q := fun pins s I => h.run pins s σ H Q I q
theorem tGA_of {X : Cx} {es : List Expr} {t : TA} (h : PA X es t) {σ : L2.St} {H : Hp} {Q : List V → Hp → Prop} (q : t σ H Q) : tGA X es σ H Q := fun pos pins s I => h.run pos pins s σ H Q I q
theorem tG_mono {X : Cx} {e : Expr} {σ : L2.St} {H : Hp} {Q Q' : VK} (h : tG X e σ H Q) (k : ∀ v H, Q v H → Q' v H) : tG X e σ H Q' := fun pins s I =>
  thn (h pins s I) fun u s1 ⟨v, H1, I1, r, q⟩ => ⟨v, H1, I1, r, k v H1 q⟩
theorem tGT_mono {X : Cx} {e : Expr} {σ : L2.St} {H : Hp} {Q Q' : Bool → Hp → Prop} (h : tGT X e σ H Q) (k : ∀ v H, Q v H → Q' v H) : tGT X e σ H Q' := fun pins s I =>
  thn (h pins s I) fun u s1 ⟨H1, I1, q⟩ => ⟨H1, I1, k _ H1 q⟩
theorem tGA_mono {X : Cx} {es : List Expr} {σ : L2.St} {H : Hp} {Q Q' : List V → Hp → Prop} (h : tGA X es σ H Q) (k : ∀ v H, Q v H → Q' v H) : tGA X es σ H Q' := fun pos pins s I =>
  thn (h pos pins s I) fun u s1 ⟨v, H1, I1, r, q⟩ => ⟨v, H1, I1, r, k v H1 q⟩

/-- readings over locals as data -/
abbrev RE := Lo → (Opd → Lo → Prop) → Prop
abbrev RT := Lo → (Bool → Lo → Prop) → Prop
abbrev RA := Lo → (List Opd → Lo → Prop) → Prop

/-- a new object is new -/
def Nw (H : Hp) (v : V) (o : Opd) : Prop := ∀ p w, o = .new w → v = .ref p → H p = none
def Post (T : Tab) (F : Fr) (B H : Hp) (σ : L2.St) (G : Lo) (K : Opd → Lo → Prop) : VK := fun v H' => ∃ B' o G', Sta T F B' H' σ G' ∧ Kp B H σ G B' H' G' ∧ OpdOk T F B' H' σ G' v o ∧ Nw H v o ∧ K o G'
def PostT (T : Tab) (F : Fr) (B H : Hp) (σ : L2.St) (G : Lo) (K : Bool → Lo → Prop) : Bool → Hp → Prop := fun b H' => ∃ B' G', Sta T F B' H' σ G' ∧ Kp B H σ G B' H' G' ∧ K b G'
inductive OpdsOk (T : Tab) (F : Fr) (B H : Hp) (σ : L2.St) (G : Lo) : List V → List Opd → Prop
  | nil : OpdsOk T F B H σ G [] []
  | cons {v : V} {o : Opd} {vs : List V} {os : List Opd} (h : OpdOk T F B H σ G v o) (t : OpdsOk T F B H σ G vs os) : OpdsOk T F B H σ G (v :: vs) (o :: os)
def PostA (T : Tab) (F : Fr) (B H : Hp) (σ : L2.St) (G : Lo) (K : List Opd → Lo → Prop) : List V → Hp → Prop := fun vs H' => ∃ B' os G', Sta T F B' H' σ G' ∧ Kp B H σ G B' H' G' ∧ OpdsOk T F B' H' σ G' vs os ∧ K os G'

/-- e reads as t says -/
structure PD (X : Cx) (T : Tab) (F : Fr) (e : Expr) (t : RE) : Prop where
  run : X.K = T.K → X.calm = true → ∀ (B H : Hp) (σ : L2.St) (G : Lo) (K : Opd → Lo → Prop), Sta T F B H σ G → t G K → tG X e σ H (Post T F B H σ G K)
structure PDT (X : Cx) (T : Tab) (F : Fr) (e : Expr) (t : RT) : Prop where
  run : X.K = T.K → X.calm = true → ∀ (B H : Hp) (σ : L2.St) (G : Lo) (K : Bool → Lo → Prop), Sta T F B H σ G → t G K → tGT X e σ H (PostT T F B H σ G K)
structure PDA (X : Cx) (T : Tab) (F : Fr) (es : List Expr) (t : RA) : Prop where
  run : X.K = T.K → X.calm = true → ∀ (B H : Hp) (σ : L2.St) (G : Lo) (K : List Opd → Lo → Prop), Sta T F B H σ G → t G K → tGA X es σ H (PostA T F B H σ G K)

section
variable {X : Cx} {T : Tab} {F : Fr} {B B' H H' : Hp} {σ : L2.St} {G G' : Lo} {K : Opd → Lo → Prop} {v : V}
theorem Nw.imm {d : D} : Nw H v (.imm d) := fun _ _ e => nomatch e
theorem Nw.own {i : Nat} : Nw H v (.own i) := fun _ _ e => nomatch e
theorem Post.own {i : Nat} (S : Sta T F B H σ G) (h : σ[i]? = some (some v)) (k : K (.own i) G) : Post T F B H σ G K v H := ⟨B, .own i, G, S, Kp.refl, h, Nw.own, k⟩
theorem Post.imm {d : D} (S : Sta T F B H σ G) (h : Is T B v d) (k : K (.imm d) G) : Post T F B H σ G K v H := ⟨B, .imm d, G, S, Kp.refl, h, Nw.imm, k⟩
theorem Post.more {H1 B1 : Hp} {G1 : Lo} (k : Kp B H σ G B1 H1 G1) (h : Post T F B1 H1 σ G1 K v H') : Post T F B H σ G K v H' := by
  obtain ⟨B', o, G', S, k2, a, n, b⟩ := h
  exact ⟨B', o, G', S, k.trans k2, a, fun p w e1 e2 => by
    cases e : H p with
    | none => rfl
    | some u => exact absurd (n p w e1 e2) (k.t p (by rw [e]; exact fun z => nomatch z)), b⟩
theorem PostT.more {K : Bool → Lo → Prop} {b : Bool} {H1 B1 : Hp} {G1 : Lo} (k : Kp B H σ G B1 H1 G1) (h : PostT T F B1 H1 σ G1 K b H') : PostT T F B H σ G K b H' := by
  obtain ⟨B', G', S, k2, a⟩ := h
  exact ⟨B', G', S, k.trans k2, a⟩
theorem PostA.more {K : List Opd → Lo → Prop} {vs : List V} {H1 B1 : Hp} {G1 : Lo} (k : Kp B H σ G B1 H1 G1) (h : PostA T F B1 H1 σ G1 K vs H') : PostA T F B H σ G K vs H' := by
  obtain ⟨B', o, G', S, k2, a, b⟩ := h
  exact ⟨B', o, G', S, k.trans k2, a, b⟩

theorem Sta.alive (S : Sta T F B H σ G) {p : Addr} (h : F.H0 p ≠ none) : H p ≠ none := S.al p h
theorem same_upd {H : Hp} {p : Addr} {u : HO} (hp : H p = none) : Same H (upd H p u) := fun a o e => by
  rw [upd_ne (ne_of_none e hp)]
  exact e
theorem there_upd {H : Hp} {p a : Addr} {u : HO} (h : H a ≠ none) : upd H p u a ≠ none := by
  by_cases q : a = p
  · rw [q, upd_same]
    exact fun z => nomatch z
  · rw [upd_ne q]
    exact h
theorem SlotOk.mono {s : Slot} {w : Option V} (e : Same B B') (h : SlotOk T F B H w s) (k : ∀ p, w = some (.ref p) → B p = none → H p ≠ none → H' p = H p ∧ B' p = none) : SlotOk T F B' H' w s := by
  cases s with
  | no => exact trivial
  | imm d =>
    obtain ⟨x, q1, q2⟩ := h
    exact ⟨x, q1, q2.mono e⟩
  | own w =>
    obtain ⟨a, q1, q2, q3, q4⟩ := h
    obtain ⟨y, hy⟩ := q3.there
    obtain ⟨k1, k2⟩ := k a q1 q2 (by rw [hy]; exact fun z => nomatch z)
    exact ⟨a, q1, k2, q3.mono e k1, q4⟩
  | par j w =>
    obtain ⟨a, q1, q2, q3, q4⟩ := h
    obtain ⟨y, hy⟩ := q3.there
    obtain ⟨k1, k2⟩ := k a q1 q2 (by rw [hy]; exact fun z => nomatch z)
    exact ⟨a, q1, k2, q3.mono e k1, q4⟩
/-- a new object that is data at once -/
theorem Sta.fresh (S : Sta T F B H σ G) {p : Addr} {u : HO} (hp : H p = none) : Sta T F (upd B p u) (upd H p u) σ G := by
  have bp : B p = none := S.bh.free hp
  have e1 : Same B (upd B p u) := same_upd bp
  refine ⟨fun a o e => ?_, fun a o e => e1 _ _ (S.b0 a o e), fun a o e m n => same_upd hp _ _ (S.h0 a o e m n), fun a h => ?_, fun a h1 h2 => ?_, S.len, fun i s e => (S.sl i s e).mono e1 fun q _ hb hh => ?_, S.dj, fun a h => there_upd (S.al a h), (S.tb.data (none_nt hp) bp).write (none_nt hp)⟩
  · by_cases q : a = p
    · subst q
      rw [upd_same] at e ⊢
      exact e
    · rw [upd_ne q] at e ⊢
      exact S.bh a o e
  · have z := S.a0 a h
    rw [upd_ne (fun q => z (by rw [q]; exact hp))]
    exact z
  · have z := S.nb a h1 h2
    rw [upd_ne (fun q => S.alive h1 (by rw [q]; exact hp))]
    exact z
  · have ne : q ≠ p := fun z => hh (by rw [z]; exact hp)
    exact ⟨upd_ne ne, by rw [upd_ne ne]; exact hb⟩
theorem Kp.fresh {p : Addr} {u : HO} (S : Sta T F B H σ G) (hp : H p = none) : Kp B H σ G (upd B p u) (upd H p u) G :=
  ⟨same_upd (S.bh.free hp), fun a o e _ _ => same_upd hp _ _ e, fun a h1 h2 _ => by rw [upd_ne (fun q => h1 (by rw [q]; exact hp))]; exact h2, fun _ h => h, fun a h => by rw [upd_ne (fun q => h (by rw [q]; exact hp))]; exact h⟩
/-- a new object that is not data (yet) -/
theorem Sta.freshN (S : Sta T F B H σ G) {p : Addr} {u : HO} (hp : H p = none) : Sta T F B (upd H p u) σ G := by
  refine ⟨fun a o e => same_upd hp _ _ (S.bh a o e), S.b0, fun a o e m n => same_upd hp _ _ (S.h0 a o e m n), fun a h => ?_, S.nb, S.len, fun i s e => (S.sl i s e).mono (Same.refl _) fun q _ hb hh => ?_, S.dj, fun a h => there_upd (S.al a h), S.tb.write (none_nt hp)⟩
  · have z := S.a0 a h
    rw [upd_ne (fun q => z (by rw [q]; exact hp))]
    exact z
  · have ne : q ≠ p := fun z => hh (by rw [z]; exact hp)
    exact ⟨upd_ne ne, hb⟩
theorem Kp.freshN {p : Addr} {u : HO} (hp : H p = none) : Kp B H σ G B (upd H p u) G :=
  ⟨Same.refl _, fun a o e _ _ => same_upd hp _ _ e, fun a h1 h2 _ => h2, fun _ h => h, fun a h => by rw [upd_ne (fun q => h (by rw [q]; exact hp))]; exact h⟩
theorem Sta.notOwn (S : Sta T F B H σ G) {p : Addr} (hp : H p = none) : ¬ Ownd σ G p := by
  rintro ⟨i, h1, w, h2⟩
  have key : ∃ s, G[i]? = some s ∧ (s = .own w ∨ ∃ j, s = .par j w) := by
    rcases h2 with h2 | ⟨j, h2⟩
    · exact ⟨_, h2, .inl rfl⟩
    · exact ⟨_, h2, .inr ⟨j, rfl⟩⟩
  obtain ⟨s, e, hs⟩ := key
  have q := S.sl i s e
  rw [h1] at q
  rcases hs with rfl | ⟨j, rfl⟩ <;>
  · obtain ⟨a, q1, _, q3, _⟩ := q
    have e2 : V.ref p = V.ref a := Option.some.inj q1
    injection e2 with e2
    subst e2
    obtain ⟨y, hy⟩ := q3.there
    rw [hp] at hy
    cases hy
/-- what comes new: as data; as something of the frame's own -/
theorem Post.new {p : Addr} {u : HO} {d : D} (S : Sta T F B H σ G) (hp : H p = none) (h : Is T (upd B p u) (.ref p) d) (k : K (.imm d) G) : Post T F B H σ G K (.ref p) (upd H p u) :=
  ⟨_, .imm d, _, S.fresh hp, Kp.fresh S hp, h, Nw.imm, k⟩
theorem Post.newL {p : Addr} {vs : List V} {ds : List D} (S : Sta T F B H σ G) (hp : H p = none) (h : IsL T B vs ds) (k : K (.new (.lst ds)) G) : Post T F B H σ G K (.ref p) (upd H p (.lst vs)) :=
  ⟨B, .new (.lst ds), _, S.freshN hp, Kp.freshN hp, ⟨p, rfl, S.bh.free hp, ⟨vs, upd_same, h⟩, by
    cases e : F.H0 p with
    | none => rfl
    | some o => exact absurd hp (S.alive (by rw [e]; exact fun z => nomatch z)), S.notOwn hp⟩, fun q w _ e => by
    cases e
    exact hp, k⟩
theorem Post.newD {p : Addr} {vs : List (Key × V)} {ds : List (Key × D)} (S : Sta T F B H σ G) (hp : H p = none) (h : IsK T B vs ds) (k : K (.new (.dct ds)) G) : Post T F B H σ G K (.ref p) (upd H p (.dK vs)) :=
  ⟨B, .new (.dct ds), _, S.freshN hp, Kp.freshN hp, ⟨p, rfl, S.bh.free hp, ⟨vs, upd_same, h⟩, by
    cases e : F.H0 p with
    | none => rfl
    | some o => exact absurd hp (S.alive (by rw [e]; exact fun z => nomatch z)), S.notOwn hp⟩, fun q w _ e => by
    cases e
    exact hp, k⟩

/-- as data: what the frame's own holds is not changed any more -/
@[simp ↓] def frz1 (G : Lo) : Opd → Option (D × Lo)
  | .imm d => some (d, G)
  | .own i => match G[i]? with
    | some (.own w) => w.z.map fun d => (d, G.set i (.imm d))
    | some (.imm d) => some (d, G)
    | _ => none
  | .new w => w.z.map fun d => (d, G)
theorem OwnIs.frz {p : Addr} {w : Own} {d : D} (h : OwnIs T B H p w) (bp : B p = none) (e : w.z = some d) : ∃ u, H p = some u ∧ NT u ∧ Is T (upd B p u) (.ref p) d := by
  cases w with
  | lst ds =>
    cases e
    obtain ⟨vs, a, b⟩ := h
    exact ⟨_, a, nt_lst _, .lst upd_same (b.mono (same_upd bp))⟩
  | dct es =>
    cases e
    obtain ⟨vs, a, b⟩ := h
    exact ⟨_, a, nt_dK _, .dct (.inl upd_same) (b.mono (same_upd bp))⟩
  | obj c fs =>
    have e1 : (allD fs).map (.slt c) = some d := e
    cases e2 : allD fs with
    | none =>
      rw [e2] at e1
      cases e1
    | some ds =>
      rw [e2] at e1
      cases e1
      obtain ⟨dx, vs, a, b, l⟩ := h
      obtain ⟨ws, rfl, l2⟩ := l.all e2
      exact ⟨_, a, nt_ext _, .slt upd_same (same_upd bp _ _ b) (l2.mono (same_upd bp))⟩
/-- an object that is nobody's becomes data -/
theorem Sta.take (S : Sta T F B H σ G) {p : Addr} {u : HO} (bp : B p = none) (hp : H p = some u) (nt : NT u) (f : F.H0 p = none) (n : ¬ Ownd σ G p) : Sta T F (upd B p u) H σ G := by
  have e1 : Same B (upd B p u) := same_upd bp
  refine ⟨fun a o e => ?_, fun a o e => e1 _ _ (S.b0 a o e), S.h0, S.a0, fun a h1 h2 => ?_, S.len, fun i s e => ?_, S.dj, S.al, S.tb.data (some_nt hp nt) bp⟩
  · by_cases q : a = p
    · subst q
      rw [upd_same] at e
      rw [← e]
      exact hp
    · rw [upd_ne q] at e
      exact S.bh a o e
  · rw [upd_ne (fun q => h1 (by rw [q]; exact f))]
    exact S.nb a h1 h2
  · have q := S.sl i s e
    cases s with
    | no => exact trivial
    | imm d =>
      obtain ⟨x, q1, q2⟩ := q
      exact ⟨x, q1, q2.mono e1⟩
    | own w =>
      obtain ⟨a, q1, q2, q3, q4⟩ := q
      have ne : a ≠ p := fun z => n ⟨i, by rw [← z]; exact join_some q1, w, .inl e⟩
      exact ⟨a, q1, by rw [upd_ne ne]; exact q2, q3.mono e1 rfl, q4⟩
    | par j w =>
      obtain ⟨a, q1, q2, q3, q4⟩ := q
      have ne : a ≠ p := fun z => n ⟨i, by rw [← z]; exact join_some q1, w, .inr ⟨j, e⟩⟩
      exact ⟨a, q1, by rw [upd_ne ne]; exact q2, q3.mono e1 rfl, q4⟩
/-- what a local's slot is told to be otherwise -/
theorem ownat_set {i j : Nat} {d : D} {p : Addr} (h : OwnAt σ (G.set i (.imm d)) j p) : j ≠ i ∧ OwnAt σ G j p := by
  obtain ⟨h1, w, h2⟩ := h
  have key : ∀ s, (G.set i (.imm d))[j]? = some s → (∀ d, s ≠ .imm d) → j ≠ i ∧ G[j]? = some s := fun s e ne => by
    by_cases z : j = i
    · subst z
      by_cases hl : j < G.length
      · rw [List.getElem?_set_self hl] at e
        exact absurd (Option.some.inj e).symm (ne d)
      · rw [List.getElem?_eq_none_iff.mpr (by rw [List.length_set]; omega)] at e
        cases e
    · rw [List.getElem?_set_ne (Ne.symm z)] at e
      exact ⟨z, e⟩
  rcases h2 with h2 | ⟨k, h2⟩
  · obtain ⟨z, q⟩ := key _ h2 (fun _ z => nomatch z)
    exact ⟨z, h1, w, .inl q⟩
  · obtain ⟨z, q⟩ := key _ h2 (fun _ z => nomatch z)
    exact ⟨z, h1, w, .inr ⟨k, q⟩⟩
theorem ownd_set {i : Nat} {d : D} {p : Addr} (h : Ownd σ (G.set i (.imm d)) p) : ∃ j, j ≠ i ∧ OwnAt σ G j p := by
  obtain ⟨j, h⟩ := h
  exact ⟨j, ownat_set h⟩
theorem Sta.drop (S : Sta T F B H σ G) {i : Nat} {d : D} {v : V} (hv : σ[i]? = some (some v)) (h : Is T B v d) : Sta T F B H σ (G.set i (.imm d)) := by
  refine ⟨S.bh, S.b0, S.h0, S.a0, S.nb, by rw [List.length_set]; exact S.len, fun j s e => ?_, fun j k p ne h1 h2 => ?_, S.al, S.tb⟩
  · by_cases z : j = i
    · subst z
      by_cases hl : j < G.length
      · rw [List.getElem?_set_self hl] at e
        have e2 : Slot.imm d = s := Option.some.inj e
        subst e2
        exact ⟨v, by rw [hv]; rfl, h⟩
      · rw [List.getElem?_eq_none_iff.mpr (by rw [List.length_set]; omega)] at e
        cases e
    · rw [List.getElem?_set_ne (Ne.symm z)] at e
      exact S.sl j s e
  · exact S.dj j k p ne (ownat_set h1).2 (ownat_set h2).2
theorem frz_ok {B1 H1 : Hp} {G1 G2 : Lo} {o : Opd} {d : D} (k : Kp B H σ G B1 H1 G1) (S : Sta T F B1 H1 σ G1) (h : OpdOk T F B1 H1 σ G1 v o) (n : Nw H v o) (e : frz1 G1 o = some (d, G2)) :
    ∃ B2, Sta T F B2 H1 σ G2 ∧ Kp B H σ G B2 H1 G2 ∧ Is T B2 v d := by
  cases o with
  | imm d' =>
    have e2 : (d', G1) = (d, G2) := Option.some.inj e
    cases e2
    exact ⟨B1, S, k, h⟩
  | new w =>
    have e2 : w.z.map (fun d => (d, G1)) = some (d, G2) := e
    obtain ⟨d', ez, e2⟩ := Option.map_eq_some_iff.mp e2
    cases e2
    obtain ⟨p, e3, bp, q, f, m⟩ := h
    subst e3
    obtain ⟨u, hu, nt, hi⟩ := q.frz bp ez
    have hn := n p w rfl rfl
    have e1 : Same B1 (upd B1 p u) := same_upd bp
    refine ⟨_, S.take bp hu nt f m, ⟨k.b.trans e1, k.h, fun a h1 h2 h3 => ?_, k.g, k.t⟩, hi⟩
    rw [upd_ne (fun z => h1 (by rw [z]; exact hn))]
    exact k.n a h1 h2 h3
  | own i =>
    have h : σ[i]? = some (some v) := h
    have c1 : (match G1[i]? with | some (.own w) => w.z.map fun d => (d, G1.set i (.imm d)) | some (.imm d) => some (d, G1) | _ => none) = some (d, G2) := e
    cases eg : G1[i]? with
    | none =>
      rw [eg] at c1
      cases c1
    | some s =>
      rw [eg] at c1
      have q := S.sl i s eg
      rw [h] at q
      cases s with
      | no => cases c1
      | par j w => cases c1
      | imm d' =>
        have e2 : (d', G1) = (d, G2) := Option.some.inj c1
        cases e2
        obtain ⟨u, e3, q⟩ := q
        have e4 : v = u := Option.some.inj e3
        subst e4
        exact ⟨B1, S, k, q⟩
      | own w =>
        obtain ⟨d', ez, e2⟩ := Option.map_eq_some_iff.mp c1
        cases e2
        obtain ⟨p, e3, bp, q, f⟩ := q
        have e4 : v = .ref p := Option.some.inj e3
        subst e4
        obtain ⟨u, hu, nt, hi⟩ := q.frz bp ez
        have me : OwnAt σ G1 i p := ⟨h, w, .inl eg⟩
        have e1 : Same B1 (upd B1 p u) := same_upd bp
        have noti : ¬ Ownd σ (G1.set i (.imm d)) p := fun z => by
          obtain ⟨j, ne, z⟩ := ownd_set z
          exact S.dj j i p ne z me
        have S2 : Sta T F (upd B1 p u) H1 σ (G1.set i (.imm d)) := by
          refine ⟨fun a o e => ?_, fun a o e => e1 _ _ (S.b0 a o e), S.h0, S.a0, fun a h1 h2 => ?_, by rw [List.length_set]; exact S.len, fun j s e => ?_, fun j l x ne h1 h2 => ?_, S.al, S.tb.data (some_nt hu nt) bp⟩
          · by_cases q : a = p
            · subst q
              rw [upd_same] at e
              rw [← e]
              exact hu
            · rw [upd_ne q] at e
              exact S.bh a o e
          · rw [upd_ne (fun q => h1 (by rw [q]; exact f))]
            exact S.nb a h1 h2
          · by_cases z : j = i
            · subst z
              have hl : j < G1.length := (List.getElem?_eq_some_iff.mp eg).1
              rw [List.getElem?_set_self hl] at e
              have e5 : Slot.imm d = s := Option.some.inj e
              subst e5
              exact ⟨.ref p, by rw [h]; rfl, hi⟩
            · rw [List.getElem?_set_ne (Ne.symm z)] at e
              have q := S.sl j s e
              cases s with
              | no => exact trivial
              | imm d =>
                obtain ⟨x, q1, q2⟩ := q
                exact ⟨x, q1, q2.mono e1⟩
              | own w' =>
                obtain ⟨a, q1, q2, q3, q4⟩ := q
                have ne : a ≠ p := fun y => S.dj j i p z ⟨by rw [← y]; exact join_some q1, w', .inl e⟩ me
                exact ⟨a, q1, by rw [upd_ne ne]; exact q2, q3.mono e1 rfl, q4⟩
              | par j' w' =>
                obtain ⟨a, q1, q2, q3, q4⟩ := q
                have ne : a ≠ p := fun y => S.dj j i p z ⟨by rw [← y]; exact join_some q1, w', .inr ⟨j', e⟩⟩ me
                exact ⟨a, q1, by rw [upd_ne ne]; exact q2, q3.mono e1 rfl, q4⟩
          · exact S.dj j l x ne (ownat_set h1).2 (ownat_set h2).2
        refine ⟨_, S2, ⟨k.b.trans e1, k.h, fun a h1 h2 h3 => ?_, fun x z => ?_, k.t⟩, hi⟩
        · by_cases y : a = p
          · subst y
            exact absurd (k.g _ ⟨i, me⟩) h3
          · rw [upd_ne y]
            exact k.n a h1 h2 h3
        · obtain ⟨j, _, z⟩ := ownd_set z
          exact k.g _ ⟨j, z⟩
end
end Fx
end
section
set_option Elab.async false
set_option linter.all false
set_option maxRecDepth 100000
set_option maxHeartbeats 2000000
/-! Fx2: names, constants, operators, tests -/
namespace Fx
open PySem PySem.Spec PyProof.Rows L2

section
variable {X : Cx} {T : Tab} {F : Fr} {a b c e : Expr} {es : List Expr} {pos : Pos} {ta tb tc te : RE} {tt tu : RT} {tr : RA}

/-! ### names, constants -/
@[simp ↓] def tVar (i : Nat) : RE := fun G K => match G[i]? with
  | some (.imm d) => K (.imm d) G
  | some (.own _) => K (.own i) G
  | some (.par _ _) => K (.own i) G
  | _ => False
@[simp ↓] def tC (d : D) : RE := fun G K => K (.imm d) G
theorem pd_var (i : Nat) {x : Str} (hN : X.N[i]? = some x := by rfl) (hv : Vis X.env.scope x := by first | exact Or.inl rfl | exact Or.inr (Or.inl rfl) | exact Or.inr (Or.inr rfl)) (hd : (x == ("__debug__" : Str)) = false := by decide)
    (hcd : (x == ("__classdict__" : Str)) = false := by decide) : PD X T F (.Name x pos) (tVar i) := by
  refine ⟨fun hK hc B H σ G K S h => tG_of (pe_var (i := i) hN hv hd hcd) ?_⟩
  unfold tVar at h
  cases e : G[i]? with
  | none =>
    rw [e] at h
    exact h.elim
  | some s =>
    rw [e] at h
    have q := S.sl i s e
    cases s with
    | no => exact h.elim
    | imm d =>
      obtain ⟨u, e1, e2⟩ := q
      exact ⟨u, join_some e1, Post.imm S e2 h⟩
    | own w =>
      obtain ⟨u, e1, _⟩ := q
      exact ⟨_, join_some e1, Post.own S (join_some e1) h⟩
    | par j w =>
      obtain ⟨u, e1, _⟩ := q
      exact ⟨_, join_some e1, Post.own S (join_some e1) h⟩
theorem pd_int {i : Int} {j} : PD X T F (.Constant (.int i) j pos) (tC (.int i)) := ⟨fun hK hc B H σ G K S h => tG_of pe_int (Post.imm S (.int i) h)⟩
theorem pd_bl {i : Bool} {j} : PD X T F (.Constant (.bool i) j pos) (tC (.bl i)) := ⟨fun hK hc B H σ G K S h => tG_of pe_bl (Post.imm S (.bl i) h)⟩
theorem pd_non {j} : PD X T F (.Constant .none j pos) (tC .non) := ⟨fun hK hc B H σ G K S h => tG_of pe_non (Post.imm S .non h)⟩
theorem pd_str {i : Str} {j} : PD X T F (.Constant (.str i) j pos) (tC (.str i)) := ⟨fun hK hc B H σ G K S h => tG_of pe_str (Post.imm S (.str i) h)⟩
/-- a module's constant -/
theorem pd_gstr {x : Str} {i : Str} {t : Tok} (hm : X.mg x = some (.str i t)) (hg : Gl X x := by rfl) (hd : (x == ("__debug__" : Str)) = false := by decide) : PD X T F (.Name x pos) (tC (.str i)) :=
  ⟨fun hK hc B H σ G K S h => tG_of (pe_glob (v := .str i) hg hm ⟨_, rfl⟩ hd) (Post.imm S (.str i) h)⟩
theorem pd_gint {x : Str} {i : Int} {t : Tok} (hm : X.mg x = some (.int i t)) (hg : Gl X x := by rfl) (hd : (x == ("__debug__" : Str)) = false := by decide) : PD X T F (.Name x pos) (tC (.int i)) :=
  ⟨fun hK hc B H σ G K S h => tG_of (pe_glob (v := .int i) hg hm ⟨_, rfl⟩ hd) (Post.imm S (.int i) h)⟩

/-! ### two operands -/
abbrev G2 := Lo → Opd → Opd → (Opd → Lo → Prop) → Prop
/-- a two-place operation on values reads as g -/
def OpD (X : Cx) (T : Tab) (F : Fr) (f : Value → Value → Sem Value) (g : G2) : Prop :=
  X.K = T.K → X.calm = true → ∃ r : R2, OpR X f r ∧ ∀ (B H : Hp) (σ : L2.St) (G : Lo) (x y : V) (o p : Opd) (K : Opd → Lo → Prop) (Q : VK), Sta T F B H σ G → OpdOk T F B H σ G x o → OpdOk T F B H σ G y p → g G o p K →
    (∀ v H', Post T F B H σ G K v H' → Q v H') → r x y H Q
@[simp ↓] def tBin (g : G2) (ta tb : RE) : RE := fun G K => ta G fun o G1 => tb G1 fun p G2 => g G2 o p K
theorem run2 {g : G2} (hK : X.K = T.K) (hc : X.calm = true) (ha : PD X T F a ta) (hb : PD X T F b tb) {B H : Hp} {σ : L2.St} {G : Lo} {K : Opd → Lo → Prop} {R : V → V → Hp → Prop} (S : Sta T F B H σ G) (h : tBin g ta tb G K)
    (hr : ∀ (B1 H1 : Hp) (G1 : Lo) (x y : V) (o p : Opd), Sta T F B1 H1 σ G1 → Kp B H σ G B1 H1 G1 → OpdOk T F B1 H1 σ G1 x o → OpdOk T F B1 H1 σ G1 y p → g G1 o p K → R x y H1) :
    tG X a σ H fun x H1 => tG X b σ H1 fun y H2 => R x y H2 := by
  refine tG_mono (ha.run hK hc B H σ G _ S h) fun x H1 ⟨B1, o, G1, S1, k1, h1, _, q⟩ => ?_
  refine tG_mono (hb.run hK hc B1 H1 σ G1 _ S1 q) fun y H2 ⟨B2, p, G2, S2, k2, h2, _, q2⟩ => ?_
  exact hr B2 H2 G2 x y o p S2 (k1.trans k2) (h1.keep k2) h2 q2
theorem pd_bin {op : Operator} {g : G2} (ho : OpD X T F (binaryOp op) g) (ha : PD X T F a ta) (hb : PD X T F b tb) : PD X T F (.BinOp a op b pos) (tBin g ta tb) := by
  refine ⟨fun hK hc B H σ G K S h => ?_⟩
  obtain ⟨r, hr, q⟩ := ho hK hc
  exact tG_of (pe_op hr (pe_G X a) (pe_G X b)) (run2 (R := fun x y H1 => r x y H1 (Post T F B H σ G K)) hK hc ha hb S h fun B1 H1 G1 x y o p S1 k1 h1 h2 z => q _ _ _ _ _ _ _ _ K _ S1 h1 h2 z fun v H' => Post.more k1)
theorem pd_cmp {op : CmpOp} {g : G2} (ho : OpD X T F (compareOp op) g) (ha : PD X T F a ta) (hb : PD X T F b tb) (hm : behindInMarks op b = false := by first | exact nomark _ | rfl) : PD X T F (.Compare a [op] [b] pos) (tBin g ta tb) := by
  refine ⟨fun hK hc B H σ G K S h => ?_⟩
  obtain ⟨r, hr, q⟩ := ho hK hc
  exact tG_of (pe_cmpR hr (pe_G X a) (pe_G X b) hm) (run2 (R := fun x y H1 => r x y H1 (Post T F B H σ G K)) hK hc ha hb S h fun B1 H1 G1 x y o p S1 k1 h1 h2 z => q _ _ _ _ _ _ _ _ K _ S1 h1 h2 z fun v H' => Post.more k1)
/-- an expression whose value is a bool, as a test -/
@[simp ↓] def tTst (t : RE) : RT := fun G K => t G fun o G1 => match o with
  | .imm (.bl c) => K c G1
  | _ => False
theorem pdt_cmp {op : CmpOp} {g : G2} (ho : OpD X T F (compareOp op) g) (ha : PD X T F a ta) (hb : PD X T F b tb) (hm : behindInMarks op b = false := by first | exact nomark _ | rfl) : PDT X T F (.Compare a [op] [b] pos) (tTst (tBin g ta tb)) := by
  refine ⟨fun hK hc B H σ G K S h => ?_⟩
  obtain ⟨r, hr, q⟩ := ho hK hc
  refine tGT_of (pt_cmpR hr (pe_G X a) (pe_G X b) hm) (run2 (R := fun x y H1 => r x y H1 fun x H' => ∃ k, x = .bl k ∧ PostT T F B H σ G K k H') hK hc ha hb S h fun B1 H1 G1 x y o p S1 k1 h1 h2 z => q _ _ _ _ _ _ _ _ _ _ S1 h1 h2 z fun v H' hp => ?_)
  obtain ⟨B', o, G', S', k2, w, _, k⟩ := hp
  cases o with
  | imm d =>
    cases d with
    | bl c =>
      cases w
      exact ⟨c, rfl, PostT.more k1 ⟨B', G', S', k2, k⟩⟩
    | _ => exact k.elim
  | _ => exact k.elim
theorem pdt_val (h : PD X T F e te) (he : ∀ whole, isTrue e X.env whole = (do let v ← whole; standAt e.pos; holding [v] (truthy v)) := by intro _; rfl) : PDT X T F e (tTst te) := by
  refine ⟨fun hK hc B H σ G K S q => ?_⟩
  refine tGT_of (pt_val (pe_G X e) he) (tG_mono (h.run hK hc B H σ G _ S q) fun v H' hp => ?_)
  obtain ⟨B', o, G', S', k2, w, _, k⟩ := hp
  cases o with
  | imm d =>
    cases d with
    | bl c =>
      cases w
      exact ⟨c, rfl, ⟨B', G', S', k2, k⟩⟩
    | _ => exact k.elim
  | _ => exact k.elim

/-! ### and, or, not, if -/
@[simp ↓] def tAnd (t u : RT) : RT := fun G K => t G fun b G1 => if b = true then u G1 K else K false G1
@[simp ↓] def tOr (t u : RT) : RT := fun G K => t G fun b G1 => if b = true then K true G1 else u G1 K
@[simp ↓] def tNot (t : RT) : RT := fun G K => t G fun b G1 => K (!b) G1
structure PDW (X : Cx) (T : Tab) (F : Fr) (e : Expr) (t : RT) : Prop where
  run : X.K = T.K → X.calm = true → ∀ (B H : Hp) (σ : L2.St) (G : Lo) (K : Bool → Lo → Prop), Sta T F B H σ G → t G K → ∃ tt, PW X e tt ∧ ∀ Q : Bool → Hp → Prop, (∀ b H', PostT T F B H σ G K b H' → Q b H') → tt σ H Q
def tGW (X : Cx) (e : Expr) : TT := fun σ H Q => ∀ (whole : Sem Value) (pins : List (Addr × Obj)) (s : Shared), Inv X pins σ H s → wpAny (model X.prog X.w) X.A (isTrue e X.env whole) (TP X pins σ Q) X.xe s
theorem pw_G (X : Cx) (e : Expr) : PW X e (tGW X e) := ⟨fun wh pins s σ H Q I h => h wh pins s I⟩
theorem tGW_of {t : TT} (h : PW X e t) {σ : L2.St} {H : Hp} {Q : Bool → Hp → Prop} (q : t σ H Q) : tGW X e σ H Q := fun wh pins s I => h.run wh pins s σ H Q I q
theorem tGW_mono {σ : L2.St} {H : Hp} {Q Q' : Bool → Hp → Prop} (h : tGW X e σ H Q) (k : ∀ v H, Q v H → Q' v H) : tGW X e σ H Q' := fun wh pins s I =>
  thn (h wh pins s I) fun u s1 ⟨H1, I1, q⟩ => ⟨H1, I1, k _ H1 q⟩
/-- a test whatever its whole is (and, or) -/
structure PDV (X : Cx) (T : Tab) (F : Fr) (e : Expr) (t : RT) : Prop where
  run : X.K = T.K → X.calm = true → ∀ (B H : Hp) (σ : L2.St) (G : Lo) (K : Bool → Lo → Prop), Sta T F B H σ G → t G K → tGW X e σ H (PostT T F B H σ G K)
theorem pdv_and1 (ha : PDT X T F a tt) : PDV X T F (.BoolOp .And [a] pos) tt :=
  ⟨fun hK hc B H σ G K S h => tGW_of (pw_and1 (pt_G X a)) (ha.run hK hc B H σ G K S h)⟩
theorem pdv_or1 (ha : PDT X T F a tt) : PDV X T F (.BoolOp .Or [a] pos) tt :=
  ⟨fun hK hc B H σ G K S h => tGW_of (pw_or1 (pt_G X a)) (ha.run hK hc B H σ G K S h)⟩
theorem pdv_and (ha : PDT X T F a tt) (hb : PDV X T F (.BoolOp .And (b :: es) pos) tu) : PDV X T F (.BoolOp .And (a :: b :: es) pos) (tAnd tt tu) := by
  refine ⟨fun hK hc B H σ G K S h => tGW_of (pw_and (pt_G X a) (pw_G X _)) ?_⟩
  refine tGT_mono (ha.run hK hc B H σ G _ S h) fun c H1 ⟨B1, G1, S1, k1, q⟩ => ?_
  cases c with
  | true => exact tGW_mono (hb.run hK hc B1 H1 σ G1 K S1 q) fun v H2 z => PostT.more k1 z
  | false => exact ⟨B1, G1, S1, k1, q⟩
theorem pdv_or (ha : PDT X T F a tt) (hb : PDV X T F (.BoolOp .Or (b :: es) pos) tu) : PDV X T F (.BoolOp .Or (a :: b :: es) pos) (tOr tt tu) := by
  refine ⟨fun hK hc B H σ G K S h => tGW_of (pw_or (pt_G X a) (pw_G X _)) ?_⟩
  refine tGT_mono (ha.run hK hc B H σ G _ S h) fun c H1 ⟨B1, G1, S1, k1, q⟩ => ?_
  cases c with
  | true => exact ⟨B1, G1, S1, k1, q⟩
  | false => exact tGW_mono (hb.run hK hc B1 H1 σ G1 K S1 q) fun v H2 z => PostT.more k1 z
theorem PDV.t (h : PDV X T F e tt) : PDT X T F e tt := ⟨fun hK hc B H σ G K S q => tGT_of (pw_G X e).pt (h.run hK hc B H σ G K S q)⟩
theorem pdt_not (ha : PDT X T F a tt) : PDT X T F (.UnaryOp .Not a pos) (tNot tt) :=
  ⟨fun hK hc B H σ G K S h => tGT_of (pt_not (pt_G X a)) (tGT_mono (ha.run hK hc B H σ G _ S h) fun c H1 ⟨B1, G1, S1, k1, q⟩ => ⟨B1, G1, S1, k1, q⟩)⟩
/-- .. as values -/
@[simp ↓] def tAndV (t u : RE) : RE := fun G K => t G fun o G1 => match o with
  | .imm (.bl c) => if c = true then u G1 K else K (.imm (.bl false)) G1
  | _ => False
@[simp ↓] def tOrV (t u : RE) : RE := fun G K => t G fun o G1 => match o with
  | .imm (.bl c) => if c = true then K (.imm (.bl true)) G1 else u G1 K
  | _ => False
@[simp ↓] def tNotV (t : RE) : RE := fun G K => t G fun o G1 => match o with
  | .imm (.bl c) => K (.imm (.bl (!c))) G1
  | _ => False
theorem pd_one {op} (h : PD X T F a ta) : PD X T F (.BoolOp op [a] pos) ta := ⟨fun hK hc B H σ G K S q => tG_of (pe_one (pe_G X a)) (h.run hK hc B H σ G K S q)⟩
theorem pd_and (ha : PD X T F a ta) (hb : PD X T F (.BoolOp .And (b :: es) pos) tb) : PD X T F (.BoolOp .And (a :: b :: es) pos) (tAndV ta tb) := by
  refine ⟨fun hK hc B H σ G K S h => tG_of (pe_and (pe_G X a) (pe_G X _)) ?_⟩
  refine tG_mono (ha.run hK hc B H σ G _ S h) fun v H1 ⟨B1, o, G1, S1, k1, w, _, q⟩ => ?_
  cases o with
  | imm d =>
    cases d with
    | bl c =>
      cases w
      refine ⟨c, rfl, ?_⟩
      cases c with
      | true => exact tG_mono (hb.run hK hc B1 H1 σ G1 K S1 q) fun v H2 z => Post.more k1 z
      | false => exact ⟨B1, .imm (.bl false), G1, S1, k1, Is.bl false, Nw.imm, q⟩
    | _ => exact q.elim
  | _ => exact q.elim
theorem pd_or (ha : PD X T F a ta) (hb : PD X T F (.BoolOp .Or (b :: es) pos) tb) : PD X T F (.BoolOp .Or (a :: b :: es) pos) (tOrV ta tb) := by
  refine ⟨fun hK hc B H σ G K S h => tG_of (pe_or (pe_G X a) (pe_G X _)) ?_⟩
  refine tG_mono (ha.run hK hc B H σ G _ S h) fun v H1 ⟨B1, o, G1, S1, k1, w, _, q⟩ => ?_
  cases o with
  | imm d =>
    cases d with
    | bl c =>
      cases w
      refine ⟨c, rfl, ?_⟩
      cases c with
      | true => exact ⟨B1, .imm (.bl true), G1, S1, k1, Is.bl true, Nw.imm, q⟩
      | false => exact tG_mono (hb.run hK hc B1 H1 σ G1 K S1 q) fun v H2 z => Post.more k1 z
    | _ => exact q.elim
  | _ => exact q.elim
theorem pd_not (ha : PD X T F a ta) : PD X T F (.UnaryOp .Not a pos) (tNotV ta) := by
  refine ⟨fun hK hc B H σ G K S h => tG_of (pe_not (pe_G X a)) ?_⟩
  refine tG_mono (ha.run hK hc B H σ G _ S h) fun v H1 ⟨B1, o, G1, S1, k1, w, _, q⟩ => ?_
  cases o with
  | imm d =>
    cases d with
    | bl c =>
      cases w
      exact ⟨c, rfl, ⟨B1, .imm (.bl (!c)), G1, S1, k1, Is.bl (!c), Nw.imm, q⟩⟩
    | _ => exact q.elim
  | _ => exact q.elim
@[simp ↓] def tIf (c : RT) (t u : RE) : RE := fun G K => c G fun b G1 => if b = true then t G1 K else u G1 K
theorem pd_if (hc : PDT X T F c tt) (ha : PD X T F a ta) (hb : PD X T F b tb) : PD X T F (.IfExp c a b pos) (tIf tt ta tb) := by
  refine ⟨fun hK hcm B H σ G K S h => tG_of (pe_ifExp (pt_G X c) (pe_G X a) (pe_G X b)) ?_⟩
  refine tGT_mono (hc.run hK hcm B H σ G _ S h) fun d H1 ⟨B1, G1, S1, k1, q⟩ => ?_
  cases d with
  | true => exact tG_mono (ha.run hK hcm B1 H1 σ G1 K S1 q) fun v H2 z => Post.more k1 z
  | false => exact tG_mono (hb.run hK hcm B1 H1 σ G1 K S1 q) fun v H2 z => Post.more k1 z

end
end Fx
end
section
set_option Elab.async false
set_option linter.all false
set_option maxRecDepth 100000
set_option maxHeartbeats 2000000
/-! Fx3: the operators over data -/
namespace Fx
open PySem PySem.Spec PyProof.Rows L2

section
variable {X : Cx} {T : Tab} {F : Fr} {a b c e : Expr} {es : List Expr} {pos : Pos} {ta tb tc te : RE} {tt tu : RT} {tr : RA}
variable {B H : Hp} {σ : L2.St} {G : Lo} {v : V} {o : Opd}

theorem see_int {i : Int} (S : Sta T F B H σ G) (h : OpdOk T F B H σ G v o) (c : cont G o = some (.int i)) : v = .int i := by
  cases S.see h c
  rfl
theorem see_str {i : Str} (S : Sta T F B H σ G) (h : OpdOk T F B H σ G v o) (c : cont G o = some (.str i)) : v = .str i := by
  cases S.see h c
  rfl
theorem see_bl {i : Bool} (S : Sta T F B H σ G) (h : OpdOk T F B H σ G v o) (c : cont G o = some (.bl i)) : v = .bl i := by
  cases S.see h c
  rfl
theorem see_non (S : Sta T F B H σ G) (h : OpdOk T F B H σ G v o) (c : cont G o = some .non) : v = .non := by
  cases S.see h c
  rfl

/-! ### + - * // % ** -/
@[simp ↓] def gAdd : G2 := fun G o p K => match cont G o, cont G p with
  | some (.int i), some (.int j) => K (.imm (.int (i + j))) G
  | some (.str x), some (.str y) => x.length + y.length ≤ sizeLine ∧ K (.imm (.str (x ++ y))) G
  | some (.lst xs), some (.lst ys) => xs.length + ys.length ≤ sizeLine ∧ K (.new (.lst (xs ++ ys))) G
  | some (.tup xs), some (.tup ys) => xs.length + ys.length ≤ sizeLine ∧ K (.imm (.tup (xs ++ ys))) G
  | _, _ => False
theorem opd_add : OpD X T F (binaryOp .Add) gAdd := by
  intro hK hc
  refine ⟨_, op_add.or (op_add_str.or (op_cat.or op_catA)), fun B H σ G x y o p K Q S hx hy h hq => ?_⟩
  unfold gAdd at h
  split at h
  · rename_i e1 e2
    have q1 := see_int S hx e1
    have q2 := see_int S hy e2
    exact .inl ⟨_, _, q1, q2, hq _ _ (Post.imm S (.int _) h)⟩
  · rename_i e1 e2
    have q1 := see_str S hx e1
    have q2 := see_str S hy e2
    exact .inr (.inl ⟨_, _, q1, q2, h.1, hq _ _ (Post.imm S (.str _) h.2)⟩)
  · rename_i e1 e2
    obtain ⟨a, vs, r1, h1, l1⟩ := S.see hx e1
    obtain ⟨b, ws, r2, h2, l2⟩ := S.see hy e2
    subst r1 r2
    exact .inr (.inr (.inl ⟨a, b, vs, ws, rfl, rfl, h1, h2, by rw [l1.length, l2.length]; exact h.1, fun p hp => hq _ _ (Post.newL S hp (l1.append l2) h.2)⟩))
  · rename_i xs ys e1 e2
    obtain ⟨a, vs, r1, h1, l1⟩ := S.see hx e1
    obtain ⟨b, ws, r2, h2, l2⟩ := S.see hy e2
    subst r1 r2
    refine .inr (.inr (.inr ⟨a, b, vs, ws, rfl, rfl, SqT.of (S.bh _ _ h1), SqT.of (S.bh _ _ h2), by rw [l1.length, l2.length]; exact h.1, fun z => ?_, fun _ z => ?_, fun _ _ p hp => hq _ _ (Post.new S hp (.tup upd_same ((l1.append l2).mono (same_upd (S.bh.free hp)))) h.2)⟩))
    · subst z
      cases l1
      exact hq _ _ (Post.imm S (.tup h2 l2) h.2)
    · subst z
      cases l2
      have k := h.2
      rw [List.append_nil] at k
      exact hq _ _ (Post.imm S (.tup h1 l1) k)
  · exact h.elim
@[simp ↓] def gInt (C : Int → Int → Prop) (f : Int → Int → Int) : G2 := fun G o p K => match cont G o, cont G p with
  | some (.int i), some (.int j) => C i j ∧ K (.imm (.int (f i j))) G
  | _, _ => False
theorem opd_int {f : Value → Value → Sem Value} {C : Int → Int → Prop} {g : Int → Int → Int} (h : OpR X f (rI C fun i j => .int (g i j))) : OpD X T F f (gInt C g) := by
  intro hK hc
  refine ⟨_, h, fun B H σ G x y o p K Q S hx hy h hq => ?_⟩
  unfold gInt at h
  split at h
  · rename_i e1 e2
    exact ⟨_, _, see_int S hx e1, see_int S hy e2, h.1, hq _ _ (Post.imm S (.int _) h.2)⟩
  · exact h.elim
@[simp ↓] def gSub : G2 := gInt (fun _ _ => True) fun i j => i - j
theorem opd_sub : OpD X T F (binaryOp .Sub) gSub := opd_int (opI fun _ _ _ _ _ _ _ _ q => sub_int q)
@[simp ↓] def gMod : G2 := gInt (fun _ j => 0 < j) fun i j => i % j
theorem opd_mod : OpD X T F (binaryOp .Mod) gMod := opd_int op_mod
@[simp ↓] def gDiv : G2 := gInt CDiv fun i j => i / j
theorem opd_div : OpD X T F (binaryOp .FloorDiv) gDiv := opd_int op_fdiv
def CPw (i j : Int) : Prop := 0 ≤ j ∧ j ≤ 1000 ∧ i.natAbs < 2 ^ 10000
@[simp ↓] def gPow : G2 := gInt CPw fun i j => i ^ j.toNat
theorem opd_pow : OpD X T F (binaryOp .Pow) gPow := opd_int (opI fun i j _ _ _ _ _ hc q => by
  refine pow_int hc.1 ?_ q
  have h1 : (Builtin.Int.intBits i : Int) ≤ 10000 := by exact_mod_cast intBits_le hc.2.2
  have h2 := hc.2.1
  have h3 := hc.1
  have h4 : (Builtin.Int.intBits i : Int) * j ≤ 10000 * 1000 := Int.mul_le_mul h1 h2 h3 (by decide)
  exact Int.le_trans h4 (by decide))
@[simp ↓] def gMul : G2 := fun G o p K => match cont G o, cont G p with
  | some (.int i), some (.int j) => CMul i j ∧ K (.imm (.int (i * j))) G
  | some (.str x), some (.int i) => x.length ≤ 16 ∧ -(2 ^ 63) ≤ i ∧ i ≤ 1048576 ∧ K (.imm (.str (Txt.mul x i))) G
  | some (.lst xs), some (.int i) => -(2 ^ 63) ≤ i ∧ i < 2 ^ 63 ∧ xs.length * i.toNat ≤ sizeLine ∧ K (.new (.lst (List.replicate i.toNat xs).flatten)) G
  | _, _ => False
theorem op_mul_str : OpR X (binaryOp .Mult) (fun x y H Q => ∃ i j, x = .str i ∧ y = .int j ∧ i.length ≤ 16 ∧ -(2 ^ 63) ≤ j ∧ j ≤ 1048576 ∧ Q (.str (Txt.mul i j)) H) := by
  intro pins s σ H x y v u Q I rx ry h
  obtain ⟨i, j, rfl, rfl, h1, h2, h3, q⟩ := h
  obtain ⟨t, rfl⟩ := rx
  obtain ⟨t', rfl⟩ := ry
  exact PySem.W.KXi.mul rfl h1 h2 h3 fun tk k _ _ => ⟨.str _, H, I.tok _, ⟨_, rfl⟩, q⟩
theorem opd_mul : OpD X T F (binaryOp .Mult) gMul := by
  intro hK hc
  refine ⟨_, op_mul.or (op_mul_str.or op_rep), fun B H σ G x y o p K Q S hx hy h hq => ?_⟩
  unfold gMul at h
  split at h
  · rename_i e1 e2
    exact .inl ⟨_, _, see_int S hx e1, see_int S hy e2, h.1, hq _ _ (Post.imm S (.int _) h.2)⟩
  · rename_i e1 e2
    exact .inr (.inl ⟨_, _, see_str S hx e1, see_int S hy e2, h.1, h.2.1, h.2.2.1, hq _ _ (Post.imm S (.str _) h.2.2.2)⟩)
  · rename_i e1 e2
    obtain ⟨a, vs, r1, h1, l1⟩ := S.see hx e1
    have r2 := see_int S hy e2
    subst r1 r2
    exact .inr (.inr ⟨a, _, vs, rfl, rfl, h1, h.1, h.2.1, by rw [l1.length]; exact h.2.2.1, fun p hp => hq _ _ (Post.newL S hp (l1.rep _) h.2.2.2)⟩)
  · exact h.elim
@[simp ↓] def tNeg (ta : RE) : RE := fun G K => ta G fun o G1 => match cont G1 o with
  | some (.int i) => K (.imm (.int (-i))) G1
  | _ => False
theorem pd_neg (ha : PD X T F a ta) : PD X T F (.UnaryOp .USub a pos) (tNeg ta) := by
  refine ⟨fun hK hc B H σ G K S h => tG_of (pe_un un_neg (pe_G X a)) ?_⟩
  refine tG_mono (ha.run hK hc B H σ G _ S h) fun v H1 ⟨B1, o, G1, S1, k1, w, _, q⟩ => ?_
  dsimp only at q
  split at q
  · rename_i e1
    exact ⟨_, see_int S1 w e1, Post.more k1 (Post.imm S1 (.int _) q)⟩
  · exact q.elim

/-! ### comparisons -/
@[simp ↓] def gICmp (f : Int → Int → Bool) : G2 := fun G o p K => match cont G o, cont G p with
  | some (.int i), some (.int j) => K (.imm (.bl (f i j))) G
  | _, _ => False
theorem opd_icmp {f : Value → Value → Sem Value} {g : Int → Int → Bool} (h : OpR X f (rI0 fun i j => .bl (g i j))) : OpD X T F f (gICmp g) := by
  intro hK hc
  refine ⟨_, h, fun B H σ G x y o p K Q S hx hy h hq => ?_⟩
  unfold gICmp at h
  split at h
  · rename_i e1 e2
    exact ⟨_, _, see_int S hx e1, see_int S hy e2, hq _ _ (Post.imm S (.bl _) h)⟩
  · exact h.elim
@[simp ↓] def gLt : G2 := gICmp fun i j => decide (i < j)
@[simp ↓] def gLe : G2 := gICmp fun i j => decide (i ≤ j)
@[simp ↓] def gGt : G2 := gICmp fun i j => decide (j < i)
@[simp ↓] def gGe : G2 := gICmp fun i j => decide (j ≤ i)
theorem opd_lt : OpD X T F (compareOp .Lt) gLt := opd_icmp op_lt
theorem opd_le : OpD X T F (compareOp .LtE) gLe := opd_icmp op_le
theorem opd_gt : OpD X T F (compareOp .Gt) gGt := opd_icmp op_gt
theorem opd_ge : OpD X T F (compareOp .GtE) gGe := opd_icmp op_ge

mutual
@[simp ↓] def toPy : D → Option PyData
  | .non => some .none
  | .bl b => some (.bool b)
  | .int i => some (.int i)
  | .str x => some (.str x)
  | .tup ds => match toPyL ds with
    | some l => some (.tuple l)
    | none => none
  | .lst ds => match toPyL ds with
    | some l => some (.list l)
    | none => none
  | .scr ns => some (.list (ns.map .int))
  | _ => none
@[simp ↓] def toPyL : List D → Option (List PyData)
  | [] => some []
  | d :: ds => match toPy d, toPyL ds with
    | some x, some l => some (x :: l)
    | _, _ => none
end
theorem dp_ints {K : PySem.W.Frag} : ∀ ns : List Int, DpAll K H (ns.map V.int) (ns.map .int)
  | [] => .nil
  | n :: ns => .cons (.int n) (dp_ints ns)
mutual
theorem Is.dp (e : Same B H) : ∀ {v : V} {d : D} {p : PyData}, Is T B v d → toPy d = some p → Dp T.K H v p
  | _, _, _, .non, h => by
    cases h
    exact .non
  | _, _, _, .bl b, h => by
    cases h
    exact .bl b
  | _, _, _, .int i, h => by
    cases h
    exact .int i
  | _, _, _, .str x, h => by
    cases h
    exact .str x
  | _, _, _, .tup (ds := ds) h l, q => by
    unfold toPy at q
    cases e2 : toPyL ds with
    | none =>
      rw [e2] at q
      cases q
    | some ps =>
      rw [e2] at q
      cases q
      exact .tup (SqT.of (e _ _ h)) (IsL.dp e l e2)
  | _, _, _, .lst (ds := ds) h l, q => by
    unfold toPy at q
    cases e2 : toPyL ds with
    | none =>
      rw [e2] at q
      cases q
    | some ps =>
      rw [e2] at q
      cases q
      exact .lst (SqL.of (e _ _ h)) (IsL.dp e l e2)
  | _, _, _, .scr (ns := ns) h, q => by
    cases q
    exact .lst (sql_mono e h) (dp_ints ns)
  | _, _, _, .dct _ _, h => by cases h
  | _, _, _, .slt _ _ _, h => by cases h
  | _, _, _, .ins _, h => by cases h
  | _, _, _, .cls _, h => by cases h
  | _, _, _, .ty _, h => by cases h
theorem IsL.dp (e : Same B H) : ∀ {vs : List V} {ds : List D} {ps : List PyData}, IsL T B vs ds → toPyL ds = some ps → DpAll T.K H vs ps
  | _, _, _, .nil, h => by
    cases h
    exact .nil
  | _, _, _, .cons (d := d) (ds := ds) h t, q => by
    unfold toPyL at q
    cases e1 : toPy d with
    | none =>
      rw [e1] at q
      cases q
    | some x =>
      cases e2 : toPyL ds with
      | none =>
        rw [e1, e2] at q
        cases q
      | some l =>
        rw [e1, e2] at q
        cases q
        exact .cons (Is.dp e h e1) (IsL.dp e t e2)
end
theorem See.dp (e : Same B H) {d : D} {p : PyData} (h : See T B H v d) (q : toPy d = some p) : Dp T.K H v p := by
  cases d with
  | lst ds =>
    obtain ⟨a, vs, rfl, h1, l⟩ := h
    unfold toPy at q
    cases e2 : toPyL ds with
    | none =>
      rw [e2] at q
      cases q
    | some ps =>
      rw [e2] at q
      cases q
      exact .lst (SqL.of h1) (IsL.dp e l e2)
  | tup ds =>
    obtain ⟨a, vs, rfl, h1, l⟩ := h
    exact Is.dp e (.tup h1 l) q
  | dct es => cases q
  | non => exact Is.dp e h q
  | bl b => exact Is.dp e h q
  | int i => exact Is.dp e h q
  | str x => exact Is.dp e h q
  | scr ns => exact Is.dp e h q
  | slt c fs => cases q
  | ins c fs => cases q
  | cls c => cases q
  | ty n => cases q
  | exc c x => cases q

/-- == of two data -/
@[simp ↓] def eqP (d d' : D) (K : Bool → Prop) : Prop := match d, d' with
  | .str x, .str y => K (decide (x = y))
  | .int x, .int y => K (decide (x = y))
  | .bl x, .bl y => K (decide (x = y))
  | .non, .non => K true
  | .str _, .non => K false
  | .non, .str _ => K false
  | .int _, .non => K false
  | .non, .int _ => K false
  | .bl _, .non => K false
  | .non, .bl _ => K false
  | d, d' => ∃ p q, toPy d = some p ∧ toPy d' = some q ∧ SeqAt.shaped p = true ∧ SeqAt.shaped q = true ∧ K (PyData.eqv p q)
@[simp ↓] def gEq : G2 := fun G o p K => ∃ d d', cont G o = some d ∧ cont G p = some d' ∧ eqP d d' fun b => K (.imm (.bl b)) G
@[simp ↓] def gNe : G2 := fun G o p K => ∃ d d', cont G o = some d ∧ cont G p = some d' ∧ eqP d d' fun b => K (.imm (.bl (!b))) G
theorem dec_sv {x y : Str} : decide (V.str x = V.str y) = decide (x = y) := by simp
theorem dec_iv {x y : Int} : decide (V.int x = V.int y) = decide (x = y) := by simp
theorem dec_bv {x y : Bool} : decide (V.bl x = V.bl y) = decide (x = y) := by simp
theorem eqP_ok {K : Bool → Prop} {x y : V} {d d' : D} (e : Same B H) (h1 : See T B H x d) (h2 : See T B H y d') (h : eqP d d' K) :
    (scal x y = true ∧ K (decide (x = y))) ∨ ∃ p q, Dp T.K H x p ∧ Dp T.K H y q ∧ SeqAt.shaped p = true ∧ SeqAt.shaped q = true ∧ K (PyData.eqv p q) := by
  unfold eqP at h
  split at h
  · cases h1
    cases h2
    exact .inl ⟨rfl, by rw [dec_sv]; exact h⟩
  · cases h1
    cases h2
    exact .inl ⟨rfl, by rw [dec_iv]; exact h⟩
  · cases h1
    cases h2
    exact .inl ⟨rfl, by rw [dec_bv]; exact h⟩
  · cases h1
    cases h2
    exact .inl ⟨rfl, h⟩
  · cases h1
    cases h2
    exact .inl ⟨rfl, h⟩
  · cases h1
    cases h2
    exact .inl ⟨rfl, h⟩
  · cases h1
    cases h2
    exact .inl ⟨rfl, h⟩
  · cases h1
    cases h2
    exact .inl ⟨rfl, h⟩
  · cases h1
    cases h2
    exact .inl ⟨rfl, h⟩
  · cases h1
    cases h2
    exact .inl ⟨rfl, h⟩
  · obtain ⟨p, q, e1, e2, s1, s2, k⟩ := h
    exact .inr ⟨p, q, h1.dp e e1, h2.dp e e2, s1, s2, k⟩
theorem opd_eq {k : Nat} (hr : Room k X.A) : OpD X T F (compareOp .Eq) gEq := by
  intro hK hc
  refine ⟨_, op_eq.or (op_eqD hr.units), fun B H σ G x y o p K Q S hx hy h hq => ?_⟩
  obtain ⟨d, d', e1, e2, h⟩ := h
  rcases eqP_ok S.bh (S.see hx e1) (S.see hy e2) h with ⟨z, h⟩ | ⟨p, q, z1, z2, s1, s2, h⟩
  · exact .inl ⟨z, hq _ _ (Post.imm S (.bl _) h)⟩
  · exact .inr ⟨p, q, by rw [hK]; exact z1, by rw [hK]; exact z2, s1, s2, hq _ _ (Post.imm S (.bl _) h)⟩
theorem opd_ne {k : Nat} (hr : Room k X.A) : OpD X T F (compareOp .NotEq) gNe := by
  intro hK hc
  refine ⟨_, op_ne.or (op_neD hr.units), fun B H σ G x y o p K Q S hx hy h hq => ?_⟩
  obtain ⟨d, d', e1, e2, h⟩ := h
  rcases eqP_ok S.bh (S.see hx e1) (S.see hy e2) h with ⟨z, h⟩ | ⟨p, q, z1, z2, s1, s2, h⟩
  · exact .inl ⟨z, hq _ _ (Post.imm S (.bl _) h)⟩
  · exact .inr ⟨p, q, by rw [hK]; exact z1, by rw [hK]; exact z2, s1, s2, hq _ _ (Post.imm S (.bl _) h)⟩

/-- is None, is not None -/
@[simp ↓] def isN : D → Bool
  | .non => true
  | _ => false
@[simp ↓] def gIsN : G2 := fun G o p K => ∃ d, cont G o = some d ∧ p = .imm .non ∧ K (.imm (.bl (isN d))) G
@[simp ↓] def gNotN : G2 := fun G o p K => ∃ d, cont G o = some d ∧ p = .imm .non ∧ K (.imm (.bl (!isN d))) G
theorem see_isN {d : D} (h : See T B H v d) : decide (v = .non) = isN d := by
  cases d with
  | lst ds =>
    obtain ⟨a, vs, rfl, _⟩ := h
    rfl
  | tup ds =>
    obtain ⟨a, vs, rfl, _⟩ := h
    rfl
  | dct es =>
    obtain ⟨a, vs, rfl, _⟩ := h
    rfl
  | non =>
    cases h
    rfl
  | bl b =>
    cases h
    rfl
  | int b =>
    cases h
    rfl
  | str b =>
    cases h
    rfl
  | scr b =>
    cases h
    rfl
  | slt b c =>
    cases h
    rfl
  | ins b c =>
    cases h
    rfl
  | cls b =>
    cases h
    rfl
  | ty b =>
    cases h
    rfl
  | exc c x =>
    cases h
    rfl
theorem opd_isN : OpD X T F (compareOp .Is) gIsN := by
  intro hK hc
  refine ⟨_, op_isN, fun B H σ G x y o p K Q S hx hy h hq => ?_⟩
  obtain ⟨d, e1, rfl, h⟩ := h
  cases (show Is T B y .non from hy)
  exact ⟨rfl, hq _ _ (Post.imm S (.bl _) (by rw [see_isN (S.see hx e1)]; exact h))⟩
theorem opd_notN : OpD X T F (compareOp .IsNot) gNotN := by
  intro hK hc
  refine ⟨_, op_notN, fun B H σ G x y o p K Q S hx hy h hq => ?_⟩
  obtain ⟨d, e1, rfl, h⟩ := h
  cases (show Is T B y .non from hy)
  exact ⟨rfl, hq _ _ (Post.imm S (.bl _) (by rw [see_isN (S.see hx e1)]; exact h))⟩

/-! ### in, not in -/
def inS (x y : Str) : Bool := !(Builtin.Str.occurrences y x 0 y.length 1).isEmpty
@[simp ↓] def flD : D → Option V
  | .non => some .non
  | .bl b => some (.bl b)
  | .int i => some (.int i)
  | .str x => some (.str x)
  | _ => none
@[simp ↓] def flL : List D → Option (List V)
  | [] => some []
  | d :: ds => match flD d, flL ds with
    | some x, some l => some (x :: l)
    | _, _ => none
theorem flD_ok {d : D} {x : V} (h : Is T B v d) (e : flD d = some x) : v = x ∧ flatV v = true := by
  cases h <;> first | (cases e; exact ⟨rfl, rfl⟩) | cases e
theorem see_flD {d : D} {x : V} (h : See T B H v d) (e : flD d = some x) : v = x ∧ flatV v = true := by
  cases d with
  | lst ds => cases e
  | tup ds => cases e
  | dct es => cases e
  | scr es => cases e
  | slt c fs => cases e
  | ins c fs => cases e
  | cls c => cases e
  | ty n => cases e
  | exc c x => cases e
  | non => exact flD_ok h e
  | bl b => exact flD_ok h e
  | int b => exact flD_ok h e
  | str b => exact flD_ok h e
theorem flL_ok : ∀ {vs : List V} {ds : List D} {xs : List V}, IsL T B vs ds → flL ds = some xs → vs = xs ∧ vs.all flatV = true
  | _, _, _, .nil, e => by
    cases e
    exact ⟨rfl, rfl⟩
  | _, _, _, .cons (d := d) (ds := ds) h t, e => by
    unfold flL at e
    cases e1 : flD d with
    | none =>
      rw [e1] at e
      cases e
    | some x =>
      cases e2 : flL ds with
      | none =>
        rw [e1, e2] at e
        cases e
      | some l =>
        rw [e1, e2] at e
        cases e
        obtain ⟨a1, a2⟩ := flD_ok h e1
        obtain ⟨b1, b2⟩ := flL_ok t e2
        exact ⟨by rw [a1, b1], by rw [List.all_cons, a2, b2]; rfl⟩
@[simp ↓] def inP (d d' : D) (K : Bool → Prop) : Prop := match d, d' with
  | .str x, .str y => K (inS x y)
  | d, .lst ds => ∃ x xs, flD d = some x ∧ flL ds = some xs ∧ K (inV x xs)
  | d, .tup ds => ∃ x xs, flD d = some x ∧ flL ds = some xs ∧ K (inV x xs)
  | _, _ => False
@[simp ↓] def gIn : G2 := fun G o p K => ∃ d d', cont G o = some d ∧ cont G p = some d' ∧ inP d d' fun b => K (.imm (.bl b)) G
@[simp ↓] def gNotIn : G2 := fun G o p K => ∃ d d', cont G o = some d ∧ cont G p = some d' ∧ inP d d' fun b => K (.imm (.bl (!b))) G
theorem inP_ok {K : Bool → Prop} {x y : V} {d d' : D} (e : Same B H) (h1 : See T B H x d) (h2 : See T B H y d') (h : inP d d' K) :
    (∃ i j, x = .str i ∧ y = .str j ∧ K (inS i j)) ∨ ∃ p xs, y = .ref p ∧ (SqL T.K H p xs ∨ SqT T.K H p xs) ∧ flatV x = true ∧ xs.all flatV = true ∧ K (inV x xs) := by
  unfold inP at h
  split at h
  · cases h1
    cases h2
    exact .inl ⟨_, _, rfl, rfl, h⟩
  · obtain ⟨x, xs, e1, e2, k⟩ := h
    obtain ⟨a, vs, rfl, ha, l⟩ := h2
    obtain ⟨a1, a2⟩ := see_flD h1 e1
    obtain ⟨b1, b2⟩ := flL_ok l e2
    exact .inr ⟨a, vs, rfl, .inl (SqL.of ha), a2, b2, by rw [a1, b1]; exact k⟩
  · obtain ⟨x, xs, e1, e2, k⟩ := h
    obtain ⟨a, vs, rfl, ha, l⟩ := h2
    obtain ⟨a1, a2⟩ := see_flD h1 e1
    obtain ⟨b1, b2⟩ := flL_ok l e2
    exact .inr ⟨a, vs, rfl, .inr (SqT.of (e _ _ ha)), a2, b2, by rw [a1, b1]; exact k⟩
  · exact h.elim
theorem opd_in : OpD X T F (compareOp .In) gIn := by
  intro hK hc
  refine ⟨_, op_in_str.or op_in_seq, fun B H σ G x y o p K Q S hx hy h hq => ?_⟩
  obtain ⟨d, d', e1, e2, h⟩ := h
  rcases inP_ok S.bh (S.see hx e1) (S.see hy e2) h with ⟨i, j, r1, r2, h⟩ | ⟨p, xs, r1, r2, r3, r4, h⟩
  · exact .inl ⟨i, j, r1, r2, hq _ _ (Post.imm S (.bl _) h)⟩
  · exact .inr ⟨p, xs, r1, by rw [hK]; exact r2, r3, r4, hq _ _ (Post.imm S (.bl _) h)⟩
theorem opd_notIn : OpD X T F (compareOp .NotIn) gNotIn := by
  intro hK hc
  refine ⟨_, op_notIn_str.or op_notIn_seq, fun B H σ G x y o p K Q S hx hy h hq => ?_⟩
  obtain ⟨d, d', e1, e2, h⟩ := h
  rcases inP_ok S.bh (S.see hx e1) (S.see hy e2) h with ⟨i, j, r1, r2, h⟩ | ⟨p, xs, r1, r2, r3, r4, h⟩
  · exact .inl ⟨i, j, r1, r2, hq _ _ (Post.imm S (.bl _) h)⟩
  · exact .inr ⟨p, xs, r1, by rw [hK]; exact r2, r3, r4, hq _ _ (Post.imm S (.bl _) h)⟩

/-! ### chains -/
@[simp ↓] def tChain (g g' : G2) (ta tb tc : RE) : RE := fun G K => ta G fun o G1 => tb G1 fun p G2 => g G2 o p fun r G3 => match r with
  | .imm (.bl k) => if k = true then tc G3 fun q G4 => g' G4 p q K else K (.imm (.bl false)) G3
  | _ => False
theorem run_chain {g g' : G2} {r r' : R2} (hK : X.K = T.K) (hc : X.calm = true) (ha : PD X T F a ta) (hb : PD X T F b tb) (hcc : PD X T F c tc)
    (q : ∀ (B H : Hp) (σ : L2.St) (G : Lo) (x y : V) (o p : Opd) (K : Opd → Lo → Prop) (Q : VK), Sta T F B H σ G → OpdOk T F B H σ G x o → OpdOk T F B H σ G y p → g G o p K → (∀ v H', Post T F B H σ G K v H' → Q v H') → r x y H Q)
    (q' : ∀ (B H : Hp) (σ : L2.St) (G : Lo) (x y : V) (o p : Opd) (K : Opd → Lo → Prop) (Q : VK), Sta T F B H σ G → OpdOk T F B H σ G x o → OpdOk T F B H σ G y p → g' G o p K → (∀ v H', Post T F B H σ G K v H' → Q v H') → r' x y H Q)
    {K : Opd → Lo → Prop} (S : Sta T F B H σ G) (h : tChain g g' ta tb tc G K) {Q : VK} (hQ : ∀ v H', Post T F B H σ G K v H' → Q v H') : L2.tChain r r' (tG X a) (tG X b) (tG X c) σ H Q := by
  refine tG_mono (ha.run hK hc B H σ G _ S h) fun x H1 ⟨B1, o, G1, S1, k1, h1, _, z⟩ => ?_
  refine tG_mono (hb.run hK hc B1 H1 σ G1 _ S1 z) fun y H2 ⟨B2, p, G2, S2, k2, h2, _, z2⟩ => ?_
  refine q B2 H2 σ G2 x y o p _ _ S2 (h1.keep k2) h2 z2 fun u H3 ⟨B3, w, G3, S3, k3, h3, _, z3⟩ => ?_
  have k13 := k1.trans (k2.trans k3)
  cases w with
  | imm d =>
    cases d with
    | bl k =>
      cases h3
      refine ⟨k, rfl, ?_⟩
      cases k with
      | true =>
        refine tG_mono (hcc.run hK hc B3 H3 σ G3 _ S3 z3) fun y' H4 ⟨B4, p', G4, S4, k4, h4, _, z4⟩ => ?_
        exact q' B4 H4 σ G4 y y' p p' _ _ S4 ((h2.keep k3).keep k4) h4 z4 fun v H' y => hQ v H' (Post.more (k13.trans k4) y)
      | false => exact hQ _ _ (Post.more k13 (Post.imm S3 (.bl false) z3))
    | _ => exact z3.elim
  | _ => exact z3.elim
theorem pd_chain {op op' : CmpOp} {g g' : G2} (ho : OpD X T F (compareOp op) g) (ho' : OpD X T F (compareOp op') g') (ha : PD X T F a ta) (hb : PD X T F b tb) (hcc : PD X T F c tc)
    (hm : lastMarks [op, op'] [b, c] = false := by with_unfolding_all rfl) : PD X T F (.Compare a [op, op'] [b, c] pos) (tChain g g' ta tb tc) := by
  refine ⟨fun hK hc B H σ G K S h => ?_⟩
  obtain ⟨r, hr, q⟩ := ho hK hc
  obtain ⟨r', hr', q'⟩ := ho' hK hc
  exact tG_of (pe_chain hr hr' (pe_G X a) (pe_G X b) (pe_G X c) hm) (run_chain hK hc ha hb hcc q q' S h fun _ _ y => y)
theorem pdt_chain {op op' : CmpOp} {g g' : G2} (ho : OpD X T F (compareOp op) g) (ho' : OpD X T F (compareOp op') g') (ha : PD X T F a ta) (hb : PD X T F b tb) (hcc : PD X T F c tc)
    (hm : lastMarks [op, op'] [b, c] = false := by with_unfolding_all rfl) : PDT X T F (.Compare a [op, op'] [b, c] pos) (tTst (tChain g g' ta tb tc)) := by
  refine ⟨fun hK hc B H σ G K S h => ?_⟩
  obtain ⟨r, hr, q⟩ := ho hK hc
  obtain ⟨r', hr', q'⟩ := ho' hK hc
  refine tGT_of (pt_chain hr hr' (pe_G X a) (pe_G X b) (pe_G X c) hm) (run_chain hK hc ha hb hcc q q' S h fun v H' hp => ?_)
  obtain ⟨B', o, G', S', k2, w, _, k⟩ := hp
  cases o with
  | imm d =>
    cases d with
    | bl c =>
      cases w
      exact ⟨c, rfl, B', G', S', k2, k⟩
    | _ => exact k.elim
  | _ => exact k.elim
end
end Fx
end
section
set_option Elab.async false
set_option linter.all false
set_option maxRecDepth 100000
set_option maxHeartbeats 2000000
/-! Fx4: displays, calls of built-ins, subscripts, methods of texts -/
namespace Fx
open PySem PySem.Spec PyProof.Rows L2

section
variable {X : Cx} {T : Tab} {F : Fr} {a b c e : Expr} {es : List Expr} {pos : Pos} {ta tb tc te : RE} {tt tu : RT}
variable {B H : Hp} {σ : L2.St} {G : Lo} {v : V} {o : Opd}

/-! ### argument lists: as data; as operands -/
abbrev RL := Lo → (List D → Lo → Prop) → Prop
abbrev RO := Lo → (List Opd → Lo → Prop) → Prop
@[simp ↓] def tFz (t : RE) : Lo → (D → Lo → Prop) → Prop := fun G K => t G fun o G1 => match frz1 G1 o with
  | some q => K q.1 q.2
  | none => False
@[simp ↓] def tLNil : RL := fun G K => K [] G
@[simp ↓] def tLCons (t : RE) (r : RL) : RL := fun G K => tFz t G fun d G1 => r G1 fun ds G2 => K (d :: ds) G2
def PostL (T : Tab) (F : Fr) (B H : Hp) (σ : L2.St) (G : Lo) (K : List D → Lo → Prop) : List V → Hp → Prop := fun vs H' => ∃ B' ds G', Sta T F B' H' σ G' ∧ Kp B H σ G B' H' G' ∧ IsL T B' vs ds ∧ K ds G'
structure PDL (X : Cx) (T : Tab) (F : Fr) (es : List Expr) (t : RL) : Prop where
  run : X.K = T.K → X.calm = true → ∀ (B H : Hp) (σ : L2.St) (G : Lo) (K : List D → Lo → Prop), Sta T F B H σ G → t G K → tGA X es σ H (PostL T F B H σ G K)
theorem run_fz (ha : PD X T F e te) (hK : X.K = T.K) (hc : X.calm = true) {K : D → Lo → Prop} (S : Sta T F B H σ G) (h : tFz te G K) :
    tG X e σ H fun v H' => ∃ B' d G', Sta T F B' H' σ G' ∧ Kp B H σ G B' H' G' ∧ Is T B' v d ∧ K d G' := by
  refine tG_mono (ha.run hK hc B H σ G _ S h) fun v H1 ⟨B1, o, G1, S1, k1, h1, n1, q⟩ => ?_
  dsimp only at q
  cases e1 : frz1 G1 o with
  | none =>
    rw [e1] at q
    exact q.elim
  | some r =>
    rw [e1] at q
    obtain ⟨d, G2⟩ := r
    obtain ⟨B2, S2, k2, i2⟩ := frz_ok k1 S1 h1 n1 e1
    exact ⟨B2, d, G2, S2, k2, i2, q⟩
theorem pdl_nil : PDL X T F [] tLNil := ⟨fun hK hc B H σ G K S h => tGA_of pa_nil ⟨B, [], G, S, Kp.refl, .nil, h⟩⟩
theorem pdl_cons {tr : RL} (ha : PD X T F e te) (hr : PDL X T F es tr) (hs : starEach (e :: es) X.env = (false, eval e X.env) :: starEach es X.env := by rfl) : PDL X T F (e :: es) (tLCons te tr) := by
  refine ⟨fun hK hc B H σ G K S h => tGA_of (pa_cons (pe_G X e) (pa_G X es) hs) ?_⟩
  refine tG_mono (run_fz ha hK hc S h) fun v H1 ⟨B1, d, G1, S1, k1, i1, q⟩ => ?_
  refine tGA_mono (hr.run hK hc B1 H1 σ G1 _ S1 q) fun vs H2 ⟨B2, ds, G2, S2, k2, i2, q2⟩ => ?_
  exact ⟨B2, d :: ds, G2, S2, k1.trans k2, .cons (i1.mono k2.b) i2, q2⟩
/-- *e -/
@[simp ↓] def tLStar (t : RE) (r : RL) : RL := fun G K => tFz t G fun d G1 => match d with
  | .lst xs => r G1 fun ds G2 => K (xs ++ ds) G2
  | .tup xs => r G1 fun ds G2 => K (xs ++ ds) G2
  | _ => False
theorem pdl_star {tr : RL} {p : Pos} (ha : PD X T F e te) (hr : PDL X T F es tr) (hs : starEach (.Starred e p :: es) X.env = (true, eval e X.env) :: starEach es X.env := by rfl) : PDL X T F (.Starred e p :: es) (tLStar te tr) := by
  refine ⟨fun hK hc B H σ G K S h => tGA_of (StX.pa_star (pe_G X e) (pa_G X es) hs) ?_⟩
  refine tG_mono (run_fz ha hK hc S h) fun v H1 ⟨B1, d, G1, S1, k1, i1, q⟩ => ?_
  cases i1 with
  | lst h l =>
    refine ⟨_, _, rfl, .inr (SqL.of (S1.bh _ _ h)), tGA_mono (hr.run hK hc B1 H1 σ G1 _ S1 q) fun ws H2 ⟨B2, ds, G2, S2, k2, i2, q2⟩ => ?_⟩
    exact ⟨B2, _, G2, S2, k1.trans k2, (l.mono k2.b).append i2, q2⟩
  | tup h l =>
    refine ⟨_, _, rfl, .inl (SqT.of (S1.bh _ _ h)), tGA_mono (hr.run hK hc B1 H1 σ G1 _ S1 q) fun ws H2 ⟨B2, ds, G2, S2, k2, i2, q2⟩ => ?_⟩
    exact ⟨B2, _, G2, S2, k1.trans k2, (l.mono k2.b).append i2, q2⟩
  | _ => exact q.elim
@[simp ↓] def tTup (r : RL) : RE := fun G K => r G fun ds G1 => ds.length ≤ sizeLine ∧ K (.imm (.tup ds)) G1
@[simp ↓] def tLst (r : RL) : RE := fun G K => r G fun ds G1 => ds.length ≤ sizeLine ∧ K (.new (.lst ds)) G1
theorem pd_tup {tr : RL} {k} (h : PDL X T F es tr) : PD X T F (.Tuple es k pos) (tTup tr) := by
  refine ⟨fun hK hc B H σ G K S q => tG_of (pe_tup (pa_G X es)) ?_⟩
  refine tGA_mono (h.run hK hc B H σ G _ S q) fun vs H1 ⟨B1, ds, G1, S1, k1, i1, z, q1⟩ => ?_
  exact ⟨by rw [i1.length]; exact z, fun p hp => Post.more k1 (Post.new S1 hp (.tup upd_same (i1.mono (same_upd (S1.bh.free hp)))) q1)⟩
theorem pd_lst {tr : RL} (h : PDL X T F es tr) : PD X T F (.List es pos) (tLst tr) := by
  refine ⟨fun hK hc B H σ G K S q => tG_of (pe_lst (pa_G X es)) ?_⟩
  refine tGA_mono (h.run hK hc B H σ G _ S q) fun vs H1 ⟨B1, ds, G1, S1, k1, i1, z, q1⟩ => ?_
  exact ⟨by rw [i1.length]; exact z, fun p hp => Post.more k1 (Post.newL S1 hp i1 q1)⟩

@[simp ↓] def tONil : RO := fun G K => K [] G
@[simp ↓] def tOCons (t : RE) (r : RO) : RO := fun G K => t G fun o G1 => r G1 fun os G2 => K (o :: os) G2
structure PDO (X : Cx) (T : Tab) (F : Fr) (es : List Expr) (t : RO) : Prop where
  run : X.K = T.K → X.calm = true → ∀ (B H : Hp) (σ : L2.St) (G : Lo) (K : List Opd → Lo → Prop), Sta T F B H σ G → t G K → tGA X es σ H (PostA T F B H σ G K)
theorem OpdsOk.keep {B' H' : Hp} {G' : Lo} {vs : List V} {os : List Opd} (k : Kp B H σ G B' H' G') (h : OpdsOk T F B H σ G vs os) : OpdsOk T F B' H' σ G' vs os := by
  induction h with
  | nil => exact .nil
  | cons h t ih => exact .cons (h.keep k) ih
theorem pdo_nil : PDO X T F [] tONil := ⟨fun hK hc B H σ G K S h => tGA_of pa_nil ⟨B, [], G, S, Kp.refl, .nil, h⟩⟩
theorem pdo_cons {tr : RO} (ha : PD X T F e te) (hr : PDO X T F es tr) (hs : starEach (e :: es) X.env = (false, eval e X.env) :: starEach es X.env := by rfl) : PDO X T F (e :: es) (tOCons te tr) := by
  refine ⟨fun hK hc B H σ G K S h => tGA_of (pa_cons (pe_G X e) (pa_G X es) hs) ?_⟩
  refine tG_mono (ha.run hK hc B H σ G _ S h) fun v H1 ⟨B1, o, G1, S1, k1, i1, _, q⟩ => ?_
  refine tGA_mono (hr.run hK hc B1 H1 σ G1 _ S1 q) fun vs H2 ⟨B2, ds, G2, S2, k2, i2, q2⟩ => ?_
  exact ⟨B2, o :: ds, G2, S2, k1.trans k2, .cons (i1.keep k2) i2, q2⟩

/-! ### built-ins by name -/
abbrev GC := Lo → List Opd → (Opd → Lo → Prop) → Prop
def CallD (X : Cx) (T : Tab) (F : Fr) (f : Value) (g : GC) : Prop :=
  X.K = T.K → X.calm = true → ∃ r : List V → Hp → VK → Prop, CallR X f r ∧ ∀ (B H : Hp) (σ : L2.St) (G : Lo) (vs : List V) (os : List Opd) (K : Opd → Lo → Prop) (Q : VK), Sta T F B H σ G → OpdsOk T F B H σ G vs os → g G os K →
    (∀ v H', Post T F B H σ G K v H' → Q v H') → r vs H Q
@[simp ↓] def tCal (g : GC) (t : RO) : RE := fun G K => t G fun os G1 => g G1 os K
theorem pd_callB {id : String} {g : GC} {x : Str} {p : Pos} {tr : RO} (hg : CallD X T F (.builtin id) g) (hm : X.mg x = none) (ha : PDO X T F (e :: es) tr) (hv : bootBuiltins x = some (.builtin id) := by decide +kernel) (hgl : Gl X x := by rfl) (hn : x ≠ "__name__" := by decide)
    (hdb : (x == ("__debug__" : Str)) = false := by decide) (he : starEach (e :: es) X.env = (false, eval e X.env) :: starEach es X.env := by rfl) (hpl : (backTo pos (starEach es X.env)).any (·.1) = false := by rfl) : PD X T F (.Call (.Name x p) (e :: es) [] pos) (tCal g tr) := by
  refine ⟨fun hK hc B H σ G K S h => ?_⟩
  obtain ⟨r, hr, q⟩ := hg hK hc
  refine tG_of (pe_callB hr hgl hm hv (pa_G X _) hn hdb he hpl) (tGA_mono (ha.run hK hc B H σ G _ S h) fun vs H1 ⟨B1, os, G1, S1, k1, i1, z⟩ => ?_)
  exact q _ _ _ _ _ _ K _ S1 i1 z fun v H' => Post.more k1
theorem pd_callTy {t : String} {g : GC} {x : Str} {p : Pos} {tr : RO} (hg : CallD X T F (.type t) g) (hm : X.mg x = none) (ha : PDO X T F (e :: es) tr) (hv : bootBuiltins x = some (.type t) := by decide +kernel) (hgl : Gl X x := by rfl) (hn : x ≠ "__name__" := by decide)
    (hdb : (x == ("__debug__" : Str)) = false := by decide) (he : starEach (e :: es) X.env = (false, eval e X.env) :: starEach es X.env := by rfl) (hpl : (backTo pos (starEach es X.env)).any (·.1) = false := by rfl) : PD X T F (.Call (.Name x p) (e :: es) [] pos) (tCal g tr) := by
  refine ⟨fun hK hc B H σ G K S h => ?_⟩
  obtain ⟨r, hr, q⟩ := hg hK hc
  refine tG_of (pe_callTy hr hgl hm hv (pa_G X _) hn hdb he hpl) (tGA_mono (ha.run hK hc B H σ G _ S h) fun vs H1 ⟨B1, os, G1, S1, k1, i1, z⟩ => ?_)
  exact q _ _ _ _ _ _ K _ S1 i1 z fun v H' => Post.more k1
/-- of one operand -/
@[simp ↓] def g1 (f : D → (Opd → Prop) → Prop) : GC := fun G os K => match os with
  | [o] => match cont G o with
    | some d => f d fun r => K r G
    | none => False
  | _ => False
theorem calld_1 {f : Value} {g : D → (Opd → Prop) → Prop} {r : List V → Hp → VK → Prop} (hr : X.K = T.K → X.calm = true → CallR X f r)
    (h : ∀ (B H : Hp) (σ : L2.St) (G : Lo) (v : V) (o : Opd) (d : D) (K : Opd → Lo → Prop) (Q : VK), X.K = T.K → Sta T F B H σ G → OpdOk T F B H σ G v o → See T B H v d → cont G o = some d → g d (fun r => K r G) → (∀ v H', Post T F B H σ G K v H' → Q v H') → r [v] H Q) : CallD X T F f (g1 g) := by
  intro hK hc
  refine ⟨r, hr hK hc, fun B H σ G vs os K Q S i q k => ?_⟩
  unfold g1 at q
  split at q
  · rename_i o
    split at q
    · rename_i d e1
      cases i with
      | cons h1 t =>
        cases t
        exact h B H σ G _ o d K Q hK S h1 (S.see h1 e1) e1 q k
    · exact q.elim
  · exact q.elim
@[simp ↓] def fLen (d : D) (K : Opd → Prop) : Prop := match d with
  | .str x => x.length ≤ sizeLine ∧ K (.imm (.int x.length))
  | .lst ds => K (.imm (.int ds.length))
  | .tup ds => K (.imm (.int ds.length))
  | .dct ds => K (.imm (.int ds.length))
  | .scr ds => K (.imm (.int ds.length))
  | _ => False
theorem IsK.length : ∀ {vs : List (Key × V)} {ds : List (Key × D)}, IsK T B vs ds → vs.length = ds.length
  | _, _, .nil => rfl
  | _, _, .cons _ t => by rw [List.length_cons, List.length_cons, IsK.length t]
theorem dget_rd {H : Hp} {a : Addr} {kvs : List (Key × V)} {k : Key} (e : Rd H a (.dK kvs)) : DGet H a (kV k) (valV kvs k) := .inl ⟨kvs, k, e, rfl, rfl⟩
theorem call_lenDR {X : Cx} : CallR X (.builtin "len") (fun xs H Q => ∃ a kvs, xs = [V.ref a] ∧ Rd H a (.dK kvs) ∧ Q (.int kvs.length) H) := by
  intro pins s σ H xs us Q I r h
  obtain ⟨a, kvs, rfl, e, q⟩ := h
  obtain ⟨u, rfl, r1⟩ := vals1 r
  obtain rfl : u = Value.ref a := r1
  exact d_len I e fun t s' I' => ⟨.int kvs.length, H, I', ⟨_, rfl⟩, q⟩
theorem cd_len : CallD X T F (.builtin "len") (g1 fLen) := by
  refine calld_1 (fun _ _ => call_len_str.or (call_len_seq.or call_lenDR)) fun B H σ G v o d K Q hK S h s _ q k => ?_
  unfold fLen at q
  split at q
  · cases s
    exact .inl ⟨_, rfl, q.1, k _ _ (Post.imm S (.int _) q.2)⟩
  · obtain ⟨a, vs, rfl, ha, l⟩ := s
    exact .inr (.inl ⟨a, vs, rfl, .inl (SqL.of ha), k _ _ (Post.imm S (.int _) (by rw [l.length]; exact q))⟩)
  · obtain ⟨a, vs, rfl, ha, l⟩ := s
    exact .inr (.inl ⟨a, vs, rfl, .inr (SqT.of (S.bh _ _ ha)), k _ _ (Post.imm S (.int _) (by rw [l.length]; exact q))⟩)
  · obtain ⟨a, vs, rfl, ha, l⟩ := s
    exact .inr (.inr ⟨a, vs, rfl, ha, k _ _ (Post.imm S (.int _) (by rw [l.length]; exact q))⟩)
  · cases s with
    | scr h => exact .inr (.inl ⟨_, _, rfl, .inl (by rw [hK]; exact sql_mono S.bh h), k _ _ (Post.imm S (.int _) (by rw [List.length_map]; exact q))⟩)
  · exact q.elim
@[simp ↓] def fInt (d : D) (K : Opd → Prop) : Prop := match d with
  | .int i => K (.imm (.int i))
  | .bl b => K (.imm (.int (if b then 1 else 0)))
  | _ => False
theorem cd_int : CallD X T F (.type "int") (g1 fInt) := by
  refine calld_1 (fun _ _ => call_int1) fun B H σ G v o d K Q hK S h s _ q k => ?_
  unfold fInt at q
  split at q
  · cases s
    exact .inl ⟨_, rfl, k _ _ (Post.imm S (.int _) q)⟩
  · cases s
    exact .inr ⟨_, rfl, k _ _ (Post.imm S (.int _) q)⟩
  · exact q.elim
@[simp ↓] def fAbs (d : D) (K : Opd → Prop) : Prop := match d with
  | .int i => K (.imm (.int (if i < 0 then -i else i)))
  | _ => False
theorem cd_abs : CallD X T F (.builtin "abs") (g1 fAbs) := by
  refine calld_1 (fun _ _ => call_abs) fun B H σ G v o d K Q hK S h s _ q k => ?_
  unfold fAbs at q
  split at q
  · cases s
    exact ⟨_, rfl, k _ _ (Post.imm S (.int _) q)⟩
  · exact q.elim
@[simp ↓] def blsD : List D → Option (List Bool)
  | [] => some []
  | .bl b :: ds => match blsD ds with
    | some l => some (b :: l)
    | none => none
  | _ :: _ => none
theorem blsD_ok : ∀ {vs : List V} {ds : List D} {bs : List Bool}, IsL T B vs ds → blsD ds = some bs → vs = bs.map V.bl
  | _, _, _, .nil, e => by
    cases e
    rfl
  | _, _, _, .cons (ds := ds) h t, e => by
    cases h with
    | bl b =>
      unfold blsD at e
      cases e2 : blsD ds with
      | none =>
        rw [e2] at e
        cases e
      | some l =>
        rw [e2] at e
        cases e
        rw [blsD_ok t e2]
        rfl
    | _ => cases e
@[simp ↓] def intsD : List D → Option (List Int)
  | [] => some []
  | .int b :: ds => match intsD ds with
    | some l => some (b :: l)
    | none => none
  | _ :: _ => none
theorem intsD_ok : ∀ {vs : List V} {ds : List D} {bs : List Int}, IsL T B vs ds → intsD ds = some bs → vs = bs.map V.int
  | _, _, _, .nil, e => by
    cases e
    rfl
  | _, _, _, .cons (ds := ds) h t, e => by
    cases h with
    | int b =>
      unfold intsD at e
      cases e2 : intsD ds with
      | none =>
        rw [e2] at e
        cases e
      | some l =>
        rw [e2] at e
        cases e
        rw [intsD_ok t e2]
        rfl
    | _ => cases e
@[simp ↓] def strsD : List D → Option (List Str)
  | [] => some []
  | .str b :: ds => match strsD ds with
    | some l => some (b :: l)
    | none => none
  | _ :: _ => none
theorem strsD_ok : ∀ {vs : List V} {ds : List D} {bs : List Str}, IsL T B vs ds → strsD ds = some bs → vs = bs.map V.str
  | _, _, _, .nil, e => by
    cases e
    rfl
  | _, _, _, .cons (ds := ds) h t, e => by
    cases h with
    | str b =>
      unfold strsD at e
      cases e2 : strsD ds with
      | none =>
        rw [e2] at e
        cases e
      | some l =>
        rw [e2] at e
        cases e
        rw [strsD_ok t e2]
        rfl
    | _ => cases e
@[simp ↓] def fAll (d : D) (K : Opd → Prop) : Prop := match d with
  | .lst ds => match blsD ds with
    | some bs => K (.imm (.bl (bs.all id)))
    | none => False
  | _ => False
@[simp ↓] def fAny (d : D) (K : Opd → Prop) : Prop := match d with
  | .lst ds => match blsD ds with
    | some bs => K (.imm (.bl (bs.any id)))
    | none => False
  | _ => False
@[simp ↓] def fSum (d : D) (K : Opd → Prop) : Prop := match d with
  | .lst ds => match intsD ds with
    | some bs => K (.imm (.int bs.sum))
    | none => False
  | _ => False
theorem cd_all : CallD X T F (.builtin "all") (g1 fAll) := by
  refine calld_1 (fun _ hc => cr_all hc) fun B H σ G v o d K Q hK S h s _ q k => ?_
  unfold fAll at q
  split at q
  · obtain ⟨a, vs, rfl, ha, l⟩ := s
    split at q
    · rename_i e
      exact ⟨a, _, rfl, by rw [blsD_ok l e] at ha; exact SqL.of ha, k _ _ (Post.imm S (.bl _) q)⟩
    · exact q.elim
  · exact q.elim
theorem cd_any : CallD X T F (.builtin "any") (g1 fAny) := by
  refine calld_1 (fun _ hc => cr_any hc) fun B H σ G v o d K Q hK S h s _ q k => ?_
  unfold fAny at q
  split at q
  · obtain ⟨a, vs, rfl, ha, l⟩ := s
    split at q
    · rename_i e
      exact ⟨a, _, rfl, by rw [blsD_ok l e] at ha; exact SqL.of ha, k _ _ (Post.imm S (.bl _) q)⟩
    · exact q.elim
  · exact q.elim
theorem cd_sum : CallD X T F (.builtin "sum") (g1 fSum) := by
  refine calld_1 (fun _ hc => cr_sum hc) fun B H σ G v o d K Q hK S h s _ q k => ?_
  unfold fSum at q
  split at q
  · obtain ⟨a, vs, rfl, ha, l⟩ := s
    split at q
    · rename_i e
      exact ⟨a, _, rfl, by rw [intsD_ok l e] at ha; exact SqL.of ha, k _ _ (Post.imm S (.int _) q)⟩
    · exact q.elim
  · exact q.elim
@[simp ↓] def fList (d : D) (K : Opd → Prop) : Prop := match d with
  | .lst ds => K (.new (.lst ds))
  | .tup ds => K (.new (.lst ds))
  | _ => False
theorem cd_list : CallD X T F (.type "list") (g1 fList) := by
  refine calld_1 (fun _ _ => call_list_of) fun B H σ G v o d K Q hK S h s _ q k => ?_
  unfold fList at q
  split at q
  · obtain ⟨a, vs, rfl, ha, l⟩ := s
    exact ⟨a, vs, rfl, .inl (SqL.of ha), fun p hp => k _ _ (Post.newL S hp l q)⟩
  · obtain ⟨a, vs, rfl, ha, l⟩ := s
    exact ⟨a, vs, rfl, .inr (SqT.of (S.bh _ _ ha)), fun p hp => k _ _ (Post.newL S hp l q)⟩
  · exact q.elim
@[simp ↓] def fTuple (d : D) (K : Opd → Prop) : Prop := match d with
  | .lst ds => K (.imm (.tup ds))
  | .tup ds => K (.imm (.tup ds))
  | _ => False
theorem cd_tuple : CallD X T F (.type "tuple") (g1 fTuple) := by
  refine calld_1 (fun _ _ => call_tuple_of) fun B H σ G v o d K Q hK S h s _ q k => ?_
  unfold fTuple at q
  split at q
  · obtain ⟨a, vs, rfl, ha, l⟩ := s
    exact ⟨a, vs, rfl, .inl ⟨SqL.of ha, fun p hp => k _ _ (Post.new S hp (.tup upd_same (l.mono (same_upd (S.bh.free hp)))) q)⟩⟩
  · obtain ⟨a, vs, rfl, ha, l⟩ := s
    exact ⟨a, vs, rfl, .inr ⟨SqT.of (S.bh _ _ ha), k _ _ (Post.imm S (.tup ha l) q)⟩⟩
  · exact q.elim
@[simp ↓] def g2I (f : Int → Int → Int) : GC := fun G os K => match os with
  | [o, p] => match cont G o, cont G p with
    | some (.int i), some (.int j) => K (.imm (.int (f i j))) G
    | _, _ => False
  | _ => False
theorem cd_2I {f : Value} {g : Int → Int → Int} (h : X.calm = true → CallR X f (fun xs H Q => ∃ i j, xs = [.int i, .int j] ∧ Q (.int (g i j)) H)) : CallD X T F f (g2I g) := by
  intro hK hc
  refine ⟨_, h hc, fun B H σ G vs os K Q S i q k => ?_⟩
  unfold g2I at q
  split at q
  · split at q
    · rename_i e1 e2
      cases i with
      | cons h1 t =>
        cases t with
        | cons h2 t =>
          cases t
          have r1 := see_int S h1 e1
          have r2 := see_int S h2 e2
          subst r1 r2
          exact ⟨_, _, rfl, k _ _ (Post.imm S (.int _) q)⟩
    · exact q.elim
  · exact q.elim
theorem cd_max : CallD X T F (.builtin "max") (g2I fun i j => if j > i then j else i) := cd_2I call_max2
theorem cd_min : CallD X T F (.builtin "min") (g2I fun i j => if j < i then j else i) := cd_2I call_min2

/-! ### subscripts -/
@[simp ↓] def ixP (d d' : D) (K : Opd → Prop) : Prop := match d, d' with
  | .lst ds, .int i => match atI ds i with
    | some x => K (.imm x)
    | none => False
  | .tup ds, .int i => match atI ds i with
    | some x => K (.imm x)
    | none => False
  | .scr ns, .int i => match atI ns i with
    | some n => K (.imm (.int n))
    | none => False
  | .str x, .int i => x.length ≤ sizeLine ∧ (match atI x.cps.toList i with
    | some c => K (.imm (.str ⟨#[c]⟩))
    | none => False)
  | _, _ => False
theorem IsL.atI {vs : List V} {ds : List D} {i : Int} {d : D} (l : IsL T B vs ds) (e : atI ds i = some d) : ∃ v, L2.atI vs i = some v ∧ Is T B v d := by
  unfold L2.atI at e ⊢
  rw [l.length]
  cases q : ixN ds.length i with
  | none =>
    rw [q] at e
    cases e
  | some j =>
    rw [q] at e
    have e2 : ds[j]? = some d := e
    obtain ⟨v, h1, h2⟩ := l.get e2
    exact ⟨v, h1, h2⟩
theorem atI_map {α β : Type} (f : α → β) (xs : List α) (i : Int) : L2.atI (xs.map f) i = (L2.atI xs i).map f := by
  unfold L2.atI
  rw [List.length_map]
  cases ixN xs.length i with
  | none => rfl
  | some j =>
    show (xs.map f)[j]? = (xs[j]?).map f
    rw [List.getElem?_map]
@[simp ↓] def tIx (ta tb : RE) : RE := fun G K => ta G fun o G1 => tb G1 fun p G2 => match cont G2 o, cont G2 p with
  | some d, some d' => ixP d d' fun r => K r G2
  | _, _ => False
theorem pd_ix (ha : PD X T F a ta) (hb : PD X T F b tb) (hs : PlainIx b := by intro _ _; rfl) : PD X T F (.Subscript a b pos) (tIx ta tb) := by
  refine ⟨fun hK hc B H σ G K S h => tG_of (pe_ix ix_seq (pe_G X a) (pe_G X b) hs) ?_⟩
  refine run2 (g := fun G o p K => match cont G o, cont G p with
    | some d, some d' => ixP d d' fun r => K r G
    | _, _ => False) (R := fun x y H1 => rIx X.K x y H1 (Post T F B H σ G K)) hK hc ha hb S h fun B1 H1 G1 x y o p S1 k1 h1 h2 z => ?_
  have hq : ∀ v H', Post T F B1 H1 σ G1 K v H' → Post T F B H σ G K v H' := fun v H' => Post.more k1
  split at z
  · rename_i d d' e1 e2
    have s1 := S1.see h1 e1
    have s2 := S1.see h2 e2
    unfold ixP at z
    split at z
    · cases s2
      obtain ⟨a, vs, rfl, ha, l⟩ := s1
      split at z
      · rename_i d e
        obtain ⟨w, q1, q2⟩ := l.atI e
        exact .inl ⟨a, vs, _, w, rfl, rfl, SqL.of ha, q1, hq _ _ (Post.imm S1 q2 z)⟩
      · exact z.elim
    · cases s2
      obtain ⟨a, vs, rfl, ha, l⟩ := s1
      split at z
      · rename_i d e
        obtain ⟨w, q1, q2⟩ := l.atI e
        exact .inr (.inl ⟨a, vs, _, w, rfl, rfl, SqT.of (S1.bh _ _ ha), q1, hq _ _ (Post.imm S1 q2 z)⟩)
      · exact z.elim
    · cases s2
      cases s1 with
      | scr h =>
        split at z
        · rename_i n e
          exact .inl ⟨_, _, _, .int n, rfl, rfl, by rw [hK]; exact sql_mono S1.bh h, by rw [atI_map, e]; rfl, hq _ _ (Post.imm S1 (.int _) z)⟩
        · exact z.elim
    · cases s2
      cases s1
      obtain ⟨z1, z⟩ := z
      split at z
      · rename_i c e
        exact .inr (.inr ⟨_, _, c, rfl, rfl, z1, e, hq _ _ (Post.imm S1 (.str _) z)⟩)
      · exact z.elim
    · exact z.elim
  · exact z.elim

/-! ### slices -/
abbrev RP := Lo → (Option Int → Lo → Prop) → Prop
def tGP (X : Cx) (e : Option Expr) : TO := fun σ H Q => ∀ (pins : List (Addr × Obj)) (s : Shared), Inv X pins σ H s →
    wpAny (model X.prog X.w) X.A (evalPart e X.env) (fun u s' => ∃ o H', Inv X pins σ H' s' ∧ IsPart u o ∧ Q o H') X.xe s
theorem po_G (X : Cx) (e : Option Expr) : PO X e (tGP X e) := ⟨fun pins s σ H Q I h => h pins s I⟩
theorem tGP_of {e : Option Expr} {t : TO} (h : PO X e t) {Q : Option Int → Hp → Prop} (q : t σ H Q) : tGP X e σ H Q := fun pins s I => h.run pins s σ H Q I q
theorem tGP_mono {e : Option Expr} {Q Q' : Option Int → Hp → Prop} (h : tGP X e σ H Q) (k : ∀ v H, Q v H → Q' v H) : tGP X e σ H Q' := fun pins s I =>
  thn (h pins s I) fun u s1 ⟨o, H1, I1, r, q⟩ => ⟨o, H1, I1, r, k o H1 q⟩
def PostP (T : Tab) (F : Fr) (B H : Hp) (σ : L2.St) (G : Lo) (K : Option Int → Lo → Prop) : Option Int → Hp → Prop := fun i H' => ∃ B' G', Sta T F B' H' σ G' ∧ Kp B H σ G B' H' G' ∧ K i G'
structure PDP (X : Cx) (T : Tab) (F : Fr) (e : Option Expr) (t : RP) : Prop where
  run : X.K = T.K → X.calm = true → ∀ (B H : Hp) (σ : L2.St) (G : Lo) (K : Option Int → Lo → Prop), Sta T F B H σ G → t G K → tGP X e σ H (PostP T F B H σ G K)
@[simp ↓] def tPNo : RP := fun G K => K none G
@[simp ↓] def tPSo (t : RE) : RP := fun G K => t G fun o G1 => match cont G1 o with
  | some (.int i) => K (some i) G1
  | _ => False
theorem pdp_no : PDP X T F none tPNo := ⟨fun hK hc B H σ G K S h => tGP_of po_none ⟨B, G, S, Kp.refl, h⟩⟩
theorem pdp_so (ha : PD X T F e te) : PDP X T F (some e) (tPSo te) := by
  refine ⟨fun hK hc B H σ G K S h => tGP_of (po_some (pe_G X e)) ?_⟩
  refine tG_mono (ha.run hK hc B H σ G _ S h) fun v H1 ⟨B1, o, G1, S1, k1, i1, _, z⟩ => ?_
  dsimp only at z
  split at z
  · rename_i e1
    exact ⟨_, see_int S1 i1 e1, ⟨B1, G1, S1, k1, z⟩⟩
  · exact z.elim
def cutL {α : Type} (xs : List α) (lo hi : Option Int) : List α := (xs.drop (HT.sIx xs.length 0 lo)).take (HT.sIx xs.length xs.length hi - HT.sIx xs.length 0 lo)
@[simp ↓] def slP (d : D) (lo hi : Option Int) (K : Opd → Prop) : Prop := match d with
  | .lst ds => K (.new (.lst (cutL ds lo hi)))
  | .tup ds => K (.imm (.tup (cutL ds lo hi)))
  | .str x => x.length ≤ sizeLine ∧ K (.imm (.str (cutS x lo hi)))
  | _ => False
theorem IsL.cut {vs : List V} {ds : List D} (l : IsL T B vs ds) (lo hi : Option Int) : IsL T B (cutV vs lo hi) (cutL ds lo hi) := by
  unfold cutV cutL
  rw [l.length]
  exact (l.drop _).take _
theorem cutL_whole {α : Type} {xs : List α} {lo hi : Option Int} (h : HT.sIx xs.length 0 lo = 0 ∧ HT.sIx xs.length xs.length hi = xs.length) : cutL xs lo hi = xs := by
  unfold cutL
  rw [h.1, h.2]
  simp
@[simp ↓] def tSli (ta : RE) (tl th : RP) : RE := fun G K => ta G fun o G1 => tl G1 fun lo G2 => th G2 fun hi G3 => match cont G3 o with
  | some d => slP d lo hi fun r => K r G3
  | none => False
theorem pd_sli {lo hi : Option Expr} {tl th : RP} {p2 : Pos} (ha : PD X T F a ta) (hl : PDP X T F lo tl) (hh : PDP X T F hi th) : PD X T F (.Subscript a (.Slice lo hi none p2) pos) (tSli ta tl th) := by
  refine ⟨fun hK hc B H σ G K S h => tG_of (pe_slice (sl_list.or (sl_tupA.or sl_str)) (pe_G X a) (po_G X lo) (po_G X hi)) ?_⟩
  refine tG_mono (ha.run hK hc B H σ G _ S h) fun v H1 ⟨B1, o, G1, S1, k1, h1, _, z1⟩ => ?_
  refine tGP_mono (hl.run hK hc B1 H1 σ G1 _ S1 z1) fun l H2 ⟨B2, G2, S2, k2, z2⟩ => ?_
  refine tGP_mono (hh.run hK hc B2 H2 σ G2 _ S2 z2) fun u H3 ⟨B3, G3, S3, k3, z3⟩ => ?_
  have h3 := (h1.keep k2).keep k3
  have hq : ∀ v H', Post T F B3 H3 σ G3 K v H' → Post T F B H σ G K v H' := fun v H' => Post.more (k1.trans (k2.trans k3))
  dsimp only at z3
  split at z3
  · rename_i d e1
    have s1 := S3.see h3 e1
    unfold slP at z3
    split at z3
    · obtain ⟨a, vs, rfl, ha, l⟩ := s1
      exact .inl ⟨a, vs, rfl, SqL.of ha, fun p hp => hq _ _ (Post.newL S3 hp (l.cut _ _) z3)⟩
    · obtain ⟨a, vs, rfl, ha, l⟩ := s1
      refine .inr (.inl ⟨a, vs, rfl, SqT.of (S3.bh _ _ ha), fun hw => ?_, fun _ p hp => hq _ _ (Post.new S3 hp (.tup upd_same ((l.cut _ _).mono (same_upd (S3.bh.free hp)))) z3)⟩)
      rw [l.length] at hw
      rw [cutL_whole hw] at z3
      exact hq _ _ (Post.imm S3 (.tup ha l) z3)
    · cases s1
      exact .inr (.inr ⟨_, rfl, z3.1, hq _ _ (Post.imm S3 (.str _) z3.2)⟩)
    · exact z3.elim
  · exact z3.elim

/-! ### methods of texts -/
abbrev GM := Str → D → (Opd → Prop) → Prop
@[simp ↓] def tMt (g : GM) (ta tb : RE) : RE := fun G K => ta G fun o G1 => match cont G1 o with
  | some (.str x) => tb G1 fun p G2 => match cont G2 p with
    | some d => g x d fun r => K r G2
    | none => False
  | _ => False
@[simp ↓] def mPartition : GM := fun x d' K => match d' with
  | .str y => (y.length == 0) = false ∧ x.length ≤ sizeLine ∧ K (.imm (.tup [.str (Txt.partition x y).1, .str (Txt.partition x y).2.1, .str (Txt.partition x y).2.2]))
  | _ => False
@[simp ↓] def mSplit : GM := fun x d' K => match d' with
  | .str y => (y.length == 0) = false ∧ x.length + 2 ≤ sizeLine ∧ K (.new (.lst ((Txt.split x y).map .str)))
  | _ => False
@[simp ↓] def mJoin : GM := fun x d' K => match d' with
  | .lst ds => match strsD ds with
    | some ys => (ys.map (·.length)).sum + ys.length * x.length ≤ 16777216 ∧ K (.imm (.str (Txt.join x ys)))
    | none => False
  | .tup ds => match strsD ds with
    | some ys => (ys.map (·.length)).sum + ys.length * x.length ≤ 16777216 ∧ K (.imm (.str (Txt.join x ys)))
    | none => False
  | _ => False
theorem isL_strs : ∀ xs : List Str, IsL T B (xs.map V.str) (xs.map D.str)
  | [] => .nil
  | x :: xs => .cons (.str x) (isL_strs xs)
theorem run_m1 {r : V → List V → Hp → VK → Prop} {g : GM} (hK : X.K = T.K) (hc : X.calm = true) (ha : PD X T F a ta) (hb : PD X T F b tb) {K : Opd → Lo → Prop} (S : Sta T F B H σ G) (h : tMt g ta tb G K)
    (hg : ∀ (B H : Hp) (G : Lo) (y : V) (x : Str) (d' : D) (K : Opd → Lo → Prop) (Q : VK), Sta T F B H σ G → See T B H y d' → g x d' (fun r => K r G) → (∀ v H', Post T F B H σ G K v H' → Q v H') → r (.str x) [y] H Q) :
    tM1 r (tG X a) (tG X b) σ H (Post T F B H σ G K) := by
  refine tG_mono (ha.run hK hc B H σ G _ S h) fun v H1 ⟨B1, o, G1, S1, k1, h1, _, z1⟩ => ?_
  dsimp only at z1
  split at z1
  · rename_i x e1
    have ev := see_str S1 h1 e1
    subst ev
    refine ⟨⟨x, rfl⟩, tG_mono (hb.run hK hc B1 H1 σ G1 _ S1 z1) fun y H2 ⟨B2, p, G2, S2, k2, h2, _, z2⟩ => ?_⟩
    dsimp only at z2
    split at z2
    · rename_i d' e2
      exact hg B2 H2 G2 y x d' K _ S2 (S2.see h2 e2) z2 fun v H' => Post.more (k1.trans k2)
    · exact z2.elim
  · exact z1.elim
theorem pd_partition {apos : Pos} (ha : PD X T F a ta) (hb : PD X T F b tb) (hs : starEach [b] X.env = [(false, eval b X.env)] := by rfl) (hbase : attributeBase a "partition" X.env (eval a X.env) = eval a X.env := by rfl) (hline : (apos.endLine == pos.line) = true := by rfl) :
    PD X T F (.Call (.Attribute a "partition" apos) [b] [] pos) (tMt mPartition ta tb) := by
  refine ⟨fun hK hc B H σ G K S h => tG_of (pe_partition (pe_G X a) (pe_G X b) hs hbase hline) (run_m1 hK hc ha hb S h fun B H G y x d' K Q S s q k => ?_)⟩
  unfold mPartition at q
  split at q
  · cases s
    exact ⟨x, _, rfl, rfl, q.1, q.2.1, fun p hp => k _ _ (Post.new S hp (.tup upd_same (.cons (.str _) (.cons (.str _) (.cons (.str _) .nil)))) q.2.2)⟩
  · exact q.elim
theorem pd_split {apos : Pos} (ha : PD X T F a ta) (hb : PD X T F b tb) (hs : starEach [b] X.env = [(false, eval b X.env)] := by rfl) (hbase : attributeBase a "split" X.env (eval a X.env) = eval a X.env := by rfl) (hline : (apos.endLine == pos.line) = true := by rfl) :
    PD X T F (.Call (.Attribute a "split" apos) [b] [] pos) (tMt mSplit ta tb) := by
  refine ⟨fun hK hc B H σ G K S h => tG_of (pe_split (pe_G X a) (pe_G X b) hs hbase hline) (run_m1 hK hc ha hb S h fun B H G y x d' K Q S s q k => ?_)⟩
  unfold mSplit at q
  split at q
  · cases s
    exact ⟨x, _, rfl, rfl, q.1, q.2.1, fun p hp => k _ _ (Post.newL S hp (isL_strs _) q.2.2)⟩
  · exact q.elim
theorem pd_join {apos : Pos} (ha : PD X T F a ta) (hb : PD X T F b tb) (hs : starEach [b] X.env = [(false, eval b X.env)] := by rfl) (hbase : attributeBase a "join" X.env (eval a X.env) = eval a X.env := by rfl) (hline : (apos.endLine == pos.line) = true := by rfl) :
    PD X T F (.Call (.Attribute a "join" apos) [b] [] pos) (tMt mJoin ta tb) := by
  refine ⟨fun hK hc B H σ G K S h => tG_of (pe_join (pe_G X a) (pe_G X b) hs hbase hline) (run_m1 hK hc ha hb S h fun B H G y x d' K Q S s q k => ?_)⟩
  unfold mJoin at q
  split at q
  · obtain ⟨a, vs, rfl, ha, l⟩ := s
    split at q
    · rename_i ys e
      rw [strsD_ok l e] at ha
      exact ⟨x, a, ys, rfl, rfl, .inl (by rw [hK]; exact SqL.of ha), q.1, k _ _ (Post.imm S (.str _) q.2)⟩
    · exact q.elim
  · obtain ⟨a, vs, rfl, ha, l⟩ := s
    split at q
    · rename_i ys e
      rw [strsD_ok l e] at ha
      exact ⟨x, a, ys, rfl, rfl, .inr (by rw [hK]; exact SqT.of (S.bh _ _ ha)), q.1, k _ _ (Post.imm S (.str _) q.2)⟩
    · exact q.elim
  · exact q.elim
end
end Fx
end
section
set_option Elab.async false
set_option linter.all false
set_option maxRecDepth 100000
set_option maxHeartbeats 2000000
/-! Fx5: lists that change, statements -/
namespace Fx
open PySem PySem.Spec PyProof.Rows L2

section
variable {X : Cx} {T : Tab} {F : Fr} {a b c e : Expr} {es : List Expr} {pos : Pos} {ta tb tc te : RE} {tt tu : RT}
variable {B H : Hp} {σ : L2.St} {G : Lo} {v : V} {o : Opd}

/-! ### the frame's own objects change -/
@[simp ↓] def ownW (G : Lo) (i : Nat) : Option Own := match G[i]? with
  | some (.own w) => some w
  | some (.par _ w) => some w
  | _ => none
@[simp ↓] def setO (G : Lo) (i : Nat) (w : Own) : Lo := match G[i]? with
  | some (.own _) => G.set i (.own w)
  | some (.par j _) => G.set i (.par j w)
  | _ => G
theorem setO_len {i : Nat} {w : Own} : (setO G i w).length = G.length := by
  unfold setO
  split
  · rw [List.length_set]
  · rw [List.length_set]
  · rfl
theorem get_set {i j : Nat} {s s' : Slot} (h : (G.set i s)[j]? = some s') : (j = i ∧ s' = s) ∨ (j ≠ i ∧ G[j]? = some s') := by
  by_cases z : j = i
  · subst z
    by_cases hl : j < G.length
    · rw [List.getElem?_set_self hl] at h
      exact .inl ⟨rfl, (Option.some.inj h).symm⟩
    · rw [List.getElem?_eq_none_iff.mpr (by rw [List.length_set]; omega)] at h
      cases h
  · rw [List.getElem?_set_ne (Ne.symm z)] at h
    exact .inr ⟨z, h⟩
theorem own_at {i : Nat} {w : Own} (S : Sta T F B H σ G) (h : ownW G i = some w) : ∃ p, σ[i]? = some (some (.ref p)) ∧ OwnAt σ G i p ∧ B p = none ∧ OwnIs T B H p w := by
  unfold ownW at h
  split at h
  · rename_i w' e
    cases h
    obtain ⟨p, e1, e2, e3, _⟩ := S.sl i _ e
    have e4 := join_some e1
    exact ⟨p, e4, ⟨e4, w, .inl e⟩, e2, e3⟩
  · rename_i j w' e
    cases h
    obtain ⟨p, e1, e2, e3, _⟩ := S.sl i _ e
    have e4 := join_some e1
    exact ⟨p, e4, ⟨e4, w, .inr ⟨j, e⟩⟩, e2, e3⟩
  · cases h
theorem ownAt_setO {i j : Nat} {w : Own} {q : Addr} (h : OwnAt σ (setO G i w) j q) : OwnAt σ G j q := by
  obtain ⟨h1, w', h2⟩ := h
  refine ⟨h1, ?_⟩
  unfold setO at h2
  split at h2
  · rename_i x e
    rcases h2 with h2 | ⟨k, h2⟩
    · rcases get_set h2 with ⟨rfl, _⟩ | ⟨_, z⟩
      · exact ⟨_, .inl e⟩
      · exact ⟨_, .inl z⟩
    · rcases get_set h2 with ⟨_, z⟩ | ⟨_, z⟩
      · cases z
      · exact ⟨_, .inr ⟨_, z⟩⟩
  · rename_i k x e
    rcases h2 with h2 | ⟨k, h2⟩
    · rcases get_set h2 with ⟨_, z⟩ | ⟨_, z⟩
      · cases z
      · exact ⟨_, .inl z⟩
    · rcases get_set h2 with ⟨rfl, z⟩ | ⟨_, z⟩
      · exact ⟨_, .inr ⟨_, e⟩⟩
      · exact ⟨_, .inr ⟨_, z⟩⟩
  · exact ⟨_, h2⟩
theorem Sta.mut {i : Nat} {p : Addr} {u : HO} {w w' : Own} (S : Sta T F B H σ G) (hw : ownW G i = some w) (hp : OwnAt σ G i p) (hn : OwnIs T B (upd H p u) p w') : Sta T F B (upd H p u) σ (setO G i w') := by
  obtain ⟨p', e1, e2, e3, e4⟩ := own_at S hw
  have e5 : p = p' := by
    have z := hp.1.symm.trans e1
    have z2 : V.ref p = V.ref p' := Option.some.inj (Option.some.inj z)
    injection z2
  subst e5
  have out : ∀ j q, OwnAt σ G j q → j ≠ i → q ≠ p := fun j q h1 ne z => S.dj j i q ne h1 (by rw [z]; exact hp)
  have nt : ∀ ps, H p ≠ some (.tbl ps) := fun ps z => by
    obtain ⟨_, w0, h2⟩ := hp
    rcases h2 with h2 | ⟨k, h2⟩
    · obtain ⟨q, f1, _, f3, _⟩ := S.sl i _ h2
      have f5 := join_some f1
      rw [e1] at f5
      cases f5
      exact f3.nt z ps rfl
    · obtain ⟨q, f1, _, f3, _⟩ := S.sl i _ h2
      have f5 := join_some f1
      rw [e1] at f5
      cases f5
      exact f3.nt z ps rfl
  refine ⟨fun x o e => ?_, S.b0, fun x o e m n => ?_, fun x hx => ?_, S.nb, by rw [setO_len]; exact S.len, fun j s e => ?_, fun j k q ne h1 h2 => S.dj j k q ne (ownAt_setO h1) (ownAt_setO h2), fun a h => there_upd (S.al a h), S.tb.write nt⟩
  · rw [upd_ne (ne_of_none e e3)]
    exact S.bh x o e
  · have hx := S.h0 x o e m n
    have ne : x ≠ p := fun z => by
      subst z
      obtain ⟨_, w0, h2⟩ := hp
      rcases h2 with h2 | ⟨k, h2⟩
      · obtain ⟨q, f1, _, _, f4⟩ := S.sl i _ h2
        have f5 := join_some f1
        rw [e1] at f5
        cases f5
        rw [e] at f4
        cases f4
      · obtain ⟨q, f1, _, _, f4⟩ := S.sl i _ h2
        have f5 := join_some f1
        rw [e1] at f5
        cases f5
        exact n (List.mem_of_getElem? f4)
    rw [upd_ne ne]
    exact hx
  · by_cases z : x = p
    · subst z
      rw [upd_same]
      exact fun z => nomatch z
    · rw [upd_ne z]
      exact S.a0 x hx
  · have key : ∀ s, G[j]? = some s → j ≠ i → SlotOk T F B (upd H p u) (σ[j]?).join s := fun s e ne => by
      have q := S.sl j s e
      cases s with
      | no => exact trivial
      | imm d => exact q
      | own x =>
        obtain ⟨y, f1, f2, f3, f4⟩ := q
        have g := out j y ⟨join_some f1, x, .inl e⟩ ne
        exact ⟨y, f1, f2, f3.mono (Same.refl _) (upd_ne g), f4⟩
      | par k x =>
        obtain ⟨y, f1, f2, f3, f4⟩ := q
        have g := out j y ⟨join_some f1, x, .inr ⟨k, e⟩⟩ ne
        exact ⟨y, f1, f2, f3.mono (Same.refl _) (upd_ne g), f4⟩
    unfold setO at e
    split at e
    · rename_i x e0
      rcases get_set e with ⟨rfl, rfl⟩ | ⟨ne, z⟩
      · obtain ⟨y, f1, f2, f3, f4⟩ := S.sl j _ e0
        have f5 := join_some f1
        rw [e1] at f5
        cases f5
        exact ⟨p, f1, f2, hn, f4⟩
      · exact key s z ne
    · rename_i k x e0
      rcases get_set e with ⟨rfl, rfl⟩ | ⟨ne, z⟩
      · obtain ⟨y, f1, f2, f3, f4⟩ := S.sl j _ e0
        have f5 := join_some f1
        rw [e1] at f5
        cases f5
        exact ⟨p, f1, f2, hn, f4⟩
      · exact key s z ne
    · rename_i n1 n2
      exfalso
      obtain ⟨_, w0, h2⟩ := hp
      rcases h2 with h2 | ⟨k, h2⟩
      · exact n1 _ h2
      · exact n2 _ _ h2
theorem Kp.mut {i : Nat} {p : Addr} {u : HO} {w' : Own} (hp : OwnAt σ G i p) : Kp B H σ G B (upd H p u) (setO G i w') :=
  ⟨Same.refl _, fun x o e m n => by rw [upd_ne (fun z => n (by rw [z]; exact ⟨i, hp⟩))]; exact e, fun x _ h _ => h, fun q ⟨j, z⟩ => ⟨j, ownAt_setO z⟩, fun x h => by
    by_cases z : x = p
    · subst z
      rw [upd_same]
      exact fun z => nomatch z
    · rw [upd_ne z]
      exact h⟩

/-- a method of the i-th local, a list of the frame's own -/
abbrev GW := List D → Opd → Lo → (Opd → List D → Prop) → Prop
@[simp ↓] def tOw (i : Nat) (g : List D → D → (Opd → List D → Prop) → Prop) (t : RE) : RE := fun G K => match ownW G i with
  | some (.lst _) => tFz t G fun d G1 => match ownW G1 i with
    | some (.lst ds) => g ds d fun o ds' => K o (setO G1 i (.lst ds'))
    | _ => False
  | _ => False
theorem run_own {i : Nat} {x : Str} {g : List D → D → (Opd → List D → Prop) → Prop} {r : V → List V → Hp → VK → Prop} (hN : X.N[i]? = some x) (hv : Vis X.env.scope x) (hd : (x == ("__debug__" : Str)) = false) (hcd : (x == ("__classdict__" : Str)) = false)
    (hK : X.K = T.K) (hc : X.calm = true) (ha : PD X T F e te) {K : Opd → Lo → Prop} (S : Sta T F B H σ G) (h : tOw i g te G K) (hse : starEach (e :: []) X.env = (false, eval e X.env) :: starEach [] X.env)
    (hg : ∀ (B H : Hp) (p : Addr) (vs : List V) (ds : List D) (v : V) (d : D) (K : Opd → List D → Prop) (Q : VK), Same B H → H p = some (.lst vs) → B p = none → IsL T B vs ds → Is T B v d → g ds d K →
      (∀ o v' vs' ds', K o ds' → IsL T B vs' ds' → (∃ d', o = .imm d' ∧ Is T B v' d') → Q v' (upd H p (.lst vs'))) → r (.ref p) [v] H Q) :
    tBM X.K "list" r (L2.tVar i) (tGA X [e]) σ H (Post T F B H σ G K) := by
  unfold tOw at h
  split at h
  · rename_i ds0 e0
    obtain ⟨p0, f1, f2, f3, vs0, f4, _⟩ := own_at S e0
    refine ⟨.ref p0, f1, .inl ⟨rfl, _, SqL.of f4⟩, tGA_of (pa_cons (pe_G X e) pa_nil hse) (tG_mono (run_fz ha hK hc S h) fun v H1 ⟨B1, d, G1, S1, k1, i1, q⟩ => ?_)⟩
    split at q
    · rename_i ds e1
      obtain ⟨p, g1, g2, g3, vs, g4, g5⟩ := own_at S1 e1
      have e5 : p0 = p := by
        rw [f1] at g1
        cases g1
        rfl
      subst e5
      refine hg B1 H1 p0 vs ds v d _ _ S1.bh g4 g3 g5 i1 q fun o v' vs' ds' hk hl ho => ?_
      obtain ⟨d', rfl, hi⟩ := ho
      exact ⟨B1, .imm d', _, S1.mut (w' := .lst ds') e1 g2 ⟨vs', upd_same, hl⟩, k1.trans (Kp.mut g2), hi, Nw.imm, hk⟩
    · exact q.elim
  · exact h.elim
@[simp ↓] def wAppend : List D → D → (Opd → List D → Prop) → Prop := fun ds d K => ds.length < sizeLine ∧ K (.imm .non) (ds ++ [d])
@[simp ↓] def wExtend : List D → D → (Opd → List D → Prop) → Prop := fun ds d K => match d with
  | .lst es => ds.length + es.length ≤ sizeLine ∧ K (.imm .non) (ds ++ es)
  | _ => False
@[simp ↓] def wPop : List D → D → (Opd → List D → Prop) → Prop := fun ds d K => match d with
  | .int i => -(2 ^ 63) ≤ i ∧ i < 2 ^ 63 ∧ (match ixN ds.length i with
    | some k => match ds[k]? with
      | some y => K (.imm y) (ds.eraseIdx k)
      | none => False
    | none => False)
  | _ => False
section
variable {x : Str} {p apos : Pos}
theorem pd_append (i : Nat) (ha : PD X T F e te) (hN : X.N[i]? = some x := by rfl) (hv : Vis X.env.scope x := by first | exact Or.inl rfl | exact Or.inr (Or.inl rfl) | exact Or.inr (Or.inr rfl)) (hd : (x == ("__debug__" : Str)) = false := by decide) (hcd : (x == ("__classdict__" : Str)) = false := by decide)
    (hbase : attributeBase (.Name x p) "append" X.env (eval (.Name x p) X.env) = eval (.Name x p) X.env := by rfl) (hse : starEach (e :: []) X.env = (false, eval e X.env) :: starEach [] X.env := by rfl)
    (hfew : ((backTo pos (starEach (e :: []) X.env)).all (fun x => !x.1) && (backToKw pos (keywordEach [] X.env)).all (fun x => x.1.isSome) && decide ((e :: []).length + ([] : List Keyword).length + (if ([] : List Keyword).isEmpty then 0 else 1) < 30)) = true := by rfl)
    (hline : (apos.endLine == pos.line) = true := by rfl) (hplain : (backTo pos (starEach [] X.env)).any (·.1) = false := by rfl) : PD X T F (.Call (.Attribute (.Name x p) "append" apos) [e] [] pos) (tOw i wAppend te) := by
  refine ⟨fun hK hc B H σ G K S h => tG_of (pe_bm PySem.F.plainAttrs_list PySem.F.slot_list_append PySem.F.type_list_append mt_append (pe_var (i := i) hN hv hd hcd) (pa_G X [e]) hbase hfew hline hse hplain) ?_⟩
  refine run_own hN hv hd hcd hK hc ha S h hse fun B H p vs ds v d K Q bh hp bp l hi q k => ?_
  exact ⟨p, vs, v, rfl, rfl, hp, by rw [l.length]; exact q.1, k _ _ _ _ q.2 (l.append (.cons hi .nil)) ⟨_, rfl, .non⟩⟩
theorem pd_extend (i : Nat) (ha : PD X T F e te) (hN : X.N[i]? = some x := by rfl) (hv : Vis X.env.scope x := by first | exact Or.inl rfl | exact Or.inr (Or.inl rfl) | exact Or.inr (Or.inr rfl)) (hd : (x == ("__debug__" : Str)) = false := by decide) (hcd : (x == ("__classdict__" : Str)) = false := by decide)
    (hbase : attributeBase (.Name x p) "extend" X.env (eval (.Name x p) X.env) = eval (.Name x p) X.env := by rfl) (hse : starEach (e :: []) X.env = (false, eval e X.env) :: starEach [] X.env := by rfl)
    (hfew : ((backTo pos (starEach (e :: []) X.env)).all (fun x => !x.1) && (backToKw pos (keywordEach [] X.env)).all (fun x => x.1.isSome) && decide ((e :: []).length + ([] : List Keyword).length + (if ([] : List Keyword).isEmpty then 0 else 1) < 30)) = true := by rfl)
    (hline : (apos.endLine == pos.line) = true := by rfl) (hplain : (backTo pos (starEach [] X.env)).any (·.1) = false := by rfl) : PD X T F (.Call (.Attribute (.Name x p) "extend" apos) [e] [] pos) (tOw i wExtend te) := by
  refine ⟨fun hK hc B H σ G K S h => tG_of (pe_bm PySem.F.plainAttrs_list PySem.F.slot_list_extend PySem.F.type_list_extend mt_extend (pe_var (i := i) hN hv hd hcd) (pa_G X [e]) hbase hfew hline hse hplain) ?_⟩
  refine run_own hN hv hd hcd hK hc ha S h hse fun B H p vs ds v d K Q bh hp bp l hi q k => ?_
  unfold wExtend at q
  split at q
  · cases hi with
    | lst h2 l2 => exact ⟨p, _, vs, _, rfl, rfl, hp, bh _ _ h2, by rw [l.length, l2.length]; exact q.1, k _ _ _ _ q.2 (l.append l2) ⟨_, rfl, .non⟩⟩
  · exact q.elim
theorem pd_pop (i : Nat) (ha : PD X T F e te) (hN : X.N[i]? = some x := by rfl) (hv : Vis X.env.scope x := by first | exact Or.inl rfl | exact Or.inr (Or.inl rfl) | exact Or.inr (Or.inr rfl)) (hd : (x == ("__debug__" : Str)) = false := by decide) (hcd : (x == ("__classdict__" : Str)) = false := by decide)
    (hbase : attributeBase (.Name x p) "pop" X.env (eval (.Name x p) X.env) = eval (.Name x p) X.env := by rfl) (hse : starEach (e :: []) X.env = (false, eval e X.env) :: starEach [] X.env := by rfl)
    (hfew : ((backTo pos (starEach (e :: []) X.env)).all (fun x => !x.1) && (backToKw pos (keywordEach [] X.env)).all (fun x => x.1.isSome) && decide ((e :: []).length + ([] : List Keyword).length + (if ([] : List Keyword).isEmpty then 0 else 1) < 30)) = true := by rfl)
    (hline : (apos.endLine == pos.line) = true := by rfl) (hplain : (backTo pos (starEach [] X.env)).any (·.1) = false := by rfl) : PD X T F (.Call (.Attribute (.Name x p) "pop" apos) [e] [] pos) (tOw i wPop te) := by
  refine ⟨fun hK hc B H σ G K S h => tG_of (pe_bm PySem.F.plainAttrs_list PySem.F.slot_list_pop PySem.F.type_list_pop mt_popAt (pe_var (i := i) hN hv hd hcd) (pa_G X [e]) hbase hfew hline hse hplain) ?_⟩
  refine run_own hN hv hd hcd hK hc ha S h hse fun B H p vs ds v d K Q bh hp bp l hi q k => ?_
  unfold wPop at q
  split at q
  · cases hi
    obtain ⟨q1, q2, q⟩ := q
    split at q
    · rename_i j ej
      split at q
      · rename_i y ey
        obtain ⟨w, w1, w2⟩ := l.get ey
        exact ⟨p, vs, _, j, w, rfl, rfl, hp, q1, q2, by rw [l.length]; exact (ixN_seq ej).1, w1, k _ _ _ _ q (l.erase j) ⟨y, rfl, w2⟩⟩
      · exact q.elim
    · exact q.elim
  · exact q.elim
end

/-! ### statements -/
structure En where
  nx : Lo → Prop
  rt : Opd → Lo → Prop
  bk : Lo → Prop := fun _ => False
  ct : Lo → Prop := fun _ => False
abbrev RS := En → Lo → Prop
def tGS (X : Cx) (st : Stmt) : TS := fun D σ H => ∀ (pins : List (Addr × Obj)) (s : Shared), Inv X pins σ H s → wpAny (model X.prog X.w) X.A (exec st X.env) (SP X pins D) X.xe s
def tGB (X : Cx) (st : List Stmt) : TS := fun D σ H => ∀ (pins : List (Addr × Obj)) (s : Shared), Inv X pins σ H s → wpAny (model X.prog X.w) X.A (execs st X.env) (SP X pins D) X.xe s
theorem ps_G (X : Cx) (st : Stmt) : PS X st (tGS X st) := ⟨fun pins s σ H D I h => h pins s I⟩
theorem pss_G (X : Cx) (st : List Stmt) : PSs X st (tGB X st) := ⟨fun pins s σ H D I h => h pins s I⟩
theorem tGS_of {st : Stmt} {t : TS} (h : PS X st t) {D : Ends} (q : t D σ H) : tGS X st D σ H := fun pins s I => h.run pins s σ H D I q
theorem tGB_of {st : List Stmt} {t : TS} (h : PSs X st t) {D : Ends} (q : t D σ H) : tGB X st D σ H := fun pins s I => h.run pins s σ H D I q
theorem SP.mono {pins : List (Addr × Obj)} {D D' : Ends} {f : Flow} {s : Shared} (h : SP X pins D f s) (h1 : ∀ σ H, D.nx σ H → D'.nx σ H) (h2 : ∀ v H, D.rt v H → D'.rt v H) (h3 : ∀ σ H, D.bk σ H → D'.bk σ H) (h4 : ∀ σ H, D.ct σ H → D'.ct σ H) : SP X pins D' f s := by
  cases f with
  | next =>
    obtain ⟨a, b, c, d⟩ := h
    exact ⟨a, b, c, h1 _ _ d⟩
  | brk =>
    obtain ⟨a, b, c, d⟩ := h
    exact ⟨a, b, c, h3 _ _ d⟩
  | cont =>
    obtain ⟨a, b, c, d⟩ := h
    exact ⟨a, b, c, h4 _ _ d⟩
  | ret u =>
    obtain ⟨v, a, b, c, r, d⟩ := h
    exact ⟨v, a, b, c, r, h2 _ _ d⟩
theorem tGB_mono {st : List Stmt} {D D' : Ends} (h : tGB X st D σ H) (h1 : ∀ σ H, D.nx σ H → D'.nx σ H) (h2 : ∀ v H, D.rt v H → D'.rt v H) (h3 : ∀ σ H, D.bk σ H → D'.bk σ H) (h4 : ∀ σ H, D.ct σ H → D'.ct σ H) : tGB X st D' σ H := fun pins s I =>
  thn (h pins s I) fun f s1 q => Fx.SP.mono q h1 h2 h3 h4
theorem tGS_mono {st : Stmt} {D D' : Ends} (h : tGS X st D σ H) (h1 : ∀ σ H, D.nx σ H → D'.nx σ H) (h2 : ∀ v H, D.rt v H → D'.rt v H) (h3 : ∀ σ H, D.bk σ H → D'.bk σ H) (h4 : ∀ σ H, D.ct σ H → D'.ct σ H) : tGS X st D' σ H := fun pins s I =>
  thn (h pins s I) fun f s1 q => Fx.SP.mono q h1 h2 h3 h4
/-- the ends over data -/
def Nx (T : Tab) (F : Fr) (B : Hp) (K : Lo → Prop) : L2.St → Hp → Prop := fun σ' H' => ∃ B' G', Sta T F B' H' σ' G' ∧ Same B B' ∧ K G'
def Rt (T : Tab) (F : Fr) (B : Hp) (K : Opd → Lo → Prop) : VK := fun v H' => ∃ B' o G' σ', Sta T F B' H' σ' G' ∧ Same B B' ∧ OpdOk T F B' H' σ' G' v o ∧ K o G'
def toE (T : Tab) (F : Fr) (B : Hp) (D : En) : Ends := { nx := Nx T F B D.nx, rt := Rt T F B D.rt, bk := Nx T F B D.bk, ct := Nx T F B D.ct }
theorem Nx.more {K : Lo → Prop} {B' : Hp} (e : Same B B') {σ : L2.St} {H : Hp} (h : Nx T F B' K σ H) : Nx T F B K σ H := by
  obtain ⟨B1, G1, S, e1, k⟩ := h
  exact ⟨B1, G1, S, e.trans e1, k⟩
theorem Rt.more {K : Opd → Lo → Prop} {B' : Hp} (e : Same B B') {v : V} {H : Hp} (h : Rt T F B' K v H) : Rt T F B K v H := by
  obtain ⟨B1, o, G1, σ1, S, e1, k⟩ := h
  exact ⟨B1, o, G1, σ1, S, e.trans e1, k⟩
structure PDS (X : Cx) (T : Tab) (F : Fr) (st : Stmt) (t : RS) : Prop where
  run : X.K = T.K → X.calm = true → ∀ (B H : Hp) (σ : L2.St) (G : Lo) (D : En), Sta T F B H σ G → t D G → tGS X st (toE T F B D) σ H
structure PDB (X : Cx) (T : Tab) (F : Fr) (st : List Stmt) (t : RS) : Prop where
  run : X.K = T.K → X.calm = true → ∀ (B H : Hp) (σ : L2.St) (G : Lo) (D : En), Sta T F B H σ G → t D G → tGB X st (toE T F B D) σ H
@[simp ↓] def sNext : RS := fun D G => D.nx G
@[simp ↓] def sSeq (t u : RS) : RS := fun D G => t { D with nx := u D } G
variable {st : Stmt} {rest : List Stmt} {t u : RS}
theorem pdb_nil : PDB X T F [] sNext := ⟨fun hK hc B H σ G D S h => tGB_of pss_nil ⟨B, G, S, Same.refl _, h⟩⟩
theorem pdb_cons (h1 : PDS X T F st t) (h2 : PDB X T F rest u) : PDB X T F (st :: rest) (sSeq t u) := by
  refine ⟨fun hK hc B H σ G D S h => tGB_of (pss_cons (ps_G X st) (pss_G X rest)) ?_⟩
  refine tGS_mono (h1.run hK hc B H σ G _ S h) (fun σ' H' q => ?_) (fun v H' q => q) (fun σ' H' q => q) (fun σ' H' q => q)
  obtain ⟨B1, G1, S1, e1, q⟩ := q
  exact tGB_mono (h2.run hK hc B1 H' σ' G1 D S1 q) (fun _ _ q => Nx.more e1 q) (fun _ _ q => Rt.more e1 q) (fun _ _ q => Nx.more e1 q) (fun _ _ q => Nx.more e1 q)
theorem pdb_one (h1 : PDS X T F st t) : PDB X T F [st] t := ⟨fun hK hc B H σ G D S h => tGB_of (pss_one (ps_G X st)) (h1.run hK hc B H σ G D S h)⟩
theorem pds_pass : PDS X T F (.Pass pos) sNext := ⟨fun hK hc B H σ G D S h => tGS_of ps_pass ⟨B, G, S, Same.refl _, h⟩⟩
@[simp ↓] def sBreak : RS := fun D G => D.bk G
@[simp ↓] def sCont : RS := fun D G => D.ct G
theorem pds_break : PDS X T F (.Break pos) sBreak := ⟨fun hK hc B H σ G D S h => tGS_of ps_break ⟨B, G, S, Same.refl _, h⟩⟩
theorem pds_continue : PDS X T F (.Continue pos) sCont := ⟨fun hK hc B H σ G D S h => tGS_of ps_continue ⟨B, G, S, Same.refl _, h⟩⟩
@[simp ↓] def sNever : RS := fun _ _ => False
theorem pds_never : PDS X T F st sNever := ⟨fun _ _ _ _ _ _ _ _ h => h.elim⟩
theorem pdb_never : PDB X T F rest sNever := ⟨fun _ _ _ _ _ _ _ _ h => h.elim⟩
@[simp ↓] def sDrop (t : RE) : RS := fun D G => t G fun _ G1 => D.nx G1
theorem pds_expr (he : PD X T F e te) (hs : swapsWith e none pos.line X.env = pure false := by rfl) : PDS X T F (.Expr e pos) (sDrop te) :=
  ⟨fun hK hc B H σ G D S h => tGS_of (ps_expr (pe_G X e) hs) (tG_mono (he.run hK hc B H σ G _ S h) fun v H1 ⟨B1, o, G1, S1, k1, _, _, q⟩ => ⟨B1, G1, S1, k1.b, q⟩)⟩
@[simp ↓] def sRet (t : RE) : RS := fun D G => t G D.rt
theorem pds_ret (he : PD X T F e te) : PDS X T F (.Return (some e) pos) (sRet te) :=
  ⟨fun hK hc B H σ G D S h => tGS_of (ps_ret (pe_G X e)) (tG_mono (he.run hK hc B H σ G _ S h) fun v H1 ⟨B1, o, G1, S1, k1, w, _, q⟩ => ⟨B1, o, G1, σ, S1, k1.b, w, q⟩)⟩
@[simp ↓] def sRetN : RS := fun D G => D.rt (.imm .non) G
theorem pds_retN : PDS X T F (.Return none pos) sRetN := ⟨fun hK hc B H σ G D S h => tGS_of ps_retN ⟨B, .imm .non, G, σ, S, Same.refl _, Is.non, h⟩⟩
@[simp ↓] def sIf (c : RT) (t u : RS) : RS := fun D G => c G fun b G1 => if b = true then t D G1 else u D G1
theorem pds_if {ea eb : List Stmt} (hcd : PDT X T F c tt) (ha : PDB X T F ea t) (hb : PDB X T F eb u) : PDS X T F (.If c ea eb pos) (sIf tt t u) := by
  refine ⟨fun hK hc B H σ G D S h => tGS_of (ps_if (pt_G X c) (pss_G X ea) (pss_G X eb)) ?_⟩
  refine tGT_mono (hcd.run hK hc B H σ G _ S h) fun d H1 ⟨B1, G1, S1, k1, q⟩ => ?_
  cases d with
  | true => exact tGB_mono (ha.run hK hc B1 H1 σ G1 D S1 q) (fun _ _ q => Nx.more k1.b q) (fun _ _ q => Rt.more k1.b q) (fun _ _ q => Nx.more k1.b q) (fun _ _ q => Nx.more k1.b q)
  | false => exact tGB_mono (hb.run hK hc B1 H1 σ G1 D S1 q) (fun _ _ q => Nx.more k1.b q) (fun _ _ q => Rt.more k1.b q) (fun _ _ q => Nx.more k1.b q) (fun _ _ q => Nx.more k1.b q)

/-! ### stores -/
@[simp ↓] def isPar : Option Slot → Bool
  | some (.par _ _) => true
  | _ => false
@[simp ↓] def asg (G : Lo) (i : Nat) (o : Opd) : Option Lo := if isPar G[i]? then none else match o with
  | .imm d => some (G.set i (.imm d))
  | .new w => some (G.set i (.own w))
  | .own j => match frz1 G (.own j) with
    | some q => some (q.2.set i (.imm q.1))
    | none => none
theorem get_setσ {i j : Nat} {x : Option V} (hi : i < σ.length) : (σ.set i x)[j]? = if j = i then some x else σ[j]? := by
  by_cases z : j = i
  · subst z
    rw [List.getElem?_set_self hi, if_pos rfl]
  · rw [List.getElem?_set_ne (Ne.symm z), if_neg z]
theorem Sta.store {i : Nat} {s : Slot} (S : Sta T F B H σ G) (hi : i < σ.length) (hs : SlotOk T F B H (some v) s) (hd : ∀ p, v = .ref p → (∃ w, s = .own w ∨ ∃ j, s = .par j w) → ∀ j, j ≠ i → ¬ OwnAt σ G j p) : Sta T F B H (σ.set i (some v)) (G.set i s) := by
  refine ⟨S.bh, S.b0, S.h0, S.a0, S.nb, by rw [List.length_set, List.length_set]; exact S.len, fun j x e => ?_, fun j k p ne h1 h2 => ?_, S.al, S.tb⟩
  · rcases get_set e with ⟨rfl, rfl⟩ | ⟨ne, z⟩
    · rw [get_setσ hi, if_pos rfl]
      exact hs
    · rw [get_setσ hi, if_neg ne]
      exact S.sl j x z
  · have low : ∀ m, OwnAt (σ.set i (some v)) (G.set i s) m p → (m = i ∧ v = .ref p ∧ ∃ w, s = .own w ∨ ∃ j, s = .par j w) ∨ (m ≠ i ∧ OwnAt σ G m p) := fun m ⟨a, w, b⟩ => by
      rw [get_setσ hi] at a
      by_cases z : m = i
      · subst z
        rw [if_pos rfl] at a
        refine .inl ⟨rfl, Option.some.inj (Option.some.inj a), w, ?_⟩
        rcases b with b | ⟨q, b⟩
        · rcases get_set b with ⟨_, z⟩ | ⟨z, _⟩
          · exact .inl z.symm
          · exact absurd rfl z
        · rcases get_set b with ⟨_, z⟩ | ⟨z, _⟩
          · exact .inr ⟨q, z.symm⟩
          · exact absurd rfl z
      · rw [if_neg z] at a
        refine .inr ⟨z, a, w, ?_⟩
        rcases b with b | ⟨q, b⟩
        · rcases get_set b with ⟨y, _⟩ | ⟨_, y⟩
          · exact absurd y z
          · exact .inl y
        · rcases get_set b with ⟨y, _⟩ | ⟨_, y⟩
          · exact absurd y z
          · exact .inr ⟨q, y⟩
    rcases low j h1 with ⟨e1, ev, hw⟩ | ⟨nj, g1⟩
    · rcases low k h2 with ⟨e2, _⟩ | ⟨nk, g2⟩
      · exact absurd (e1.trans e2.symm) ne
      · exact hd p ev hw k nk g2
    · rcases low k h2 with ⟨e2, ev, hw⟩ | ⟨nk, g2⟩
      · exact hd p ev hw j nj g1
      · exact S.dj j k p ne g1 g2
theorem asg_ok {i : Nat} {o : Opd} {G' : Lo} (S : Sta T F B H σ G) (hi : i < σ.length) (h : OpdOk T F B H σ G v o) (e : asg G i o = some G') : ∃ B', Sta T F B' H (σ.set i (some v)) G' ∧ Same B B' := by
  unfold asg at e
  split at e
  · cases e
  · cases o with
    | imm d =>
      cases e
      exact ⟨B, S.store hi ⟨v, rfl, h⟩ (fun p _ ⟨w, z⟩ => by rcases z with z | ⟨_, z⟩ <;> cases z), Same.refl _⟩
    | new w =>
      cases e
      obtain ⟨p, e1, bp, q, f, n⟩ := h
      subst e1
      exact ⟨B, S.store hi ⟨p, rfl, bp, q, f⟩ (fun p' e2 _ j _ z => n ⟨j, by cases e2; exact z⟩), Same.refl _⟩
    | own j =>
      have c1 : (match frz1 G (.own j) with | some q => some (q.2.set i (.imm q.1)) | none => none) = some G' := e
      cases e1 : frz1 G (.own j) with
      | none =>
        rw [e1] at c1
        cases c1
      | some q =>
        rw [e1] at c1
        obtain ⟨d, G2⟩ := q
        cases c1
        obtain ⟨B2, S2, k2, i2⟩ := frz_ok Kp.refl S h Nw.own e1
        exact ⟨B2, S2.store hi ⟨v, rfl, i2⟩ (fun p _ ⟨w, z⟩ => by rcases z with z | ⟨_, z⟩ <;> cases z), k2.b⟩
@[simp ↓] def sSet (i : Nat) (t : RE) : RS := fun D G => t G fun o G1 => match asg G1 i o with
  | some G2 => D.nx G2
  | none => False
theorem Sta.lt {i : Nat} (S : Sta T F B H σ G) (hl : i < G.length) : i < σ.length := by
  rw [S.len]
  exact hl
theorem asg_lt {i : Nat} {o : Opd} {G' : Lo} (e : asg G i o = some G') : True := trivial
/-- name = e -/
theorem pds_set (i : Nat) {x : Str} {px : Pos} (he : PD X T F e te) (hN : X.N.Nodup) (hi : X.N[i]? = some x := by rfl) (hx : Loc X.env.scope x := by first | exact Or.inl rfl | exact Or.inr rfl) (hs : swapsWith e (some (.Name x px)) pos.line X.env = pure false := by rfl)
    (hf : X.fn x = true ∨ X.env.scope.names.lookup x = some .local := by first | exact .inl rfl | exact .inr rfl) : PDS X T F (.Assign [.Name x px] e pos) (sSet i te) := by
  refine ⟨fun hK hc B H σ G D S h pins s I => ?_⟩
  have hl : i < σ.length := by
    rw [I.len]
    exact (List.getElem?_eq_some_iff.mp hi).1
  refine tGS_of (ps_set (i := i) hN hi hx (pe_G X e) hs hf) ?_ pins s I
  refine tG_mono (he.run hK hc B H σ G _ S h) fun v H1 ⟨B1, o, G1, S1, k1, w, _, q⟩ => ?_
  dsimp only at q
  cases e1 : asg G1 i o with
  | none =>
    rw [e1] at q
    exact q.elim
  | some G2 =>
    rw [e1] at q
    obtain ⟨B2, S2, e2⟩ := asg_ok S1 hl w e1
    exact ⟨B2, G2, S2, k1.b.trans e2, q⟩
/-- a, b, .. = e, e a tuple, the names locals at these places -/
@[simp ↓] def asgs : Lo → List Nat → List D → Option Lo
  | G, [], [] => some G
  | G, i :: is, d :: ds => match asg G i (.imm d) with
    | some G1 => asgs G1 is ds
    | none => none
  | _, _, _ => none
theorem asgs_len : ∀ {is : List Nat} {ds : List D} {G G' : Lo}, asgs G is ds = some G' → ds.length = is.length
  | [], [], _, _, _ => rfl
  | [], _ :: _, _, _, e => by cases e
  | _ :: _, [], _, _, e => by cases e
  | i :: is, d :: ds, G, G', e => by
    unfold asgs at e
    split at e
    · rw [List.length_cons, List.length_cons, asgs_len e]
    · cases e
@[simp ↓] def sUnp (is : List Nat) (t : RE) : RS := fun D G => t G fun o G1 => match cont G1 o with
  | some (.tup ds) => match asgs G1 is ds with
    | some G2 => D.nx G2
    | none => False
  | _ => False
def gNames : List Nat → TGs
  | [] => gNil
  | i :: is => gCons (gName i) (gNames is)
theorem names_ok : ∀ {is : List Nat} {vs : List V} {ds : List D} {σ : L2.St} {G G' : Lo} {Q : L2.St → Hp → Prop}, (∀ i ∈ is, i < σ.length) → Sta T F B H σ G → IsL T B vs ds → asgs G is ds = some G' → (∀ σ', Sta T F B H σ' G' → σ'.length = σ.length → Q σ' H) → gNames is vs σ H Q
  | [], _, _, _, _, _, _, _, S, .nil, e, q => by
    cases e
    exact ⟨rfl, q _ S rfl⟩
  | [], _, _, _, _, _, _, _, _, .cons _ _, e, _ => by cases e
  | i :: is, _, _, _, _, _, _, _, _, .nil, e, _ => by cases e
  | i :: is, v :: vs, d :: ds, σ, G, G', Q, hl, S, .cons h t, e, q => by
    unfold asgs at e
    split at e
    · rename_i G1 e1
      unfold asg at e1
      split at e1
      · cases e1
      · cases e1
        have hi := hl i List.mem_cons_self
        have S2 := S.store (s := .imm d) hi ⟨v, rfl, h⟩ (fun p _ ⟨w, z⟩ => by rcases z with z | ⟨_, z⟩ <;> cases z)
        refine ⟨v, vs, rfl, ?_⟩
        refine names_ok (is := is) (σ := σ.set i (some v)) (fun j hj => ?_) S2 t e fun σ' S' l => q σ' S' ?_
        · rw [List.length_set]
          exact hl j (List.mem_cons_of_mem _ hj)
        · rw [l, List.length_set]
    · cases e
theorem pds_unp {tg : List Expr} {k : Nat} {tpos : Pos} (is : List Nat) (he : PD X T F e te) (hg : PGs X tg (gNames is)) (hl : ∀ i ∈ is, i < X.N.length := by decide) (hn : (assignEach tg X.env).length = is.length := by rfl) (hst : (assignEach tg X.env).findIdx? (·.1) = none := by rfl)
    (hs : swapsWithSole [.Tuple tg k tpos] e pos.line X.env = pure false := by rfl) (hw : swappedStores [.Tuple tg k tpos] e X.env = pure none := by rfl) (h1 : (assignEach [.Tuple tg k tpos] X.env).map (·.2) = [assign (.Tuple tg k tpos) X.env] := by rfl) :
    PDS X T F (.Assign [.Tuple tg k tpos] e pos) (sUnp is te) := by
  refine ⟨fun hK hc B H σ G D S h pins s I => ?_⟩
  refine tGS_of (ps_asg (pe_G X e) (pg_tup hc hg hn hst) hs hw h1) ?_ pins s I
  refine tG_mono (he.run hK hc B H σ G _ S h) fun v H1 ⟨B1, o, G1, S1, k1, w, _, q⟩ => ?_
  dsimp only at q
  split at q
  · rename_i ds e1
    obtain ⟨a, vs, rfl, ha, l⟩ := S1.see w e1
    split at q
    · rename_i G2 e2
      refine ⟨a, vs, rfl, SqT.of (S1.bh _ _ ha), by rw [l.length]; exact asgs_len e2, ?_⟩
      exact names_ok (fun i hi => by rw [I.len]; exact hl i hi) S1 l e2 fun σ' S' _ => ⟨B1, G2, S', k1.b, q⟩
    · exact q.elim
  · exact q.elim
theorem pgs_names_nil : PGs X [] (gNames []) := pgs_nil
theorem pgs_names_cons {i : Nat} {is : List Nat} {x : Str} {px : Pos} {tg : List Expr} (hN : X.N.Nodup) (h : PGs X tg (gNames is)) (hi : X.N[i]? = some x := by rfl) (hx : Loc X.env.scope x := by first | exact Or.inl rfl | exact Or.inr rfl)
    (hf : X.fn x = true ∨ X.env.scope.names.lookup x = some .local := by first | exact .inl rfl | exact .inr rfl) (hs : (assignEach (.Name x px :: tg) X.env).map (·.2) = assign (.Name x px) X.env :: (assignEach tg X.env).map (·.2) := by rfl) : PGs X (.Name x px :: tg) (gNames (i :: is)) :=
  pgs_cons (pg_name (i := i) hN hi hx hf) h hs
/-- a, b = x, y, plain local names -/
def sPar (i j : Nat) (t u : RE) : RS := fun D G => t G fun o G1 => u G1 fun p G2 => match asg G2 i o with
  | some G3 => match asg G3 j p with
    | some G4 => D.nx G4
    | none => False
  | none => False
end
end Fx
end
section
set_option Elab.async false
set_option linter.all false
set_option maxRecDepth 100000
set_option maxHeartbeats 2000000
/-! Fx6: loops, comprehensions -/
namespace Fx
open PySem PySem.Spec PyProof.Rows L2

section
variable {X : Cx} {T : Tab} {F : Fr} {a b c e : Expr} {es : List Expr} {pos : Pos} {ta tb tc te : RE} {tt tu : RT} {t u : RS} {tr : RO}
variable {B H : Hp} {σ : L2.St} {G : Lo} {v : V} {o : Opd}

/-! ### what is walked -/
/-- J yields these data, one after another -/
structure ItOk (K : PySem.W.Frag) (T : Tab) (B : Hp) (J : It) (ds : List D) : Prop where
  go : ∀ (i : Nat) (B' H' : Hp), Same B B' → Same B' H' → i < ds.length → J.go i H'
  stop : ∀ (i : Nat) (B' H' : Hp), Same B B' → Same B' H' → ds.length ≤ i → J.stop i H'
  yld : ∀ (i : Nat) (B' H' : Hp) (F : Fr) (σ : L2.St) (G : Lo) (x : V) (H'' : Hp) (d : D), Same B B' → Sta T F B' H' σ G → ds[i]? = some d → J.yld i H' x H'' → ∃ B'', Sta T F B'' H'' σ G ∧ Kp B' H' σ G B'' H'' G ∧ Is T B'' x d
theorem ItOk.mono {K : PySem.W.Frag} {J : It} {ds : List D} {B1 : Hp} (e : Same B B1) (h : ItOk K T B J ds) : ItOk K T B1 J ds :=
  ⟨fun i B' H' e1 => h.go i B' H' (e.trans e1), fun i B' H' e1 => h.stop i B' H' (e.trans e1), fun i B' H' F σ G x H'' d e1 => h.yld i B' H' F σ G x H'' d (e.trans e1)⟩
abbrev RI := Lo → (List D → Lo → Prop) → Prop
def tGI (X : Cx) (tg iter : Expr) : TI := fun σ H R => ∀ (pins : List (Addr × Obj)) (s : Shared), Inv X pins σ H s →
    wpAny (model X.prog X.w) X.A (eval iter X.env) (fun v s1 => wpAny (model X.prog X.w) X.A (pyIter v) (PIE X pins σ tg R) X.xe s1) X.xe s
theorem pi_G (X : Cx) (tg iter : Expr) : PI X tg iter (tGI X tg iter) := ⟨fun pins s σ H R I h => h pins s I⟩
theorem tGI_of {tg iter : Expr} {wi : TI} (h : PI X tg iter wi) {R : It → Hp → Prop} (q : wi σ H R) : tGI X tg iter σ H R := fun pins s I => h.run pins s σ H R I q
theorem tGI_mono {tg iter : Expr} {R R' : It → Hp → Prop} (h : tGI X tg iter σ H R) (k : ∀ J H, R J H → R' J H) : tGI X tg iter σ H R' := fun pins s I =>
  thn (h pins s I) fun v s1 q => thn q fun itv s2 ⟨it, fp, tn, J, H', a, b, c, d, e, f⟩ => ⟨it, fp, tn, J, H', a, b, c, d, e, k J H' f⟩
def PostI (T : Tab) (F : Fr) (B H : Hp) (σ : L2.St) (G : Lo) (K : List D → Lo → Prop) : It → Hp → Prop := fun J H' => ∃ B' ds G', Sta T F B' H' σ G' ∧ Kp B H σ G B' H' G' ∧ ItOk T.K T B' J ds ∧ K ds G'
structure PDI (X : Cx) (T : Tab) (F : Fr) (tg iter : Expr) (wi : RI) : Prop where
  run : X.K = T.K → X.calm = true → ∀ (B H : Hp) (σ : L2.St) (G : Lo) (K : List D → Lo → Prop), Sta T F B H σ G → wi G K → tGI X tg iter σ H (PostI T F B H σ G K)
theorem sql_inj {K : PySem.W.Frag} {a : Addr} {xs ys : List V} (h : H a = some (.lst xs)) (hk : K.lookup a = none ∨ True) (q : Rd H a (.lst ys)) : ys = xs := by
  rcases q with q | ⟨o, q⟩
  · rw [h] at q
    cases q
    rfl
  · rw [h] at q
    cases q
theorem ito_list {a : Addr} {vs : List V} {ds : List D} (h : B a = some (.lst vs)) (l : IsL T B vs ds) : ItOk T.K T B (Itl T.K a) ds := by
  refine ⟨fun i B' H' e1 e2 hi => ?_, fun i B' H' e1 e2 hi => ?_, fun i B' H' F σ G x H'' d e1 S hd hy => ?_⟩
  · have hv : i < vs.length := by rw [l.length]; exact hi
    exact ⟨vs, vs[i], SqL.of (e2 _ _ (e1 _ _ h)), List.getElem?_eq_getElem hv⟩
  · exact ⟨vs, SqL.of (e2 _ _ (e1 _ _ h)), by rw [l.length]; exact hi⟩
  · obtain ⟨e, hy⟩ := hy
    subst e
    have hx := hy vs (SqL.of (S.bh _ _ (e1 _ _ h)))
    obtain ⟨d', q1, q2⟩ := l.get' hx
    rw [hd] at q1
    cases q1
    exact ⟨B', S, Kp.refl, q2.mono e1⟩
theorem ito_tup {a : Addr} {vs : List V} {ds : List D} (h : B a = some (.tup vs)) (l : IsL T B vs ds) : ItOk T.K T B (Itt T.K a) ds := by
  refine ⟨fun i B' H' e1 e2 hi => ?_, fun i B' H' e1 e2 hi => ?_, fun i B' H' F σ G x H'' d e1 S hd hy => ?_⟩
  · have hv : i < vs.length := by rw [l.length]; exact hi
    exact ⟨vs, vs[i], SqT.of (e2 _ _ (e1 _ _ h)), List.getElem?_eq_getElem hv⟩
  · exact ⟨vs, SqT.of (e2 _ _ (e1 _ _ h)), by rw [l.length]; exact hi⟩
  · obtain ⟨e, hy⟩ := hy
    subst e
    have hx := hy vs (SqT.of (S.bh _ _ (e1 _ _ h)))
    obtain ⟨d', q1, q2⟩ := l.get' hx
    rw [hd] at q1
    cases q1
    exact ⟨B', S, Kp.refl, q2.mono e1⟩
@[simp ↓] def iL (te : RE) : RI := fun G K => tFz te G fun d G1 => match d with
  | .lst ds => K ds G1
  | _ => False
@[simp ↓] def iT (te : RE) : RI := fun G K => tFz te G fun d G1 => match d with
  | .tup ds => K ds G1
  | _ => False
theorem pdi_list {tg : Expr} (he : PD X T F e te) : PDI X T F tg e (iL te) := by
  refine ⟨fun hK hc B H σ G K S h => tGI_of (pi_list (pe_G X e)) (tG_mono (run_fz he hK hc S h) fun v H1 ⟨B1, d, G1, S1, k1, i1, q⟩ => ?_)⟩
  split at q
  · cases i1 with
    | lst h2 l => exact ⟨_, rfl, ⟨_, SqL.of (S1.bh _ _ h2)⟩, ⟨B1, _, G1, S1, k1, by rw [hK]; exact ito_list h2 l, q⟩⟩
  · exact q.elim
theorem pdi_tup {tg : Expr} (he : PD X T F e te) : PDI X T F tg e (iT te) := by
  refine ⟨fun hK hc B H σ G K S h => tGI_of (pi_tup (pe_G X e)) (tG_mono (run_fz he hK hc S h) fun v H1 ⟨B1, d, G1, S1, k1, i1, q⟩ => ?_)⟩
  split at q
  · cases i1 with
    | tup h2 l => exact ⟨_, rfl, ⟨_, SqT.of (S1.bh _ _ h2)⟩, ⟨B1, _, G1, S1, k1, by rw [hK]; exact ito_tup h2 l, q⟩⟩
  · exact q.elim
/-- sign by sign -/
def charsD (x : Str) : List D := x.cps.toList.map fun c => .str ⟨#[c]⟩
theorem ito_str (x : Str) : ItOk T.K T B (Its x) (charsD x) := by
  have hl : (charsD x).length = x.cps.size := by
    unfold charsD
    rw [List.length_map, Array.length_toList]
  refine ⟨fun i B' H' e1 e2 hi => ?_, fun i B' H' e1 e2 hi => ?_, fun i B' H' F σ G y H'' d e1 S hd hy => ?_⟩
  · rw [hl] at hi
    exact hi
  · rw [hl] at hi
    exact hi
  · obtain ⟨e, c, hc, hy⟩ := hy
    subst e hy
    have e2 : (charsD x)[i]? = some (.str ⟨#[c]⟩) := by
      unfold charsD
      rw [List.getElem?_map, Array.getElem?_toList, hc]
      rfl
    rw [hd] at e2
    cases e2
    exact ⟨B', S, Kp.refl, .str _⟩
@[simp ↓] def iS (te : RE) : RI := fun G K => te G fun o G1 => match cont G1 o with
  | some (.str x) => K (charsD x) G1
  | _ => False
theorem pdi_str {tg : Expr} (he : PD X T F e te) : PDI X T F tg e (iS te) := by
  refine ⟨fun hK hc B H σ G K S h => tGI_of (pi_str (pe_G X e)) (tG_mono (he.run hK hc B H σ G _ S h) fun v H1 ⟨B1, o, G1, S1, k1, w, _, q⟩ => ?_)⟩
  dsimp only at q
  split at q
  · rename_i x e1
    exact ⟨x, see_str S1 w e1, ⟨B1, _, G1, S1, k1, ito_str x, q⟩⟩
  · exact q.elim
/-- range -/
def rngD (lo : Int) : Nat → List D
  | 0 => []
  | n + 1 => .int lo :: rngD (lo + 1) n
theorem rngD_len : ∀ (n : Nat) (lo : Int), (rngD lo n).length = n
  | 0, _ => rfl
  | n + 1, lo => by
    unfold rngD
    rw [List.length_cons, rngD_len n]
theorem rngD_get : ∀ (n : Nat) (lo : Int) (i : Nat) (d : D), (rngD lo n)[i]? = some d → d = .int (lo + i)
  | 0, _, _, _, h => by simp [rngD] at h
  | n + 1, lo, 0, d, h => by
    simp [rngD] at h
    rw [← h]
    simp
  | n + 1, lo, i + 1, d, h => by
    have h2 : (rngD (lo + 1) n)[i]? = some d := by simpa [rngD] using h
    rw [rngD_get n (lo + 1) i d h2]
    congr 1
    omega
theorem ito_rng (lo : Int) (n : Nat) : ItOk T.K T B (Itr lo n) (rngD lo n) := by
  refine ⟨fun i B' H' e1 e2 hi => ?_, fun i B' H' e1 e2 hi => ?_, fun i B' H' F σ G x H'' d e1 S hd hy => ?_⟩
  · rw [rngD_len] at hi
    exact hi
  · rw [rngD_len] at hi
    exact hi
  · obtain ⟨e, hy⟩ := hy
    subst e hy
    rw [rngD_get _ _ _ _ hd]
    exact ⟨B', S, Kp.refl, .int _⟩
@[simp ↓] def iR1 (te : RE) : RI := fun G K => te G fun o G1 => match cont G1 o with
  | some (.int n) => n < 2 ^ 62 ∧ -(2 ^ 62) ≤ n ∧ K (rngD 0 n.toNat) G1
  | _ => False
theorem pdi_range1 {tg : Expr} {p : Pos} (hm : X.mg "range" = none) (he : PD X T F e te) (hg : Gl X "range" := by rfl) (hs : starEach [e] X.env = [(false, eval e X.env)] := by rfl) : PDI X T F tg (.Call (.Name "range" p) [e] [] pos) (iR1 te) := by
  refine ⟨fun hK hc B H σ G K S h => tGI_of (pi_range1 hg hm (pa_cons (pe_G X e) pa_nil hs) hs) (tG_mono (he.run hK hc B H σ G _ S h) fun v H1 ⟨B1, o, G1, S1, k1, w, _, q⟩ => ?_)⟩
  dsimp only at q
  split at q
  · rename_i n e1
    exact ⟨n, by rw [see_int S1 w e1], q.2.1, q.1, ⟨B1, _, G1, S1, k1, ito_rng _ _, q.2.2⟩⟩
  · exact q.elim

/-! ### for -/
/-- targets: a name; names of a tuple -/
abbrev RG := D → Lo → (Lo → Prop) → Prop
@[simp ↓] def gNm (i : Nat) : RG := fun d G K => match asg G i (.imm d) with
  | some G1 => K G1
  | none => False
@[simp ↓] def gUn (is : List Nat) : RG := fun d G K => match d with
  | .tup ds => match asgs G is ds with
    | some G1 => K G1
    | none => False
  | _ => False
def tGG (X : Cx) (tg : Expr) : TG := fun v σ H Q => ∀ (pins : List (Addr × Obj)) (s : Shared) (u : Value), Inv X pins σ H s → RelV v u →
    wpAny (model X.prog X.w) X.A (assign tg X.env u) (fun _ s' => ∃ σ' H', Inv X pins σ' H' s' ∧ Q σ' H') X.xe s
theorem pg_G (X : Cx) (tg : Expr) : PG X tg (tGG X tg) := ⟨fun pins s σ H v u Q I r h => h pins s u I r⟩
theorem tGG_of {tg : Expr} {g : TG} (h : PG X tg g) {Q : L2.St → Hp → Prop} (q : σ.length = X.N.length → g v σ H Q) : tGG X tg v σ H Q := fun pins s u I r => h.run pins s σ H v u Q I r (q I.len)
structure PDG (X : Cx) (T : Tab) (F : Fr) (tg : Expr) (g : RG) : Prop where
  run : X.K = T.K → X.calm = true → ∀ (B H : Hp) (σ : L2.St) (G : Lo) (v : V) (d : D) (K : Lo → Prop), Sta T F B H σ G → Is T B v d → g d G K → tGG X tg v σ H fun σ' H' => ∃ G', H' = H ∧ Sta T F B H σ' G' ∧ K G'
theorem asg_imm_ok {i : Nat} {d : D} {G' : Lo} (S : Sta T F B H σ G) (hi : i < σ.length) (h : Is T B v d) (e : asg G i (.imm d) = some G') : Sta T F B H (σ.set i (some v)) G' := by
  unfold asg at e
  split at e
  · cases e
  · cases e
    exact S.store hi ⟨v, rfl, h⟩ (fun p _ ⟨w, z⟩ => by rcases z with z | ⟨_, z⟩ <;> cases z)
theorem pdg_name (i : Nat) {x : Str} {px : Pos} (hN : X.N.Nodup) (hi : X.N[i]? = some x := by rfl) (hx : Loc X.env.scope x := by first | exact Or.inl rfl | exact Or.inr rfl) (hf : X.fn x = true ∨ X.env.scope.names.lookup x = some .local := by first | exact .inl rfl | exact .inr rfl) : PDG X T F (.Name x px) (gNm i) := by
  refine ⟨fun hK hc B H σ G v d K S h q => tGG_of (pg_name (i := i) hN hi hx hf) fun len => ?_⟩
  unfold gNm at q
  split at q
  · rename_i G1 e1
    exact ⟨G1, rfl, asg_imm_ok S (by rw [len]; exact (List.getElem?_eq_some_iff.mp hi).1) h e1, q⟩
  · exact q.elim
theorem pdg_un {tg : List Expr} {k : Nat} {tpos : Pos} (is : List Nat) (hg : PGs X tg (gNames is)) (hl : ∀ i ∈ is, i < X.N.length := by decide) (hn : (assignEach tg X.env).length = is.length := by rfl) (hst : (assignEach tg X.env).findIdx? (·.1) = none := by rfl) : PDG X T F (.Tuple tg k tpos) (gUn is) := by
  refine ⟨fun hK hc B H σ G v d K S h q => tGG_of (pg_tup hc hg hn hst) fun len => ?_⟩
  unfold gUn at q
  split at q
  · split at q
    · rename_i G1 e1
      cases h with
      | tup h2 l =>
        refine ⟨_, _, rfl, SqT.of (S.bh _ _ h2), by rw [l.length]; exact asgs_len e1, ?_⟩
        exact names_ok (fun i hi => by rw [len]; exact hl i hi) S l e1 fun σ' S' _ => ⟨G1, rfl, S', q⟩
    · exact q.elim
  · exact q.elim
/-- the turns -/
@[simp ↓] def forGo (g : RG) (t : RS) (D : En) : List Fx.D → Lo → Prop
  | [], G => D.nx G
  | d :: ds, G => g d G fun G1 => t { D with nx := forGo g t D ds, ct := forGo g t D ds, bk := D.nx } G1
@[simp ↓] def sFor (wi : RI) (g : RG) (t : RS) : RS := fun D G => wi G fun ds G1 => forGo g t D ds G1
theorem pds_for {tg iter : Expr} {body : List Stmt} {wi : RI} {g : RG} (hp : PassesOwn (model X.prog X.w) X.A X.env X.xe) (hi : PDI X T F tg iter wi) (hg : PDG X T F tg g) (hb : PDB X T F body t) (hs : ∀ x, foldedSetIterable iter X.env x = pure x := by intro _; rfl) :
    PDS X T F (.For tg iter body [] pos) (sFor wi g t) := by
  refine ⟨fun hK hc B H σ G D S h => tGS_of (ps_for hp hc (pi_G X tg iter) (pg_G X tg) (pss_G X body) hs) ?_⟩
  refine tGI_mono (hi.run hK hc B H σ G _ S h) fun J H1 ⟨B1, ds, G1, S1, k1, it, q⟩ => ?_
  refine ⟨fun i m σ' H' => i ≤ ds.length ∧ m = ds.length - i ∧ ∃ B' G', Sta T F B' H' σ' G' ∧ Same B1 B' ∧ forGo g t D (ds.drop i) G', ⟨_, Nat.zero_le _, rfl, B1, G1, S1, Same.refl _, q⟩, ?_⟩
  rintro i m σ' H' ⟨hle, rfl, B', G', S', e', q'⟩
  by_cases hlt : i < ds.length
  · refine .inr ⟨it.go i B' H' e' S'.bh hlt, fun σ2 H2 => ∃ B2 G2, Sta T F B2 H2 σ2 G2 ∧ Same B1 B2 ∧ forGo g t D (ds.drop (i + 1)) G2, fun σ2 H2 ⟨B2, G2, S2, e2, q2⟩ => ⟨ds.length - (i + 1), by omega, hlt, rfl, B2, G2, S2, e2, q2⟩, fun x H2 y => ?_⟩
    have hd : ds[i]? = some ds[i] := List.getElem?_eq_getElem hlt
    obtain ⟨B2, S2, k2, i2⟩ := it.yld i B' H' F σ' G' x H2 ds[i] e' S' hd y
    rw [List.drop_eq_getElem_cons hlt] at q'
    have r := hg.run hK hc B2 H2 σ' G' x ds[i] _ S2 i2 q'
    intro pins s u I ru
    refine thn (r pins s u I ru) fun _ s1 ⟨σ3, H3, I3, G3, eH, S3, q3⟩ => ⟨σ3, H3, I3, ?_⟩
    subst eH
    refine tGB_mono (hb.run hK hc B2 H3 σ3 G3 _ S3 q3) (fun σ4 H4 z => ?_) (fun v H4 z => ?_) (fun σ4 H4 z => ?_) (fun σ4 H4 z => ?_)
    · obtain ⟨B4, G4, S4, e4, z⟩ := z
      exact ⟨B4, G4, S4, (e'.trans k2.b).trans e4, z⟩
    · exact Rt.more (((k1.b).trans e').trans k2.b) z
    · exact Nx.more (((k1.b).trans e').trans k2.b) z
    · obtain ⟨B4, G4, S4, e4, z⟩ := z
      exact ⟨B4, G4, S4, (e'.trans k2.b).trans e4, z⟩
  · have e0 : i = ds.length := by omega
    subst e0
    rw [List.drop_length] at q'
    exact .inl ⟨it.stop _ B' H' e' S'.bh (Nat.le_refl _), ⟨B', G', S', k1.b.trans e', q'⟩⟩

/-! ### while -/
def sWhile (c : RT) (t : RS) : RS := fun D G => ∃ W : Nat → Lo → Prop, (∃ m, W m G) ∧ ∀ m G, W m G → c G fun b G1 => if b = true then t { D with nx := fun G2 => ∃ m', m' < m ∧ W m' G2, ct := fun G2 => ∃ m', m' < m ∧ W m' G2, bk := D.nx } G1 else D.nx G1
theorem pds_while {body : List Stmt} (hp : PassesOwn (model X.prog X.w) X.A X.env X.xe) (hcd : PDT X T F c tt) (hb : PDB X T F body t) : PDS X T F (.While c body [] pos) (sWhile tt t) := by
  refine ⟨fun hK hc B H σ G D S h => tGS_of (ps_while hp (pt_G X c) (pss_G X body)) ?_⟩
  obtain ⟨W, ⟨m0, w0⟩, turn⟩ := h
  refine ⟨fun m σ' H' => ∃ B' G', Sta T F B' H' σ' G' ∧ Same B B' ∧ W m G', ⟨m0, B, G, S, Same.refl _, w0⟩, ?_⟩
  rintro m σ' H' ⟨B', G', S', e', w⟩
  refine tGT_mono (hcd.run hK hc B' H' σ' G' _ S' (turn m G' w)) fun d H1 ⟨B1, G1, S1, k1, q⟩ => ?_
  cases d with
  | true =>
    rw [if_pos rfl] at q ⊢
    refine ⟨fun σ2 H2 => ∃ B2 G2, Sta T F B2 H2 σ2 G2 ∧ Same B B2 ∧ ∃ m', m' < m ∧ W m' G2, fun σ2 H2 ⟨B2, G2, S2, e2, m', hm, w2⟩ => ⟨m', hm, B2, G2, S2, e2, w2⟩, ?_⟩
    have e1 := e'.trans k1.b
    refine tGB_mono (hb.run hK hc B1 H1 σ' G1 _ S1 q) (fun σ4 H4 z => ?_) (fun v H4 z => Rt.more e1 z) (fun σ4 H4 z => Nx.more e1 z) (fun σ4 H4 z => ?_)
    · obtain ⟨B4, G4, S4, e4, z⟩ := z
      exact ⟨B4, G4, S4, e1.trans e4, z⟩
    · obtain ⟨B4, G4, S4, e4, z⟩ := z
      exact ⟨B4, G4, S4, e1.trans e4, z⟩
  | false =>
    rw [if_neg Bool.false_ne_true] at q ⊢
    exact ⟨B1, G1, S1, e'.trans k1.b, q⟩
end
end Fx
end
section
set_option Elab.async false
set_option linter.all false
set_option maxRecDepth 100000
set_option maxHeartbeats 2000000
/-! Fx7: comprehensions, zip, enumerate -/
namespace Fx
open PySem PySem.Spec PyProof.Rows L2

section
variable {X : Cx} {T : Tab} {F : Fr} {a b c e : Expr} {es : List Expr} {pos : Pos} {ta tb tc te : RE} {tt tu : RT} {t u : RS} {tr : RO}
variable {B H : Hp} {σ : L2.St} {G : Lo} {v : V} {o : Opd}

/-! ### what a target of a comprehension changes -/
def OthS (is : List Nat) (σ σ' : L2.St) : Prop := σ'.length = σ.length ∧ ∀ j, j ∉ is → σ'[j]? = σ[j]?
theorem wipe_len : ∀ (vs : List Nat) (σ : L2.St), (wipe σ vs).length = σ.length
  | [], _ => rfl
  | v :: vs, σ => by
    unfold wipe
    rw [List.length_set, wipe_len vs σ]
theorem wipe_out : ∀ (vs : List Nat) (σ : L2.St) (j : Nat), j ∉ vs → (wipe σ vs)[j]? = σ[j]?
  | [], _, _, _ => rfl
  | v :: vs, σ, j, h => by
    unfold wipe
    rw [List.getElem?_set_ne (fun z => h (by rw [z]; exact List.mem_cons_self)), wipe_out vs σ j fun z => h (List.mem_cons_of_mem _ z)]
theorem wipe_in : ∀ (vs : List Nat) (σ : L2.St) (j : Nat), j ∈ vs → j < σ.length → (wipe σ vs)[j]? = some none
  | [], _, _, h, _ => by cases h
  | v :: vs, σ, j, h, hl => by
    unfold wipe
    by_cases z : v = j
    · subst z
      rw [List.getElem?_set_self (by rw [wipe_len]; exact hl)]
    · rw [List.getElem?_set_ne z]
      rcases List.mem_cons.mp h with q | q
      · exact absurd q.symm z
      · exact wipe_in vs σ j q hl
theorem wipe_eq {is vs : List Nat} {σ σ' : L2.St} (h : OthS is σ σ') (hs : ∀ i ∈ is, i ∈ vs) : wipe σ' vs = wipe σ vs := by
  apply List.ext_getElem?
  intro j
  by_cases hj : j ∈ vs
  · by_cases hl : j < σ.length
    · rw [wipe_in vs σ j hj hl, wipe_in vs σ' j hj (by rw [h.1]; exact hl)]
    · rw [List.getElem?_eq_none_iff.mpr (by rw [wipe_len, h.1]; exact Nat.le_of_not_lt hl), List.getElem?_eq_none_iff.mpr (by rw [wipe_len]; exact Nat.le_of_not_lt hl)]
  · rw [wipe_out vs σ' j hj, wipe_out vs σ j hj, h.2 j fun z => hj (hs j z)]
theorem wipe_wipe (vs : List Nat) (σ : L2.St) : wipe (wipe σ vs) vs = wipe σ vs := wipe_eq (is := vs) ⟨wipe_len vs σ, fun j h => wipe_out vs σ j h⟩ fun _ h => h
structure PDC (X : Cx) (T : Tab) (F : Fr) (tg : Expr) (rg : RG) (g : TG) (is : List Nat) : Prop where
  pg : PG X tg g
  ok : X.K = T.K → X.calm = true → ∀ (B H : Hp) (σ : L2.St) (G : Lo) (v : V) (d : D) (K : Lo → Prop) (Q : L2.St → Hp → Prop), σ.length = X.N.length → Sta T F B H σ G → Is T B v d → rg d G K → (∀ σ' G', Sta T F B H σ' G' → OthS is σ σ' → (∀ p, Ownd σ' G' p → Ownd σ G p) → K G' → Q σ' H) → g v σ H Q
theorem asg_ownd {i : Nat} {d : D} {G' : Lo} {v : V} {p : Addr} (hi : i < σ.length) (e : asg G i (.imm d) = some G') (h : Ownd (σ.set i (some v)) G' p) : Ownd σ G p := by
  unfold asg at e
  split at e
  · cases e
  · cases e
    obtain ⟨m, a, w, b⟩ := h
    have ne : m ≠ i := fun z => by
      rcases b with b | ⟨q, b⟩
      · rcases get_set b with ⟨_, y⟩ | ⟨y, _⟩
        · cases y
        · exact y z
      · rcases get_set b with ⟨_, y⟩ | ⟨y, _⟩
        · cases y
        · exact y z
    rw [get_setσ hi, if_neg ne] at a
    refine ⟨m, a, w, ?_⟩
    rcases b with b | ⟨q, b⟩
    · rcases get_set b with ⟨y, _⟩ | ⟨_, y⟩
      · exact absurd y ne
      · exact .inl y
    · rcases get_set b with ⟨y, _⟩ | ⟨_, y⟩
      · exact absurd y ne
      · exact .inr ⟨q, y⟩
theorem names_oth : ∀ {is : List Nat} {vs : List V} {ds : List D} {σ : L2.St} {G G' : Lo} {Q : L2.St → Hp → Prop}, (∀ i ∈ is, i < σ.length) → Sta T F B H σ G → IsL T B vs ds → asgs G is ds = some G' → (∀ σ', Sta T F B H σ' G' → OthS is σ σ' → (∀ p, Ownd σ' G' p → Ownd σ G p) → Q σ' H) → gNames is vs σ H Q
  | [], _, _, _, _, _, _, _, S, .nil, e, q => by
    cases e
    exact ⟨rfl, q _ S ⟨rfl, fun _ _ => rfl⟩ fun _ z => z⟩
  | [], _, _, _, _, _, _, _, _, .cons _ _, e, _ => by cases e
  | i :: is, _, _, _, _, _, _, _, _, .nil, e, _ => by cases e
  | i :: is, v :: vs, d :: ds, σ, G, G', Q, hl, S, .cons h t, e, q => by
    unfold asgs at e
    split at e
    · rename_i G1 e1
      have hi := hl i List.mem_cons_self
      have S2 := asg_imm_ok S hi h e1
      refine ⟨v, vs, rfl, ?_⟩
      refine names_oth (is := is) (σ := σ.set i (some v)) (fun j hj => ?_) S2 t e fun σ' S' l w => q σ' S' ⟨?_, fun j hj => ?_⟩ fun p z => asg_ownd hi e1 (w p z)
      · rw [List.length_set]
        exact hl j (List.mem_cons_of_mem _ hj)
      · rw [l.1, List.length_set]
      · rw [l.2 j fun z => hj (List.mem_cons_of_mem _ z), List.getElem?_set_ne (fun z => hj (by rw [z]; exact List.mem_cons_self))]
    · cases e
theorem pdc_name (i : Nat) {x : Str} {px : Pos} (hN : X.N.Nodup) (hi : X.N[i]? = some x := by rfl) (hx : Loc X.env.scope x := by first | exact Or.inl rfl | exact Or.inr rfl) (hf : X.fn x = true ∨ X.env.scope.names.lookup x = some .local := by first | exact .inl rfl | exact .inr rfl) : PDC X T F (.Name x px) (gNm i) (gName i) [i] := by
  refine ⟨pg_name (i := i) hN hi hx hf, fun hK hc B H σ G v d K Q len S h q k => ?_⟩
  unfold gNm at q
  split at q
  · rename_i G1 e1
    refine k _ G1 (asg_imm_ok S (by rw [len]; exact (List.getElem?_eq_some_iff.mp hi).1) h e1) ⟨by rw [List.length_set], fun j hj => ?_⟩ (fun p z => asg_ownd (by rw [len]; exact (List.getElem?_eq_some_iff.mp hi).1) e1 z) q
    rw [List.getElem?_set_ne (fun z => hj (by rw [z]; exact List.mem_cons_self))]
  · exact q.elim
theorem pdc_un {tg : List Expr} {k : Nat} {tpos : Pos} (is : List Nat) (hcm : X.calm = true) (hg : PGs X tg (gNames is)) (hl : ∀ i ∈ is, i < X.N.length := by decide) (hn : (assignEach tg X.env).length = is.length := by rfl) (hst : (assignEach tg X.env).findIdx? (·.1) = none := by rfl) : PDC X T F (.Tuple tg k tpos) (gUn is) (gTup X.K is.length (gNames is)) is := by
  refine ⟨pg_tup hcm hg hn hst, fun hK hc B H σ G v d K Q len S h q k => ?_⟩
  unfold gUn at q
  split at q
  · split at q
    · rename_i G1 e1
      cases h with
      | tup h2 l =>
        refine ⟨_, _, rfl, SqT.of (S.bh _ _ h2), by rw [l.length]; exact asgs_len e1, ?_⟩
        exact names_oth (fun i hi => by rw [len]; exact hl i hi) S l e1 fun σ' S' z w => k σ' G1 S' z w q
    · exact q.elim
  · exact q.elim

/-! ### the tests of a comprehension -/
def tGTs (X : Cx) (es : List Expr) : TT := fun σ H Q => ∀ (pins : List (Addr × Obj)) (s : Shared), Inv X pins σ H s →
    wpAny (model X.prog X.w) X.A (forIn es true fun c r => if r = true then do let ok ← isTrue c X.env (eval c X.env); pure (ForInStep.yield ok) else pure (ForInStep.yield r)) (TP X pins σ Q) X.xe s
theorem tGTs_of {es : List Expr} {t : TT} (h : PTs X es t) {Q : Bool → Hp → Prop} (q : t σ H Q) : tGTs X es σ H Q := fun pins s I => h.run pins s σ H Q I q
structure PDTs (X : Cx) (T : Tab) (F : Fr) (es : List Expr) (t : RT) : Prop where
  run : X.K = T.K → X.calm = true → ∀ (B H : Hp) (σ : L2.St) (G : Lo) (K : Bool → Lo → Prop), Sta T F B H σ G → t G K → tGTs X es σ H (PostT T F B H σ G K)
theorem tGTs_mono {es : List Expr} {Q Q' : Bool → Hp → Prop} (h : tGTs X es σ H Q) (k : ∀ v H, Q v H → Q' v H) : tGTs X es σ H Q' := fun pins s I =>
  thn (h pins s I) fun u s1 ⟨H1, I1, q⟩ => ⟨H1, I1, k _ H1 q⟩
@[simp ↓] def tYs : RT := fun G K => K true G
theorem pdts_nil : PDTs X T F [] tYs := ⟨fun hK hc B H σ G K S h => tGTs_of pts_nil ⟨B, G, S, Kp.refl, h⟩⟩
theorem pdts_one (h : PDT X T F c tt) : PDTs X T F [c] tt := ⟨fun hK hc B H σ G K S q => tGTs_of (pts_one (pt_G X c)) (h.run hK hc B H σ G K S q)⟩

/-! ### forgetting the own names of a comprehension -/
@[simp ↓] def wipeG (G : Lo) : List Nat → Lo
  | [] => G
  | v :: vs => (wipeG G vs).set v .no
theorem wipeG_len : ∀ (vs : List Nat) (G : Lo), (wipeG G vs).length = G.length
  | [], _ => rfl
  | v :: vs, G => by
    unfold wipeG
    rw [List.length_set, wipeG_len vs G]
theorem wipeG_get : ∀ (vs : List Nat) (G : Lo) (j : Nat) (s : Slot), (wipeG G vs)[j]? = some s → (j ∈ vs ∧ s = .no) ∨ (j ∉ vs ∧ G[j]? = some s)
  | [], _, _, _, h => .inr ⟨by simp, h⟩
  | v :: vs, G, j, s, h => by
    unfold wipeG at h
    rcases get_set h with ⟨rfl, rfl⟩ | ⟨ne, h⟩
    · exact .inl ⟨List.mem_cons_self, rfl⟩
    · rcases wipeG_get vs G j s h with ⟨a, b⟩ | ⟨a, b⟩
      · exact .inl ⟨List.mem_cons_of_mem _ a, b⟩
      · exact .inr ⟨fun z => (List.mem_cons.mp z).elim ne a, b⟩
/-- slots that tell nothing may hold anything -/
theorem Sta.wipeTo (S : Sta T F B H σ G) {σ' : L2.St} (vs : List Nat) (h : OthS vs σ σ') : Sta T F B H σ' (wipeG G vs) := by
  refine ⟨S.bh, S.b0, S.h0, S.a0, S.nb, by rw [h.1, wipeG_len]; exact S.len, fun j s e => ?_, fun j k p ne h1 h2 => ?_, S.al, S.tb⟩
  · rcases wipeG_get vs G j s e with ⟨_, rfl⟩ | ⟨a, b⟩
    · exact trivial
    · rw [h.2 j a]
      exact S.sl j s b
  · have low : ∀ m, OwnAt σ' (wipeG G vs) m p → OwnAt σ G m p := fun m ⟨a, w, b⟩ => by
      rcases b with b | ⟨q, b⟩
      · rcases wipeG_get vs G m _ b with ⟨_, z⟩ | ⟨x, y⟩
        · cases z
        · exact ⟨by rw [← h.2 m x]; exact a, w, .inl y⟩
      · rcases wipeG_get vs G m _ b with ⟨_, z⟩ | ⟨x, y⟩
        · cases z
        · exact ⟨by rw [← h.2 m x]; exact a, w, .inr ⟨q, y⟩⟩
    exact S.dj j k p ne (low j h1) (low k h2)
theorem ownd_wipe {σ' : L2.St} {vs : List Nat} {p : Addr} (h : OthS vs σ σ') (z : Ownd σ' (wipeG G vs) p) : Ownd σ G p := by
  obtain ⟨m, a, w, b⟩ := z
  rcases b with b | ⟨q, b⟩
  · rcases wipeG_get vs G m _ b with ⟨_, z⟩ | ⟨x, y⟩
    · cases z
    · exact ⟨m, by rw [← h.2 m x]; exact a, w, .inl y⟩
  · rcases wipeG_get vs G m _ b with ⟨_, z⟩ | ⟨x, y⟩
    · cases z
    · exact ⟨m, by rw [← h.2 m x]; exact a, w, .inr ⟨q, y⟩⟩
theorem Kp.chg {B' H' : Hp} {σ2 : L2.St} {G1 G3 Ge : Lo} (k : Kp B H σ2 G1 B' H' G3) (u1 : ∀ p, Ownd σ2 G1 p → Ownd σ G p) (u2 : ∀ p, Ownd σ Ge p → Ownd σ2 G3 p) : Kp B H σ G B' H' Ge :=
  ⟨k.b, fun x o e m n => k.h x o e m fun z => n (u1 x z), fun x h1 h2 n => k.n x h1 h2 fun z => n (u1 x z), fun p h => u1 p (k.g p (u2 p h)), k.t⟩
/-- an object of nobody's changes -/
theorem Sta.other {p : Addr} {u : HO} (S : Sta T F B H σ G) (bp : B p = none) (f : F.H0 p = none) (nt : ∀ ps, H p ≠ some (.tbl ps)) (n : ¬ Ownd σ G p) : Sta T F B (upd H p u) σ G := by
  refine ⟨fun x o e => ?_, S.b0, fun x o e m' m => ?_, fun x hx => ?_, S.nb, S.len, fun j s e => ?_, S.dj, fun a h => there_upd (S.al a h), S.tb.write nt⟩
  · rw [upd_ne (ne_of_none e bp)]
    exact S.bh x o e
  · rw [upd_ne (ne_of_none e f)]
    exact S.h0 x o e m' m
  · by_cases z : x = p
    · subst z
      rw [upd_same]
      exact fun z => nomatch z
    · rw [upd_ne z]
      exact S.a0 x hx
  · have q := S.sl j s e
    cases s with
    | no => exact trivial
    | imm d => exact q
    | own x =>
      obtain ⟨y, f1, f2, f3, f4⟩ := q
      have g : y ≠ p := fun z => n ⟨j, by rw [← z]; exact join_some f1, x, .inl e⟩
      exact ⟨y, f1, f2, f3.mono (Same.refl _) (upd_ne g), f4⟩
    | par k x =>
      obtain ⟨y, f1, f2, f3, f4⟩ := q
      have g : y ≠ p := fun z => n ⟨j, by rw [← z]; exact join_some f1, x, .inr ⟨k, e⟩⟩
      exact ⟨y, f1, f2, f3.mono (Same.refl _) (upd_ne g), f4⟩
theorem oth_symm {is : List Nat} {σ σ' : L2.St} (h : OthS is σ σ') : OthS is σ' σ := ⟨h.1.symm, fun j hj => (h.2 j hj).symm⟩

/-! ### [elt for target in iter if ..] -/
@[simp ↓] def lcGo (g : RG) (tt : RT) (te : RE) (vs : List Nat) (K : Opd → Lo → Prop) : List D → List D → Lo → Prop
  | [], acc, G => K (.new (.lst acc)) G
  | d :: ds, acc, G => g d (wipeG G vs) fun G1 => tt G1 fun b G2 => if b = true then tFz te G2 fun y G3 => acc.length < sizeLine ∧ lcGo g tt te vs K ds (acc ++ [y]) (wipeG G3 vs) else lcGo g tt te vs K ds acc (wipeG G2 vs)
@[simp ↓] def tLc (wi : RI) (g : RG) (tt : RT) (te : RE) (vs : List Nat) : RE := fun G K => wi G fun ds G1 => lcGo g tt te vs K ds [] G1
/-- the blocks of a comprehension -/
abbrev Blk (X : Cx) (scope : Scope) (P : Cx → Prop) : Prop := ∀ (s : Shared) (H : Hp) (C : Addr) (cl : List (Str × Addr)) (fp : List Addr), P (X.blk s H scope (compEnvC scope cl C X.env) fp)
def tBk (X : Cx) (scope : Scope) (e : Expr) : TE := fun σ H Q => Blk X scope fun Y => tG Y e σ H Q
def tBkT (X : Cx) (scope : Scope) (es : List Expr) : TT := fun σ H Q => Blk X scope fun Y => tGTs Y es σ H Q
theorem run_lc {tg iter elt : Expr} {ifs : List Expr} {scope : Scope} {wi : RI} {g : RG} {vg : TG} {is vs : List Nat} (hi : PDI X T F tg iter wi) (hg : Blk X scope fun Y => PDC Y T F tg g vg is) (ht : Blk X scope fun Y => PDTs Y T F ifs tt) (he : Blk X scope fun Y => PD Y T F elt te) (hs : ∀ i ∈ is, i ∈ vs)
    (s0 : Shared) (hK : X.K = T.K) (hc : X.calm = true) (hN : σ.length = X.N.length) {K : Opd → Lo → Prop} {Q : VK} (S : Sta T F B H σ G) (h : tLc wi g tt te vs G K) (hQ : ∀ v H', Post T F B H σ G K v H' → Q v H') :
    L2.tLc (tGI X tg iter) vg (tBkT X scope ifs) (tBk X scope elt) vs σ H Q := by
  refine tGI_mono (hi.run hK hc B H σ G _ S h) fun J H1 ⟨B1, ds, G1, S1, k1, it, q⟩ => fun Dl hD => ?_
  have f0 : F.H0 Dl = none := by
    cases e : F.H0 Dl with
    | none => rfl
    | some o => exact absurd hD (S1.alive (by rw [e]; exact fun z => nomatch z))
  refine ⟨fun i m H' => m = ds.length - i ∧ i ≤ ds.length ∧ ∃ B' Gi acc vacc, Sta T F B' H' σ Gi ∧ Kp B1 H1 σ G1 B' H' Gi ∧ H' Dl = some (.lst vacc) ∧ B' Dl = none ∧ IsL T B' vacc acc ∧ lcGo g tt te vs K (ds.drop i) acc Gi,
    ⟨_, rfl, Nat.zero_le _, B1, G1, [], [], S1.freshN hD, Kp.freshN hD, upd_same, S1.bh.free hD, .nil, q⟩, ?_⟩
  rintro i m H' ⟨rfl, hle, B', Gi, acc, vacc, S', k', hl, bl, la, q'⟩
  have nOw : ∀ {σ2 : L2.St} {G2 : Lo}, (∀ p, Ownd σ2 G2 p → Ownd σ Gi p) → ¬ Ownd σ2 G2 Dl := fun u z => S1.notOwn hD (k'.g _ (u _ z))
  by_cases hlt : i < ds.length
  · refine .inr ⟨it.go i B' H' k'.b S'.bh hlt, fun H2 => ∃ B' Gi acc vacc, Sta T F B' H2 σ Gi ∧ Kp B1 H1 σ G1 B' H2 Gi ∧ H2 Dl = some (.lst vacc) ∧ B' Dl = none ∧ IsL T B' vacc acc ∧ lcGo g tt te vs K (ds.drop (i + 1)) acc Gi,
      fun H2 z => ⟨ds.length - (i + 1), by omega, rfl, hlt, z⟩, fun x H2 y => ?_⟩
    have hd : ds[i]? = some ds[i] := List.getElem?_eq_getElem hlt
    obtain ⟨B2, S2, k2, i2⟩ := it.yld i B' H' F σ Gi x H2 ds[i] k'.b S' hd y
    rw [List.drop_eq_getElem_cons hlt] at q'
    have ow : OthS vs σ (wipe σ vs) := ⟨wipe_len vs σ, fun j hj => wipe_out vs σ j hj⟩
    have Sw := S2.wipeTo vs ow
    refine (hg s0 H 0 [] []).ok hK hc B2 H2 (wipe σ vs) _ x ds[i] _ _ (by rw [wipe_len]; exact hN) Sw i2 q' fun σ3 G3 S3 o3 w3 q3 => ?_
    have w03 : ∀ p, Ownd σ3 G3 p → Ownd σ Gi p := fun p z => ownd_wipe ow (w3 p z)
    have e3 : wipe σ3 vs = wipe σ vs := (wipe_eq o3 hs).trans (wipe_wipe vs σ)
    have back : OthS vs σ3 σ := ⟨by rw [o3.1, wipe_len], fun j hj => by rw [o3.2 j (fun z => hj (hs j z)), wipe_out vs σ j hj]⟩
    have hl2 : H2 Dl = some (.lst vacc) := k2.h _ _ hl (nt_lst _) (nOw fun _ z => z)
    have bl2 : B2 Dl = none := k2.n _ (by rw [hl]; exact fun z => nomatch z) bl (nOw fun _ z => z)
    refine ⟨e3, fun s1 H0 C cl fp => tGTs_mono ((ht s1 H0 C cl fp).run hK hc B2 H2 σ3 G3 _ S3 q3) fun b H4 ⟨B4, G4, S4, k4, q4⟩ => ?_⟩
    have hl4 : H4 Dl = some (.lst vacc) := k4.h _ _ hl2 (nt_lst _) (nOw w03)
    have bl4 : B4 Dl = none := k4.n _ (by rw [hl2]; exact fun z => nomatch z) bl2 (nOw w03)
    have w04 : ∀ p, Ownd σ3 G4 p → Ownd σ Gi p := fun p z => w03 p (k4.g p z)
    have k04 : Kp B' H' σ Gi B4 H4 (wipeG G4 vs) := k2.trans (k4.chg w03 fun p z => ownd_wipe back z)
    cases b with
    | true =>
      rw [if_pos rfl] at q4 ⊢
      refine fun s2 H0' C' cl' fp' => tG_mono (run_fz (he s2 H0' C' cl' fp') hK hc S4 q4) fun y H5 ⟨B5, d5, G5, S5, k5, i5, hz, q5⟩ => ?_
      have hl5 : H5 Dl = some (.lst vacc) := k5.h _ _ hl4 (nt_lst _) (nOw w04)
      have bl5 : B5 Dl = none := k5.n _ (by rw [hl4]; exact fun z => nomatch z) bl4 (nOw w04)
      have w05 : ∀ p, Ownd σ3 G5 p → Ownd σ Gi p := fun p z => w04 p (k5.g p z)
      have k05 : Kp B' H' σ Gi B5 H5 (wipeG G5 vs) := k2.trans ((k4.trans k5).chg w03 fun p z => ownd_wipe back z)
      refine ⟨vacc, hl5, by rw [la.length]; exact hz, B5, wipeG G5 vs, acc ++ [d5], vacc ++ [y], (S5.other (u := .lst (vacc ++ [y])) bl5 f0 (some_nt hl5 (nt_lst _)) (nOw w05)).wipeTo vs back, ?_, upd_same, bl5, (la.mono (k2.b.trans (k4.b.trans k5.b))).append (.cons i5 .nil), q5⟩
      have k6 := k'.trans k05
      exact ⟨k6.b, fun a o e m n => by rw [upd_ne (ne_of_none e hD)]; exact k6.h a o e m n, k6.n, k6.g, fun a hh => by
        by_cases z : a = Dl
        · subst z
          rw [upd_same]
          exact fun z => nomatch z
        · rw [upd_ne z]
          exact k6.t a hh⟩
    | false =>
      rw [if_neg Bool.false_ne_true] at q4 ⊢
      exact ⟨B4, wipeG G4 vs, acc, vacc, S4.wipeTo vs back, k'.trans k04, hl4, bl4, la.mono (k2.b.trans k4.b), q4⟩
  · have e0 : i = ds.length := by omega
    subst e0
    rw [List.drop_length] at q'
    refine .inl ⟨it.stop _ B' H' k'.b S'.bh (Nat.le_refl _), hQ _ _ (Post.more k1 ⟨B', .new (.lst acc), Gi, S', k', ⟨Dl, rfl, bl, ⟨vacc, hl, la⟩, f0, nOw fun _ z => z⟩, fun p w _ e => ?_, q'⟩)⟩
    cases e
    exact hD
theorem pe_Bk {scope : Scope} {e : Expr} : Blk X scope fun Y => PE Y e (tBk X scope e) := fun s H C cl fp => ⟨fun pins s1 σ H1 Q I h => h s H C cl fp pins s1 I⟩
theorem pts_Bk {scope : Scope} {es : List Expr} : Blk X scope fun Y => PTs Y es (tBkT X scope es) := fun s H C cl fp => ⟨fun pins s1 σ H1 Q I h => h s H C cl fp pins s1 I⟩
theorem pd_lc {tg iter elt : Expr} {ifs : List Expr} {scope : Scope} {own : List (Str × Nat)} {wi : RI} {g : RG} {vg : TG} {is : List Nat} (hN : X.N.Nodup) (hi : PDI X T F tg iter wi) (ok : BlkOk X.N X.env.scope scope own) (hg : Blk X scope fun Y => PDC Y T F tg g vg is)
    (ht : Blk X scope fun Y => PDTs Y T F ifs tt) (he : Blk X scope fun Y => PD Y T F elt te) (hs : ∀ i ∈ is, i ∈ own.map (·.2) := by decide) (hf : ∀ x, foldedSetIterable iter X.env x = pure x := by intro _; rfl) :
    PD X T F (.ListComp elt [⟨tg, iter, ifs, 0⟩] scope pos) (tLc wi g tt te (own.map (·.2))) := by
  refine ⟨fun hK hc B H σ G K S h pins s I => ?_⟩
  refine (pe_lc hc hN (pi_G X tg iter) ok (fun s H C cl fp => (hg s H C cl fp).pg) pts_Bk pe_Bk hf).run pins s σ H _ I ?_
  exact run_lc hi hg ht he hs s hK hc I.len S h fun _ _ z => z
/-- name = [..] on one line -/
theorem pds_setLc (i : Nat) {y : Str} {py spos : Pos} {tg iter elt : Expr} {ifs : List Expr} {scope : Scope} {own : List (Str × Nat)} {wi : RI} {g : RG} {vg : TG} {is : List Nat} (hN : X.N.Nodup) (hi : PDI X T F tg iter wi) (ok : BlkOk X.N X.env.scope scope own) (hg : Blk X scope fun Y => PDC Y T F tg g vg is)
    (ht : Blk X scope fun Y => PDTs Y T F ifs tt) (he : Blk X scope fun Y => PD Y T F elt te) (hy : X.N[i]? = some y := by rfl) (hyl : X.env.scope.names.lookup y = some .local := by rfl)
    (hsw : swapsWith (.ListComp elt [⟨tg, iter, ifs, 0⟩] scope pos) (some (.Name y py)) spos.line X.env = pure true := by exact sw_true rfl rfl rfl (by decide +kernel)) (hs : ∀ i ∈ is, i ∈ own.map (·.2) := by decide) (hf : ∀ x, foldedSetIterable iter X.env x = pure x := by intro _; rfl) :
    PDS X T F (.Assign [.Name y py] (.ListComp elt [⟨tg, iter, ifs, 0⟩] scope pos) spos) (sSet i (tLc wi g tt te (own.map (·.2)))) := by
  refine ⟨fun hK hc B H σ G D S h pins s I => ?_⟩
  have hl : i < σ.length := by
    rw [I.len]
    exact (List.getElem?_eq_some_iff.mp hy).1
  refine (ps_setLc hc hN hy hyl hsw (pi_G X tg iter) ok (fun s H C cl fp => (hg s H C cl fp).pg) pts_Bk pe_Bk hf).run pins s σ H _ I ?_
  show L2.tLc (tGI X tg iter) vg (tBkT X scope ifs) (tBk X scope elt) (own.map (·.2)) σ H fun x H1 => gName i x σ H1 (toE T F B D).nx
  refine run_lc hi hg ht he hs s hK hc I.len S h fun v H1 ⟨B1, o, G1, S1, k1, w, _, q⟩ => ?_
  dsimp only at q
  cases e1 : asg G1 i o with
  | none =>
    rw [e1] at q
    exact q.elim
  | some G2 =>
    rw [e1] at q
    obtain ⟨B2, S2, e2⟩ := asg_ok S1 hl w e1
    exact ⟨B2, G2, S2, k1.b.trans e2, q⟩

/-! ### zip, enumerate -/
def zipD : List D → List D → List D
  | x :: xs, y :: ys => .tup [x, y] :: zipD xs ys
  | _, _ => []
theorem zipD_get : ∀ (xs ys : List D) (i : Nat) (d : D), (zipD xs ys)[i]? = some d → ∃ x y, xs[i]? = some x ∧ ys[i]? = some y ∧ d = .tup [x, y]
  | [], _, _, _, h => by simp [zipD] at h
  | _ :: _, [], _, _, h => by simp [zipD] at h
  | x :: xs, y :: ys, 0, d, h => by
    simp [zipD] at h
    exact ⟨x, y, rfl, rfl, h.symm⟩
  | x :: xs, y :: ys, i + 1, d, h => by
    obtain ⟨a, b, h1, h2, h3⟩ := zipD_get xs ys i d (by simpa [zipD] using h)
    exact ⟨a, b, by simpa using h1, by simpa using h2, h3⟩
theorem zipD_len : ∀ (xs ys : List D), (zipD xs ys).length = min xs.length ys.length
  | [], _ => by simp [zipD]
  | _ :: _, [] => by simp [zipD]
  | x :: xs, y :: ys => by
    simp only [zipD, List.length_cons, zipD_len xs ys]
    omega
theorem ito_zipT {a b : Addr} {vs ws : List V} {ds es : List D} (h : B a = some (.tup vs)) (l : IsL T B vs ds) (h2 : B b = some (.tup ws)) (l2 : IsL T B ws es) : ItOk T.K T B (RZ.ItzT T.K a b) (zipD ds es) := by
  refine ⟨fun i B' H' e1 e2 hi => ?_, fun i B' H' e1 e2 hi => ?_, fun i B' H' F σ G x H'' d e1 S hd hy => ?_⟩
  · rw [zipD_len] at hi
    have hv : i < vs.length := by rw [l.length]; omega
    have hw : i < ws.length := by rw [l2.length]; omega
    exact ⟨vs, ws, vs[i], ws[i], SqT.of (e2 _ _ (e1 _ _ h)), SqT.of (e2 _ _ (e1 _ _ h2)), List.getElem?_eq_getElem hv, List.getElem?_eq_getElem hw⟩
  · rw [zipD_len] at hi
    exact ⟨vs, ws, SqT.of (e2 _ _ (e1 _ _ h)), SqT.of (e2 _ _ (e1 _ _ h2)), by rw [l.length, l2.length]; omega⟩
  · obtain ⟨p, x1, y1, rfl, hp, rfl, q1, q2⟩ := hy
    obtain ⟨dx, dy, r1, r2, rfl⟩ := zipD_get _ _ _ _ hd
    obtain ⟨d1, f1, g1⟩ := l.get' (q1 vs (SqT.of (S.bh _ _ (e1 _ _ h))))
    obtain ⟨d2, f2, g2⟩ := l2.get' (q2 ws (SqT.of (S.bh _ _ (e1 _ _ h2))))
    rw [r1] at f1
    cases f1
    rw [r2] at f2
    cases f2
    have e3 := e1.trans (same_upd (u := .tup [x1, y1]) (S.bh.free hp))
    exact ⟨_, S.fresh hp, Kp.fresh S hp, .tup upd_same (.cons (g1.mono e3) (.cons (g2.mono e3) .nil))⟩
theorem ito_zipL {a b : Addr} {vs ws : List V} {ds es : List D} (h : B a = some (.lst vs)) (l : IsL T B vs ds) (h2 : B b = some (.lst ws)) (l2 : IsL T B ws es) : ItOk T.K T B (Itz T.K a b) (zipD ds es) := by
  refine ⟨fun i B' H' e1 e2 hi => ?_, fun i B' H' e1 e2 hi => ?_, fun i B' H' F σ G x H'' d e1 S hd hy => ?_⟩
  · rw [zipD_len] at hi
    have hv : i < vs.length := by rw [l.length]; omega
    have hw : i < ws.length := by rw [l2.length]; omega
    exact ⟨vs, ws, vs[i], ws[i], SqL.of (e2 _ _ (e1 _ _ h)), SqL.of (e2 _ _ (e1 _ _ h2)), List.getElem?_eq_getElem hv, List.getElem?_eq_getElem hw⟩
  · rw [zipD_len] at hi
    exact ⟨vs, ws, SqL.of (e2 _ _ (e1 _ _ h)), SqL.of (e2 _ _ (e1 _ _ h2)), by rw [l.length, l2.length]; omega⟩
  · obtain ⟨p, x1, y1, rfl, hp, rfl, q1, q2⟩ := hy
    obtain ⟨dx, dy, r1, r2, rfl⟩ := zipD_get _ _ _ _ hd
    obtain ⟨d1, f1, g1⟩ := l.get' (q1 vs (SqL.of (S.bh _ _ (e1 _ _ h))))
    obtain ⟨d2, f2, g2⟩ := l2.get' (q2 ws (SqL.of (S.bh _ _ (e1 _ _ h2))))
    rw [r1] at f1
    cases f1
    rw [r2] at f2
    cases f2
    have e3 := e1.trans (same_upd (u := .tup [x1, y1]) (S.bh.free hp))
    exact ⟨_, S.fresh hp, Kp.fresh S hp, .tup upd_same (.cons (g1.mono e3) (.cons (g2.mono e3) .nil))⟩
def enuD (i : Nat) : List D → List D
  | [] => []
  | x :: xs => .tup [.int i, x] :: enuD (i + 1) xs
theorem enuD_len : ∀ (xs : List D) (i : Nat), (enuD i xs).length = xs.length
  | [], _ => rfl
  | x :: xs, i => by
    unfold enuD
    rw [List.length_cons, List.length_cons, enuD_len xs]
theorem enuD_get : ∀ (xs : List D) (k i : Nat) (d : D), (enuD k xs)[i]? = some d → ∃ x, xs[i]? = some x ∧ d = .tup [.int ((k + i : Nat) : Int), x]
  | [], _, _, _, h => by simp [enuD] at h
  | x :: xs, k, 0, d, h => by
    simp [enuD] at h
    exact ⟨x, rfl, by rw [← h]; simp⟩
  | x :: xs, k, i + 1, d, h => by
    obtain ⟨a, h1, h2⟩ := enuD_get xs (k + 1) i d (by simpa [enuD] using h)
    refine ⟨a, by simpa using h1, ?_⟩
    rw [h2]
    congr 4
    omega
theorem ito_enum {a : Addr} {vs : List V} {ds : List D} (h : B a = some (.lst vs)) (l : IsL T B vs ds) : ItOk T.K T B (Ite T.K a) (enuD 0 ds) := by
  refine ⟨fun i B' H' e1 e2 hi => ?_, fun i B' H' e1 e2 hi => ?_, fun i B' H' F σ G x H'' d e1 S hd hy => ?_⟩
  · rw [enuD_len] at hi
    have hv : i < vs.length := by rw [l.length]; omega
    exact ⟨vs, vs[i], SqL.of (e2 _ _ (e1 _ _ h)), List.getElem?_eq_getElem hv⟩
  · rw [enuD_len] at hi
    exact ⟨vs, SqL.of (e2 _ _ (e1 _ _ h)), by rw [l.length]; exact hi⟩
  · obtain ⟨p, x1, rfl, hp, rfl, q1⟩ := hy
    obtain ⟨dx, r1, rfl⟩ := enuD_get _ _ _ _ hd
    obtain ⟨d1, f1, g1⟩ := l.get' (q1 vs (SqL.of (S.bh _ _ (e1 _ _ h))))
    rw [r1] at f1
    cases f1
    have e3 := e1.trans (same_upd (u := .tup [.int (i : Nat), x1]) (S.bh.free hp))
    refine ⟨_, S.fresh hp, Kp.fresh S hp, .tup upd_same (.cons ?_ (.cons (g1.mono e3) .nil))⟩
    rw [Nat.zero_add]
    exact .int _
@[simp ↓] def iZip (ta tb : RE) : RI := fun G K => tFz ta G fun d G1 => tFz tb G1 fun d' G2 => match d, d' with
  | .lst xs, .lst ys => K (zipD xs ys) G2
  | .tup xs, .tup ys => K (zipD xs ys) G2
  | _, _ => False
theorem pdi_zip {elts : List Expr} {kk : Nat} {tpos p : Pos} (hm : X.mg "zip" = none) (ha : PD X T F a ta) (hb : PD X T F b tb) (hg : Gl X "zip" := by rfl) (hs : starEach [a, b] X.env = (false, eval a X.env) :: starEach [b] X.env := by rfl)
    (hs2 : starEach [b] X.env = (false, eval b X.env) :: starEach [] X.env := by rfl) (hpl : (backTo pos (starEach [b] X.env)).any (·.1) = false := by rfl) : PDI X T F (.Tuple elts kk tpos) (.Call (.Name "zip" p) [a, b] [] pos) (iZip ta tb) := by
  refine ⟨fun hK hc B H σ G K S h => tGI_of (RZ.pi_zipA hg hm (pa_cons (pe_G X a) (pa_cons (pe_G X b) pa_nil hs2) hs) hs hpl) ?_⟩
  refine tG_mono (run_fz ha hK hc S h) fun v H1 ⟨B1, d, G1, S1, k1, i1, q⟩ => tG_mono (run_fz hb hK hc S1 q) fun w H2 ⟨B2, d', G2, S2, k2, i2, q2⟩ => ?_
  have i1' := i1.mono k2.b
  split at q2
  · cases i1' with
    | lst h1 l1 =>
      cases i2 with
      | lst h2 l2 => exact ⟨_, _, _, _, rfl, .inl ⟨SqL.of (S2.bh _ _ h1), SqL.of (S2.bh _ _ h2), ⟨B2, _, G2, S2, k1.trans k2, by rw [hK]; exact ito_zipL h1 l1 h2 l2, q2⟩⟩⟩
  · cases i1' with
    | tup h1 l1 =>
      cases i2 with
      | tup h2 l2 => exact ⟨_, _, _, _, rfl, .inr ⟨SqT.of (S2.bh _ _ h1), SqT.of (S2.bh _ _ h2), ⟨B2, _, G2, S2, k1.trans k2, by rw [hK]; exact ito_zipT h1 l1 h2 l2, q2⟩⟩⟩
  · exact q2.elim
@[simp ↓] def iEnu (ta : RE) : RI := fun G K => tFz ta G fun d G1 => match d with
  | .lst xs => K (enuD 0 xs) G1
  | _ => False
theorem pdi_enum {elts : List Expr} {kk : Nat} {tpos p : Pos} (hm : X.mg "enumerate" = none) (ha : PD X T F a ta) (hg : Gl X "enumerate" := by rfl) (hs : starEach [a] X.env = [(false, eval a X.env)] := by rfl) : PDI X T F (.Tuple elts kk tpos) (.Call (.Name "enumerate" p) [a] [] pos) (iEnu ta) := by
  refine ⟨fun hK hc B H σ G K S h => tGI_of (pi_enum hg hm (pa_cons (pe_G X a) pa_nil hs) hs) ?_⟩
  refine tG_mono (run_fz ha hK hc S h) fun v H1 ⟨B1, d, G1, S1, k1, i1, q⟩ => ?_
  split at q
  · cases i1 with
    | lst h1 l1 => exact ⟨_, _, rfl, SqL.of (S1.bh _ _ h1), ⟨B1, _, G1, S1, k1, by rw [hK]; exact ito_enum h1 l1, q⟩⟩
  · exact q.elim
end
end Fx
end
section
set_option Elab.async false
set_option linter.all false
set_option maxRecDepth 100000
set_option maxHeartbeats 2000000
/-! Fx8: defs and calls -/
namespace Fx
open PySem PySem.Spec PyProof.Rows L2

inductive Arg where
  | imm (d : D) | own (w : Own)
inductive ArgS where
  | imm (d : D) | slot (i : Nat)
abbrev KN := Opd → List Own → Prop
abbrev KX := Nat → D → List Own → Prop
/-- a def's promise over data: what it is given, what is wanted of its end -/
abbrev Spec := List Arg → KN → KX → Prop
inductive ArgsOk (T : Tab) (B H : Hp) : List V → List Arg → List Addr → Prop
  | nil : ArgsOk T B H [] [] []
  | imm {v : V} {d : D} {vs : List V} {as : List Arg} {A0 : List Addr} (h : Is T B v d) (t : ArgsOk T B H vs as A0) : ArgsOk T B H (v :: vs) (.imm d :: as) A0
  | own {p : Addr} {w : Own} {vs : List V} {as : List Arg} {A0 : List Addr} (b : B p = none) (h : OwnIs T B H p w) (t : ArgsOk T B H vs as A0) : ArgsOk T B H (.ref p :: vs) (.own w :: as) (p :: A0)
def OutsOk (T : Tab) (B H : Hp) : List Addr → List Own → Prop
  | [], [] => True
  | p :: ps, w :: ws => B p = none ∧ OwnIs T B H p w ∧ OutsOk T B H ps ws
  | _, _ => False
/-- behind a call: the objects at A0 hold outs, the others stand -/
structure Aft (T : Tab) (B H : Hp) (A0 : List Addr) (B' H' : Hp) (outs : List Own) : Prop where
  b : Same B B'
  bh : Same B' H'
  h : ∀ a o, H a = some o → NT o → a ∉ A0 → H' a = some o
  n : ∀ a, H a ≠ none → B a = none → B' a = none
  t : ∀ a, H a ≠ none → H' a ≠ none
  o : OutsOk T B' H' A0 outs
  tb : Tbs T B' H'
def ResOk (T : Tab) (H B' H' : Hp) (v : V) : Opd → Prop
  | .imm d => Is T B' v d
  | .new w => ∃ p, v = .ref p ∧ B' p = none ∧ OwnIs T B' H' p w ∧ H p = none
  | .own _ => False
/-- an exception object's own dict -/
def ExcIs (T : Tab) (B H : Hp) (d : Option Addr) (dv : D) : Prop := ∃ a v, d = some a ∧ B a = some (.xd [("value", v)]) ∧ Is T B v dv
def spOf (T : Tab) (S : Spec) : Sp := fun vs H Q E => ∃ (B : Hp) (as : List Arg) (A0 : List Addr) (K : KN) (Kx : KX), Same B H ∧ Tbs T B H ∧ ArgsOk T B H vs as A0 ∧ A0.Nodup ∧ S as K Kx ∧
  (∀ v B' H' outs o, Aft T B H A0 B' H' outs → ResOk T H B' H' v o → K o outs → Q v H') ∧
  (∀ c d dv B' H' outs, Aft T B H A0 B' H' outs → ExcIs T B' H' d dv → Kx c dv outs → E (.ref (T.cl c)) d H')

section
variable {X : Cx} {T : Tab} {F : Fr} {B B' H H' : Hp} {σ : L2.St} {G G' : Lo} {v : V} {o : Opd}

theorem ArgsOk.length {vs : List V} {as : List Arg} {A0 : List Addr} (h : ArgsOk T B H vs as A0) : vs.length = as.length := by
  induction h with
  | nil => rfl
  | imm h t ih => rw [List.length_cons, List.length_cons, ih]
  | own b h t ih => rw [List.length_cons, List.length_cons, ih]

/-! ### a frame's beginning -/
@[simp ↓] def iSl : Nat → List Arg → Lo
  | _, [] => []
  | j, .imm d :: as => .imm d :: iSl j as
  | j, .own w :: as => .par j w :: iSl (j + 1) as
@[simp ↓] def initG (n : Nat) (as : List Arg) : Lo := iSl 0 as ++ List.replicate (n - as.length) .no
theorem iSl_len : ∀ {as : List Arg} {j : Nat}, (iSl j as).length = as.length
  | [], _ => rfl
  | .imm _ :: as, j => by
    show (iSl j as).length + 1 = as.length + 1
    rw [iSl_len]
  | .own _ :: as, j => by
    show (iSl (j + 1) as).length + 1 = as.length + 1
    rw [iSl_len]
theorem iSl_sl {H0 : Hp} {vs : List V} {as : List Arg} {A1 : List Addr} (h : ArgsOk T B H vs as A1) : ∀ {pre : List Addr} {i : Nat} {s : Slot}, (iSl pre.length as)[i]? = some s → SlotOk T ⟨B, H0, pre ++ A1⟩ B H ((vs.map some)[i]?).join s := by
  induction h with
  | nil => intro pre i s e; simp [iSl] at e
  | @imm v d vs as A0 h t ih =>
    intro pre i s e
    cases i with
    | zero =>
      simp [iSl] at e
      subst e
      exact ⟨_, rfl, h⟩
    | succ i =>
      simp [iSl] at e
      simpa using ih e
  | @own p w vs as A0 b h t ih =>
    intro pre i s e
    cases i with
    | zero =>
      simp [iSl] at e
      subst e
      exact ⟨p, rfl, b, h, by simp⟩
    | succ i =>
      simp [iSl] at e
      have q := ih (pre := pre ++ [p]) (i := i) (s := s) (by rw [List.length_append]; exact e)
      rw [List.append_assoc] at q
      simpa using q
theorem iSl_par : ∀ {as : List Arg} {j i k : Nat} {w : Own}, (iSl j as)[i]? = some (.par k w) → j ≤ k
  | [], _, _, _, _, e => by simp [iSl] at e
  | .imm _ :: as, j, 0, k, w, e => by simp [iSl] at e
  | .imm _ :: as, j, i + 1, k, w, e => iSl_par (as := as) (i := i) (by simpa [iSl] using e)
  | .own _ :: as, j, 0, k, w, e => by
    simp [iSl] at e
    omega
  | .own _ :: as, j, i + 1, k, w, e => by
    have := iSl_par (as := as) (j := j + 1) (i := i) (by simpa [iSl] using e)
    omega
theorem iSl_inj : ∀ {as : List Arg} {j i i' k : Nat} {w w' : Own}, (iSl j as)[i]? = some (.par k w) → (iSl j as)[i']? = some (.par k w') → i = i'
  | [], _, _, _, _, _, _, e, _ => by simp [iSl] at e
  | .imm _ :: as, j, 0, _, k, _, _, e, _ => by simp [iSl] at e
  | .imm _ :: as, j, i + 1, 0, k, _, _, _, e => by simp [iSl] at e
  | .imm _ :: as, j, i + 1, i' + 1, k, w, w', e, e' => by rw [iSl_inj (as := as) (i := i) (i' := i') (by simpa [iSl] using e) (by simpa [iSl] using e')]
  | .own _ :: as, j, 0, 0, k, w, w', e, e' => rfl
  | .own _ :: as, j, 0, i' + 1, k, w, w', e, e' => by
    simp [iSl] at e e'
    have := iSl_par e'
    omega
  | .own _ :: as, j, i + 1, 0, k, w, w', e, e' => by
    simp [iSl] at e e'
    have := iSl_par e
    omega
  | .own _ :: as, j, i + 1, i' + 1, k, w, w', e, e' => by rw [iSl_inj (as := as) (i := i) (i' := i') (by simpa [iSl] using e) (by simpa [iSl] using e')]
theorem iSl_own : ∀ {as : List Arg} {j i : Nat} {w : Own}, (iSl j as)[i]? ≠ some (.own w)
  | [], _, _, _, e => by simp [iSl] at e
  | .imm _ :: as, j, 0, w, e => by simp [iSl] at e
  | .imm _ :: as, j, i + 1, w, e => iSl_own (as := as) (i := i) (by simpa [iSl] using e)
  | .own _ :: as, j, 0, w, e => by simp [iSl] at e
  | .own _ :: as, j, i + 1, w, e => iSl_own (as := as) (j := j + 1) (i := i) (by simpa [iSl] using e)
theorem initG_at {n i : Nat} {as : List Arg} {s : Slot} (e : (initG n as)[i]? = some s) : (iSl 0 as)[i]? = some s ∨ (as.length ≤ i ∧ s = .no) := by
  unfold initG at e
  by_cases h : i < (iSl 0 as).length
  · rw [List.getElem?_append_left h] at e
    exact .inl e
  · rw [List.getElem?_append_right (by omega), List.getElem?_replicate] at e
    rw [iSl_len] at h
    split at e
    · exact .inr ⟨by omega, (Option.some.inj e).symm⟩
    · cases e
theorem sta_init {N : List Str} {vs : List V} {as : List Arg} {A0 : List Addr} (bh : Same B H) (tb : Tbs T B H) (h : ArgsOk T B H vs as A0) (nd : A0.Nodup) : Sta T ⟨B, H, A0⟩ B H (L2.start N vs) (initG N.length as) := by
  have hl := h.length
  have st : ∀ i, i < vs.length → (L2.start N vs)[i]? = (vs.map some)[i]? := fun i hi => by
    unfold L2.start
    rw [List.getElem?_append_left (by rw [List.length_map]; exact hi)]
  have sl : ∀ (i : Nat) (s : Slot), (initG N.length as)[i]? = some s → SlotOk T ⟨B, H, A0⟩ B H ((L2.start N vs)[i]?).join s := fun i s e => by
    rcases initG_at e with e | ⟨_, rfl⟩
    · have hi : i < vs.length := by
        rw [hl]
        have := (List.getElem?_eq_some_iff.mp e).1
        rw [iSl_len] at this
        exact this
      rw [st i hi]
      exact iSl_sl (H0 := H) (pre := []) h e
    · exact trivial
  refine ⟨bh, Same.refl _, fun _ _ e _ _ => e, fun a ha => ?_, fun _ _ h => h, ?_, sl, fun i j p ne h1 h2 => ?_, fun _ h => h, tb⟩
  · have key : ∀ {vs as A1}, ArgsOk T B H vs as A1 → a ∈ A1 → H a ≠ none := fun h => by
      induction h with
      | nil => exact fun z => absurd z (by simp)
      | imm h t ih => exact ih
      | own b h t ih =>
        intro z
        rcases List.mem_cons.mp z with rfl | z
        · obtain ⟨u, hu⟩ := h.there
          rw [hu]
          exact fun z => nomatch z
        · exact ih z
    exact key h ha
  · unfold initG L2.start
    rw [List.length_append, List.length_append, List.length_map, List.length_replicate, List.length_replicate, iSl_len, hl]
  · have key : ∀ m, OwnAt (L2.start N vs) (initG N.length as) m p → ∃ k w, (iSl 0 as)[m]? = some (.par k w) ∧ A0[k]? = some p := fun m ⟨a, w, b⟩ => by
      rcases b with b | ⟨k, b⟩
      · rcases initG_at b with b | ⟨_, b⟩
        · exact absurd b iSl_own
        · cases b
      · have b0 := b
        rcases initG_at b with b | ⟨_, b⟩
        · have q := sl m _ b0
          rw [a] at q
          obtain ⟨p', e1, _, _, e2⟩ := q
          cases e1
          exact ⟨k, w, b, e2⟩
        · cases b
    obtain ⟨k, w, a1, a2⟩ := key i h1
    obtain ⟨k', w', b1, b2⟩ := key j h2
    have hk : k < A0.length := (List.getElem?_eq_some_iff.mp a2).1
    have e : k = k' := (List.getElem?_inj hk nd).mp (a2.trans b2.symm)
    subst e
    exact ne (iSl_inj a1 b1)

/-! ### its end -/
@[simp ↓] def outsG (G : Lo) : Nat → Nat → List Arg → Option (List Own)
  | _, _, [] => some []
  | i, j, .imm _ :: as => outsG G (i + 1) j as
  | i, j, .own _ :: as => match G[i]? with
    | some (.par k w) => if k = j then (outsG G (i + 1) (j + 1) as).map (w :: ·) else none
    | _ => none
@[simp ↓] def retG (G : Lo) : Opd → Option Opd
  | .imm d => some (.imm d)
  | .new w => some (.new w)
  | .own i => match G[i]? with
    | some (.own w) => some (.new w)
    | some (.imm d) => some (.imm d)
    | _ => none
theorem outsG_ok {A0 : List Addr} (S : Sta T ⟨B, H, A0⟩ B' H' σ G) {vs : List V} {as : List Arg} {A1 : List Addr} {B2 H2 : Hp} (h : ArgsOk T B2 H2 vs as A1) :
    ∀ {pre : List Addr} {i : Nat} {outs : List Own}, A0 = pre ++ A1 → outsG G i pre.length as = some outs → OutsOk T B' H' A1 outs := by
  induction h with
  | nil =>
    intro pre i outs _ e
    cases e
    exact trivial
  | imm h t ih => exact fun e1 e2 => ih e1 e2
  | @own p w vs as A1 b h t ih =>
    intro pre i outs e1 e2
    unfold outsG at e2
    split at e2
    · rename_i k w' eg
      split at e2
      · rename_i ek
        obtain ⟨r, e3, e4⟩ := Option.map_eq_some_iff.mp e2
        subst e4
        obtain ⟨p', f1, f2, f3, f4⟩ := S.sl i _ eg
        have ep : p' = p := by
          have f4 : A0[k]? = some p' := f4
          rw [e1, ek, List.getElem?_append_right (Nat.le_refl _), Nat.sub_self] at f4
          exact (Option.some.inj f4).symm
        subst ep
        exact ⟨f2, f3, ih (pre := pre ++ [p']) (by rw [e1, List.append_assoc]; rfl) (by rw [List.length_append]; exact e3)⟩
      · cases e2
    · cases e2
theorem aft_of {A0 : List Addr} (S : Sta T ⟨B, H, A0⟩ B' H' σ G) {vs : List V} {as : List Arg} {B2 H2 : Hp} (h : ArgsOk T B2 H2 vs as A0) {outs : List Own} (e : outsG G 0 0 as = some outs) : Aft T B H A0 B' H' outs :=
  ⟨S.b0, S.bh, S.h0, S.nb, fun a ha => S.alive ha, outsG_ok S h (pre := []) rfl e, S.tb⟩
theorem res_of {A0 : List Addr} (S : Sta T ⟨B, H, A0⟩ B' H' σ G) (h : OpdOk T ⟨B, H, A0⟩ B' H' σ G v o) {r : Opd} (e : retG G o = some r) : ResOk T H B' H' v r := by
  cases o with
  | imm d =>
    cases e
    exact h
  | new w =>
    cases e
    obtain ⟨p, e1, e2, e3, e4, _⟩ := h
    exact ⟨p, e1, e2, e3, e4⟩
  | own i =>
    have h : σ[i]? = some (some v) := h
    unfold retG at e
    dsimp only at e
    split at e
    · rename_i w eg
      cases e
      have q := S.sl i _ eg
      rw [h] at q
      obtain ⟨p, e1, e2, e3, e4⟩ := q
      exact ⟨p, Option.some.inj e1, e2, e3, e4⟩
    · rename_i d eg
      cases e
      have q := S.sl i _ eg
      rw [h] at q
      obtain ⟨u, e1, e2⟩ := q
      cases e1
      exact e2
    · cases e

/-! ### what may be raised -/
abbrev WD := Nat → D → Lo → Prop
/-- in the frame F, at the locals σ: the wish over data as a wish over heaps -/
def EX (T : Tab) (F : Fr) (W : WD) (σ : L2.St) : XK := fun cls d H' => ∃ B' G' c dv, cls = .ref (T.cl c) ∧ ExcIs T B' H' d dv ∧ Sta T F B' H' σ G' ∧ W c dv G'
def PassD (X : Cx) (T : Tab) (F : Fr) (W : WD) : Prop := L2N.Takes X (fun cls d σ H => EX T F W σ cls d H)
theorem PassD.at (h : PassD X T F W) (σ : L2.St) : PassesAt (L2N.CX X.prog X.w) X σ (EX T F W σ) := L2N.passAt h σ
theorem PassD.imp {W W' : WD} (h : PassD X T F W) (k : ∀ c d G, W' c d G → W c d G) : PassD X T F W' :=
  L2N.Takes.imp h fun _ _ _ _ ⟨B', G', c, dv, a, b, d, e⟩ => ⟨B', G', c, dv, a, b, d, k _ _ _ e⟩

/-! ### room, no repr running; promises under it -/
structure RoomG (k : Nat) (A : Around) : Prop where
  rm : Room k A
  gs : A.guards = some []
theorem RoomG.mono {j k : Nat} {A : Around} (r : RoomG k A) (h : j ≤ k) : RoomG j A := ⟨r.rm.mono h, r.gs⟩
theorem RoomG.deeper {k : Nat} {A : Around} (r : RoomG (k + 1) A) (env : Env) : RoomG k (A.deeper env) := ⟨r.rm.deeper env, r.gs⟩
theorem RoomG.in1 {k : Nat} {A : Around} (r : RoomG (k + 1) A) : RoomG k A.in1 := ⟨r.rm.in1, r.gs⟩
theorem tc_guard : guardIds.contains "type.__call__" = false := by decide +kernel
theorem RoomG.make {k : Nat} {A : Around} (r : RoomG (k + 1) A) (C : Addr) (us : List Value) (kw : List (Str × Value)) : RoomG k (A.under (.builtin "type.__call__" ⟨.ref C :: us, kw⟩)) := by
  refine ⟨r.rm.make C us kw, ?_⟩
  have e : (Code.builtin "type.__call__" ⟨.ref C :: us, kw⟩).isGuard = false := tc_guard
  have e2 : (Code.builtin "type.__call__" ⟨.ref C :: us, kw⟩).guards = [] := by simp [Code.guards, e]
  have e3 : (A.under (.builtin "type.__call__" ⟨.ref C :: us, kw⟩)).guards = pushGuards (Code.builtin "type.__call__" ⟨.ref C :: us, kw⟩).guards A.guards := by rw [Around.under]
  rw [e3, e2]
  exact r.gs
structure FnGO (P : Program) (w : World) (K : PySem.W.Frag) (mg : Str → Option Value) (base : Heap) (CX : CXT) (k : Nat) (f : Addr) (fd : FuncData) (ps : List Str) (sp : Sp) : Prop where
  len : ∀ vs H Q E, sp vs H Q E → vs.length = ps.length
  run : ∀ (A : Around) (outer : List Env) (s : Shared) (H : Hp) (args : Args) (us : List Value) (vs : List V) (Q : VK) (E : XK), RoomG k A → Env0 P w K mg base A outer s H → BindsTo s fd args (ps.zip us) → Vals vs us → sp vs H Q E →
    codeAny (model P w) A (.call (.ref f) args) (CR CX outer P w H s Q E) s
def FnG (P : Program) (w : World) (K : PySem.W.Frag) (mg : Str → Option Value) (base : Heap) (CX : CXT) (k : Nat) (f : Addr) (sp : Sp) : Prop :=
  ∀ (A : Around) (outer : List Env) (s : Shared) (H : Hp) (us : List Value) (vs : List V) (Q : VK) (E : XK), RoomG k A → Env0 P w K mg base A outer s H → Vals vs us → sp vs H Q E →
    codeAny (model P w) A (.call (.ref f) ⟨us, []⟩) (CR CX outer P w H s Q E) s
theorem FnGO.pos {P : Program} {w : World} {K : PySem.W.Frag} {mg : Str → Option Value} {base : Heap} {CX : CXT} {k : Nat} {f : Addr} {fd : FuncData} {ps : List Str} {sp : Sp} (Fn : FnGO P w K mg base CX k f fd ps sp) (hb : Binds K fd ps []) : FnG P w K mg base CX k f sp := by
  intro A outer s H us vs Q E hr e0 r hs
  have hl : us.length = ps.length := by rw [← r.length]; exact Fn.len _ _ _ _ hs
  have q := hb s us (e0.mod.kin.keeps fun b o e => (e0.bs b o e).1) (by rw [List.append_nil]; exact hl)
  rw [List.append_nil] at q
  exact Fn.run A outer s H ⟨us, []⟩ us vs Q E hr e0 q r hs
theorem FnG.mono {P : Program} {w : World} {K : PySem.W.Frag} {mg : Str → Option Value} {base : Heap} {CX : CXT} {j k : Nat} {f : Addr} {sp : Sp} (Fn : FnG P w K mg base CX j f sp) (h : j ≤ k) : FnG P w K mg base CX k f sp :=
  fun A outer s H us vs Q E hr => Fn A outer s H us vs Q E (hr.mono h)
theorem FnG.imp {P : Program} {w : World} {K : PySem.W.Frag} {mg : Str → Option Value} {base : Heap} {CX : CXT} {k : Nat} {f : Addr} {sp sp' : Sp} (Fn : FnG P w K mg base CX k f sp) (h : ∀ vs H Q E, sp' vs H Q E → sp vs H Q E) : FnG P w K mg base CX k f sp' :=
  fun A outer s H us vs Q E hr e0 r hs => Fn A outer s H us vs Q E hr e0 r (h _ _ _ _ hs)
theorem FnGO.imp {P : Program} {w : World} {K : PySem.W.Frag} {mg : Str → Option Value} {base : Heap} {CX : CXT} {k : Nat} {f : Addr} {fd : FuncData} {ps : List Str} {sp sp' : Sp} (Fn : FnGO P w K mg base CX k f fd ps sp) (h : ∀ vs H Q E, sp' vs H Q E → sp vs H Q E) : FnGO P w K mg base CX k f fd ps sp' :=
  ⟨fun vs H Q E q => Fn.len vs H Q E (h _ _ _ _ q), fun A outer s H args us vs Q E hr he hb hv hs => Fn.run A outer s H args us vs Q E hr he hb hv (h _ _ _ _ hs)⟩
theorem spOf_imp {S S' : Spec} (h : ∀ as K Kx, S' as K Kx → S as K Kx) : ∀ vs H Q E, spOf T S' vs H Q E → spOf T S vs H Q E :=
  fun vs H Q E ⟨B, as, A0, K, Kx, a, t, b, c, d, e⟩ => ⟨B, as, A0, K, Kx, a, t, b, c, h _ _ _ d, e⟩
/-! ### THE RULE of a def -/
@[simp ↓] def sRets (as : List Arg) (K : KN) : En where
  nx := fun G => ∃ outs, outsG G 0 0 as = some outs ∧ K (.imm .non) outs
  rt := fun o G => ∃ outs r, outsG G 0 0 as = some outs ∧ retG G o = some r ∧ K r outs
@[simp ↓] def sExcs (as : List Arg) (Kx : KX) : WD := fun c d G => ∃ outs, outsG G 0 0 as = some outs ∧ Kx c d outs
theorem fn_ok {P : Program} {w : World} {K : PySem.W.Frag} {mg : Str → Option Value} {base : Heap} {x qual : Str} {params : Arguments} {body : List Stmt} {scope : Scope} {dvs : List V} {kws : List (Str × V)} {f : Addr} {fd : FuncData} {N ps : List Str} {k : Nat} {Sq : Spec} {tf : WD → RS}
    (Fd : FunD K x qual params body scope dvs kws f fd) (hK : K = T.K) (Sc : FnScope N ps scope) (hlen : ∀ as Kn Kx, Sq as Kn Kx → as.length = ps.length)
    (hbody : ∀ (cdv : Value), fd.code = cdv → ∀ (A : Around) (outer : List Env) (s : Shared) (H : Hp) (E : XK) (F : Fr) (W : WD), RoomG k (A.deeper (envOfC qual scope s.heap.objs.size f cdv)) → PassD (cxOf (L2N.CX P w) P w K mg base N qual scope f cdv A outer s H E) T F W →
      PDB (cxOf (L2N.CX P w) P w K mg base N qual scope f cdv A outer s H E) T F body (tf W))
    (hread : ∀ as Kn Kx, Sq as Kn Kx → tf (sExcs as Kx) (sRets as Kn) (initG N.length as)) :
    FnGO P w K mg base (L2N.CX P w) (k + 1) f fd ps (spOf T Sq) := by
  obtain ⟨oc, od, dV, kV, doc, pm, an, cdv, ct, osl, rfl, lk, hcd, _, _⟩ := Fd.ex
  have len : ∀ vs H Q E, spOf T Sq vs H Q E → vs.length = ps.length := fun vs H Q E ⟨B, as, A0, Kn, Kx, _, _, h, _, hs, _⟩ => h.length.trans (hlen _ _ _ hs)
  refine ⟨len, fun A outer s H args us vs Q E hr e0 hb r hsp => ?_⟩
  have hl := len _ _ _ _ hsp
  have KX : K.In s.heap := e0.mod.kin.keeps fun b o e => (e0.bs b o e).1
  have lim : s.heap.NoLimit := e0.mod.nolimit.keeps fun b o e => (e0.bs b o e).1
  have kinds : ∀ y ∈ ps.zip us, scope.names.lookup y.1 = some .local ∨ (scope.names.lookup y.1 = some .cell ∧ ((cellsFrom (s.heap.objs.size + 1) scope.names []).lookup y.1).isSome = true) := fun ⟨n, v⟩ hy =>
    (Sc.par n (List.of_mem_zip hy).1).imp id fun q => ⟨q, PySem.W.cellsFrom_some _ _ _ (.inl q)⟩
  refine codeAny_call_function hr.rm.depth (KX _ _ lk) rfl Sc.co Sc.gen rfl (PySem.W.codeRec_of KX hcd) (hb _ _ _ _ ?_)
  refine wpAny_newFunctionEnv_cells Sc.kind kinds fun env he s1 x => ?_
  subst he
  refine ⟨lim.keeps x.toInCall.keep, codeAny_func ?_⟩
  obtain ⟨B, as, A0, Kn, Kx, bh, tb, ha, nd, hs, hq, hx⟩ := hsp
  have tk : PassD (cxOf (L2N.CX P w) P w K mg base N qual scope f cdv A outer s H E) T ⟨B, H, A0⟩ (sExcs as Kx) := by
    refine L2N.Takes.imp (L2N.takes_of rfl rfl rfl rfl) fun cls d σ H' ⟨B', G', c, dv, e1, e2, S, outs, e3, e4⟩ => ?_
    subst e1
    exact hx c d dv B' H' outs (aft_of S ha e3) e2 e4
  have I : Inv (cxOf (L2N.CX P w) P w K mg base N qual scope f cdv A outer s H E) [] (L2.start N vs) H s1 := inv_start Sc hr.rm.hd e0 hl r x
  have hb2 := (hbody cdv rfl A outer s H E ⟨B, H, A0⟩ (sExcs as Kx) (hr.deeper _) tk).run hK rfl B H (L2.start N vs) (initG N.length as) (sRets as Kn) (sta_init bh tb ha nd) (hread as Kn Kx hs) [] s1 I
  refine wpAny_mono hb2 (fun fl s' h => ?_) fun e s' h => h
  have fin : ∀ {σ' : L2.St} {H' : Hp} {v : V} {u : Value}, Inv (cxOf (L2N.CX P w) P w K mg base N qual scope f cdv A outer s H E) [] σ' H' s' → RelV v u → Q v H' → CE outer P w H s Q u s' :=
    fun {σ' H' v u} J rv q => ⟨v, H', J.os, J.bare, J.base, J.hok, rv, q⟩
  cases fl with
  | ret u =>
    obtain ⟨v, σ', H', J, rv, B', o, G', σ2, S, _, ho, outs, r, e1, e2, k1⟩ := h
    exact fin J rv (hq v B' H' outs r (aft_of S ha e1) (res_of S ho e2) k1)
  | next =>
    obtain ⟨σ', H', J, B', G', S, _, outs, e1, k1⟩ := h
    exact fin (v := V.non) (u := Value.none) J rfl (hq .non B' H' outs (.imm .non) (aft_of S ha e1) .non k1)
  | brk =>
    obtain ⟨_, _, _, _, _, _, _, q⟩ := h
    exact q.elim
  | cont =>
    obtain ⟨_, _, _, _, _, _, _, q⟩ := h
    exact q.elim

/-! ### a caller behind a call -/
@[simp ↓] def putB : Lo → List Nat → List Own → Lo
  | G, i :: is, w :: ws => putB (setO G i w) is ws
  | G, _, _ => G
def AddrsAt (σ : L2.St) (G : Lo) : List Nat → List Addr → Prop
  | [], [] => True
  | i :: is, p :: ps => OwnAt σ G i p ∧ AddrsAt σ G is ps
  | _, _ => False
theorem setO_ne {i j : Nat} {w : Own} (h : j ≠ i) : (setO G i w)[j]? = G[j]? := by
  unfold setO
  split
  · rw [List.getElem?_set_ne (Ne.symm h)]
  · rw [List.getElem?_set_ne (Ne.symm h)]
  · rfl
theorem putB_len : ∀ {is : List Nat} {ws : List Own} {G : Lo}, (putB G is ws).length = G.length
  | [], _, _ => by unfold putB; rfl
  | _ :: _, [], _ => by unfold putB; rfl
  | i :: is, w :: ws, G => by
    unfold putB
    rw [putB_len, setO_len]
theorem putB_out : ∀ {is : List Nat} {ws : List Own} {G : Lo} {j : Nat}, j ∉ is → (putB G is ws)[j]? = G[j]?
  | [], _, _, _, _ => by unfold putB; rfl
  | _ :: _, [], _, _, _ => by unfold putB; rfl
  | i :: is, w :: ws, G, j, h => by
    unfold putB
    rw [putB_out (fun z => h (List.mem_cons_of_mem _ z)), setO_ne (fun z => h (by rw [z]; exact List.mem_cons_self))]
theorem setO_at {j : Nat} {w : Own} : ((∃ w0, G[j]? = some (.own w0)) → (setO G j w)[j]? = some (.own w)) ∧ (∀ k, (∃ w0, G[j]? = some (.par k w0)) → (setO G j w)[j]? = some (.par k w)) := by
  refine ⟨fun ⟨w0, e⟩ => ?_, fun k ⟨w0, e⟩ => ?_⟩
  · unfold setO
    rw [e]
    exact List.getElem?_set_self (List.getElem?_eq_some_iff.mp e).1
  · unfold setO
    rw [e]
    exact List.getElem?_set_self (List.getElem?_eq_some_iff.mp e).1
theorem setO_cong {i j : Nat} {w w' : Own} (ne : j ≠ i) : (setO (setO G i w) j w')[j]? = (setO G j w')[j]? := by
  have e : (setO G i w)[j]? = G[j]? := setO_ne ne
  cases eg : G[j]? with
  | none =>
    rw [eg] at e
    rw [List.getElem?_eq_none_iff.mpr (by rw [setO_len]; exact List.getElem?_eq_none_iff.mp e), List.getElem?_eq_none_iff.mpr (by rw [setO_len]; exact List.getElem?_eq_none_iff.mp eg)]
  | some s =>
    rw [eg] at e
    cases s with
    | own w0 => rw [setO_at.1 ⟨w0, e⟩, setO_at.1 ⟨w0, eg⟩]
    | par k w0 => rw [setO_at.2 k ⟨w0, e⟩, setO_at.2 k ⟨w0, eg⟩]
    | no =>
      unfold setO at e ⊢
      rw [e, eg]
      exact e.trans eg.symm
    | imm d =>
      unfold setO at e ⊢
      rw [e, eg]
      exact e.trans eg.symm
/-- the slots behind a call, one by one -/
theorem putB_in {A0 : List Addr} : ∀ {is : List Nat} {ws : List Own} {ps : List Addr} {G : Lo} {j : Nat} {B H : Hp}, is.Nodup → AddrsAt σ G is ps → OutsOk T B H ps ws → j ∈ is → ∃ p w, OwnAt σ G j p ∧ p ∈ ps ∧ B p = none ∧ OwnIs T B H p w ∧ (putB G is ws)[j]? = (setO G j w)[j]?
  | [], _, _, _, _, _, _, _, _, _, h => absurd h (by simp)
  | i :: is, [], [], _, _, _, _, _, a, _, _ => a.elim
  | i :: is, _ :: _, [], _, _, _, _, _, a, _, _ => a.elim
  | i :: is, [], _ :: _, _, _, _, _, _, _, o, _ => o.elim
  | i :: is, w :: ws, p :: ps, G, j, B, H, nd, ⟨a1, a2⟩, ⟨o1, o2, o3⟩, h => by
    have ni : i ∉ is := (List.nodup_cons.mp nd).1
    rcases List.mem_cons.mp h with rfl | h
    · refine ⟨p, w, a1, List.mem_cons_self, o1, o2, ?_⟩
      show (putB (setO G j w) is ws)[j]? = _
      rw [putB_out ni]
    · have ne : j ≠ i := fun z => ni (by rw [← z]; exact h)
      have a3 : AddrsAt σ (setO G i w) is ps := by
        have key : ∀ {is : List Nat} {ps : List Addr}, i ∉ is → AddrsAt σ G is ps → AddrsAt σ (setO G i w) is ps := fun {is} => by
          induction is with
          | nil => exact fun {ps} _ h => by cases ps <;> exact h
          | cons k is ih =>
            intro ps hn h
            cases ps with
            | nil => exact h
            | cons q ps =>
              refine ⟨?_, ih (fun z => hn (List.mem_cons_of_mem _ z)) h.2⟩
              obtain ⟨b1, w', b2⟩ := h.1
              refine ⟨b1, w', ?_⟩
              rw [setO_ne (fun z => hn (by rw [z]; exact List.mem_cons_self))]
              exact b2
        exact key ni a2
      obtain ⟨q, w', b1, b2, b3, b4, b5⟩ := putB_in (A0 := A0) (is := is) (ws := ws) (j := j) (List.nodup_cons.mp nd).2 a3 o3 h
      refine ⟨q, w', ?_, List.mem_cons_of_mem _ b2, b3, b4, ?_⟩
      · obtain ⟨c1, w2, c2⟩ := b1
        refine ⟨c1, w2, ?_⟩
        rw [setO_ne ne] at c2
        exact c2
      · show (putB (setO G i w) is ws)[j]? = _
        rw [b5]
        exact setO_cong ne
theorem addrs_mem : ∀ {is : List Nat} {ps : List Addr} {p : Addr}, AddrsAt σ G is ps → p ∈ ps → ∃ i, i ∈ is ∧ OwnAt σ G i p
  | [], [], _, _, h => absurd h (by simp)
  | [], _ :: _, _, a, _ => a.elim
  | _ :: _, [], _, a, _ => a.elim
  | i :: is, q :: ps, p, a, h => by
    rcases List.mem_cons.mp h with rfl | h
    · exact ⟨i, List.mem_cons_self, a.1⟩
    · obtain ⟨k, a, b⟩ := addrs_mem a.2 h
      exact ⟨k, List.mem_cons_of_mem _ a, b⟩
theorem putB_own {is : List Nat} {ws : List Own} {j : Nat} {p : Addr} (h : OwnAt σ (putB G is ws) j p) : OwnAt σ G j p := by
  induction is generalizing G ws with
  | nil =>
    unfold putB at h
    exact h
  | cons i is ih =>
    cases ws with
    | nil =>
      unfold putB at h
      exact h
    | cons w ws =>
      unfold putB at h
      exact ownAt_setO (ih h)
theorem own_slot {j : Nat} {p : Addr} (S : Sta T F B H σ G) (h : OwnAt σ G j p) : B p = none ∧ H p ≠ none ∧ ((∃ w, G[j]? = some (.own w) ∧ F.H0 p = none) ∨ ∃ k w, G[j]? = some (.par k w) ∧ F.A0[k]? = some p) := by
  obtain ⟨h1, w, h2⟩ := h
  rcases h2 with h2 | ⟨k, h2⟩
  · have q := S.sl j _ h2
    rw [h1] at q
    obtain ⟨p', e1, e2, e3, e4⟩ := q
    cases e1
    obtain ⟨u, hu⟩ := e3.there
    exact ⟨e2, (by rw [hu]; exact fun z => nomatch z), .inl ⟨w, h2, e4⟩⟩
  · have q := S.sl j _ h2
    rw [h1] at q
    obtain ⟨p', e1, e2, e3, e4⟩ := q
    cases e1
    obtain ⟨u, hu⟩ := e3.there
    exact ⟨e2, (by rw [hu]; exact fun z => nomatch z), .inr ⟨k, w, h2, e4⟩⟩
theorem own_nt {j : Nat} {p : Addr} (S : Sta T F B H σ G) (h : OwnAt σ G j p) {u : HO} (e : H p = some u) : NT u := by
  obtain ⟨h1, w, h2⟩ := h
  rcases h2 with h2 | ⟨k, h2⟩
  · have q := S.sl j _ h2
    rw [h1] at q
    obtain ⟨p', e1, e2, e3, e4⟩ := q
    cases e1
    exact e3.nt e
  · have q := S.sl j _ h2
    rw [h1] at q
    obtain ⟨p', e1, e2, e3, e4⟩ := q
    cases e1
    exact e3.nt e
theorem Sta.call {is : List Nat} {A1 : List Addr} {outs : List Own} (S : Sta T F B H σ G) (ha : AddrsAt σ G is A1) (nd : is.Nodup) (r : Aft T B H A1 B' H' outs) :
    Sta T F B' H' σ (putB G is outs) ∧ Kp B H σ G B' H' (putB G is outs) := by
  refine ⟨⟨r.bh, fun a o e => r.b _ _ (S.b0 a o e), fun a o e m n => ?_, fun a h => r.t a (S.a0 a h), fun a h1 h2 => r.n a (S.alive h1) (S.nb a h1 h2), by rw [putB_len]; exact S.len, fun j s e => ?_, fun i j p ne h1 h2 => S.dj i j p ne (putB_own h1) (putB_own h2), fun a h => r.t a (S.al a h), r.tb⟩,
    ⟨r.b, fun a o e m n => r.h a o e m fun z => ?_, fun a h1 h2 _ => r.n a h1 h2, fun p ⟨j, h⟩ => ⟨j, putB_own h⟩, r.t⟩⟩
  · refine r.h a o (S.h0 a o e m n) m fun z => ?_
    obtain ⟨i, _, hi⟩ := addrs_mem ha z
    obtain ⟨_, _, q⟩ := own_slot S hi
    rcases q with ⟨_, _, q⟩ | ⟨k, _, _, q⟩
    · rw [e] at q
      cases q
    · exact n (List.mem_of_getElem? q)
  · by_cases hj : j ∈ is
    · obtain ⟨p, w, a1, a2, a3, a4, a5⟩ := putB_in (A0 := A1) nd ha r.o hj
      rw [a5] at e
      obtain ⟨_, _, q⟩ := own_slot S a1
      rcases q with ⟨w0, q1, q2⟩ | ⟨k, w0, q1, q2⟩
      · rw [setO_at.1 ⟨w0, q1⟩] at e
        cases e
        exact ⟨p, by rw [a1.1]; rfl, a3, a4, q2⟩
      · rw [setO_at.2 k ⟨w0, q1⟩] at e
        cases e
        exact ⟨p, by rw [a1.1]; rfl, a3, a4, q2⟩
    · rw [putB_out hj] at e
      have q := S.sl j s e
      have key : ∀ p, OwnAt σ G j p → H' p = H p ∧ B' p = none := fun p hp => by
        obtain ⟨b1, b2, _⟩ := own_slot S hp
        refine ⟨?_, r.n p b2 b1⟩
        cases eh : H p with
        | none => exact absurd eh b2
        | some o =>
          exact r.h p o eh (own_nt S hp eh) fun z => by
            obtain ⟨i, hi, hq⟩ := addrs_mem ha z
            exact S.dj i j p (fun y => hj (by rw [← y]; exact hi)) hq hp
      cases s with
      | no => exact trivial
      | imm d =>
        obtain ⟨u, e1, e2⟩ := q
        exact ⟨u, e1, e2.mono r.b⟩
      | own w =>
        obtain ⟨p, e1, e2, e3, e4⟩ := q
        obtain ⟨k1, k2⟩ := key p ⟨join_some e1, w, .inl e⟩
        exact ⟨p, e1, k2, e3.mono r.b k1, e4⟩
      | par k w =>
        obtain ⟨p, e1, e2, e3, e4⟩ := q
        obtain ⟨k1, k2⟩ := key p ⟨join_some e1, w, .inr ⟨k, e⟩⟩
        exact ⟨p, e1, k2, e3.mono r.b k1, e4⟩
  · obtain ⟨i, _, hi⟩ := addrs_mem ha z
    exact n ⟨i, hi⟩
theorem Post.called {is : List Nat} {A1 : List Addr} {outs : List Own} {K : Opd → Lo → Prop} (S : Sta T F B H σ G) (ha : AddrsAt σ G is A1) (nd : is.Nodup) (r : Aft T B H A1 B' H' outs) (hr : ResOk T H B' H' v o) (k : K o (putB G is outs)) : Post T F B H σ G K v H' := by
  obtain ⟨S2, k2⟩ := S.call ha nd r
  cases o with
  | imm d => exact ⟨B', .imm d, _, S2, k2, hr, Nw.imm, k⟩
  | own i => exact hr.elim
  | new w =>
    obtain ⟨p, e1, e2, e3, e4⟩ := hr
    have n0 := S.notOwn e4
    refine ⟨B', .new w, _, S2, k2, ⟨p, e1, e2, e3, ?_, fun ⟨j, z⟩ => n0 ⟨j, putB_own z⟩⟩, fun q w' _ e => ?_, k⟩
    · cases e : F.H0 p with
      | none => rfl
      | some u => exact absurd e4 (S.alive (by rw [e]; exact fun z => nomatch z))
    · rw [e1] at *
      first
        | (cases ‹V.ref p = V.ref q›; exact e4)
        | skip
end
end Fx
end
section
set_option Elab.async false
set_option linter.all false
set_option maxRecDepth 100000
set_option maxHeartbeats 2000000
/-! FxH: the head's Hook (defs at any address, facts as Bools), the law's end -/
namespace Fx
open PySem PySem.Spec PyProof.Rows L2

/-! ### facts -/
abbrev FB := PySem.W.Frag → Bool
abbrev FA := PySem.W.Frag → Addr
def bSome (a : Option (Option Value)) (b : Value) : Bool := decide (a = some (some b))
/-- the property f of the class x: its getter -/
def propG (x f : Str) : FA := fun K => match PySem.W.recIn K (He.ma K (He.ga K x) f) "property" with
  | some (.ref g :: _) => g
  | _ => 0
def propB (x f : Str) : FB := fun K => bSome (PySem.W.findIn K (.ref (He.ga K x)) f) (.ref (He.ma K (He.ga K x) f)) && (bSome (PySem.W.specialIn K (.ref (He.ma K (He.ga K x) f)) "__get__") (.builtin "property.__get__") && (decide (PySem.W.takesIn K (.ref (He.ma K (He.ga K x) f)) = some true) &&
  (match PySem.W.recIn K (He.ma K (He.ga K x) f) "property" with
  | some (.ref _ :: _) => true
  | _ => false)))
structure PropF (K : PySem.W.Frag) (C p g : Addr) (f : Str) : Prop where
  at_ : PySem.W.findIn K (.ref C) f = some (some (.ref p))
  get : PySem.W.specialIn K (.ref p) "__get__" = some (some (.builtin "property.__get__"))
  tk : PySem.W.takesIn K (.ref p) = some true
  rc : ∃ rest, PySem.W.recIn K p "property" = some (.ref g :: rest)
theorem ba {a b : Bool} (h : (a && b) = true) : a = true ∧ b = true := Bool.and_eq_true_iff.mp h
theorem propB_ok {K : PySem.W.Frag} {x f : Str} (h : propB x f K = true) : PropF K (He.ga K x) (He.ma K (He.ga K x) f) (propG x f K) f := by
  obtain ⟨h1, h⟩ := ba h
  obtain ⟨h2, h⟩ := ba h
  obtain ⟨h3, h⟩ := ba h
  refine ⟨of_decide_eq_true h1, of_decide_eq_true h2, of_decide_eq_true h3, ?_⟩
  unfold propG
  split at h
  · rename_i g rest e
    rw [e]
    exact ⟨rest, rfl⟩
  · cases h
def slotB (x f : Str) (i : Nat) : FB := fun K => bSome (PySem.W.findIn K (.ref (He.ga K x)) f) (.ref (He.ma K (He.ga K x) f)) && (bSome (PySem.W.specialIn K (.ref (He.ma K (He.ga K x) f)) "__get__") (.builtin "member_descriptor.__get__") && (decide (PySem.W.takesIn K (.ref (He.ma K (He.ga K x) f)) = some true) &&
  (decide (PySem.W.typeIn K (.ref (He.ma K (He.ga K x) f)) = some (.type "member_descriptor")) && (decide (PySem.W.slotIn K (He.ma K (He.ga K x) f) (He.ga K x) = some i) && decide (i < 1000)))))
theorem slotB_ok {K : PySem.W.Frag} {x f : Str} {i : Nat} (h : slotB x f i K = true) : SlX.Slot1 K (He.ga K x) f (He.ma K (He.ga K x) f) i := by
  obtain ⟨h1, h⟩ := ba h
  obtain ⟨h2, h⟩ := ba h
  obtain ⟨h3, h⟩ := ba h
  obtain ⟨h4, h⟩ := ba h
  obtain ⟨h5, h6⟩ := ba h
  exact ⟨of_decide_eq_true h1, of_decide_eq_true h2, of_decide_eq_true h3, of_decide_eq_true h4, of_decide_eq_true h5, of_decide_eq_true h6⟩
def sclsB (x : Str) : FB := fun K => PySem.W.plainGet K (He.ga K x) Str.empty && (PySem.W.isClsIn K (He.ga K x) && (PySem.W.plainOver K (He.ga K x) && (bSome (PySem.W.findIn K (.ref (He.ga K x)) "__setattr__") (.builtin "object.__setattr__") &&
  (bSome (PySem.W.findIn K (.ref (He.ga K x)) "__class__") (.builtin "object.__class__") && (bSome (PySem.W.specialIn K (.builtin "object.__class__") "__get__") (.builtin "getset_descriptor.__get__") && (decide (PySem.W.takesIn K (.builtin "object.__class__") = some true) && decide (PySem.W.mroIn K (He.ga K x) (.type "object") = some true)))))))
theorem sclsB_ok {K : PySem.W.Frag} {x : Str} (h : sclsB x K = true) : SlX.SCls K (He.ga K x) ∧ SlX.SIsi K (He.ga K x) := by
  obtain ⟨h1, h⟩ := ba h
  obtain ⟨h2, h⟩ := ba h
  obtain ⟨h3, h⟩ := ba h
  obtain ⟨h4, h⟩ := ba h
  obtain ⟨h5, h⟩ := ba h
  obtain ⟨h6, h⟩ := ba h
  obtain ⟨h7, h8⟩ := ba h
  exact ⟨⟨h1, h2, h3, of_decide_eq_true h4⟩, ⟨of_decide_eq_true h5, of_decide_eq_true h6, of_decide_eq_true h7, of_decide_eq_true h8⟩⟩
/-- the class x has __ne__ of object, an own __eq__ -/
def eqB (x : Str) : FB := fun K => bSome (PySem.W.findIn K (.ref (He.ga K x)) "__ne__") (.builtin "object.__ne__") && (bSome (PySem.W.findIn K (.ref (He.ga K x)) "__eq__") (.ref (He.ma K (He.ga K x) "__eq__")) && PySem.W.isFn K (.ref (He.ma K (He.ga K x) "__eq__")))
theorem eqB_ok {K : PySem.W.Frag} {x : Str} (h : eqB x K = true) : PySem.W.findIn K (.ref (He.ga K x)) "__ne__" = some (some (.builtin "object.__ne__")) ∧ PySem.W.findIn K (.ref (He.ga K x)) "__eq__" = some (some (.ref (He.ma K (He.ga K x) "__eq__"))) ∧ PySem.W.isFn K (.ref (He.ma K (He.ga K x) "__eq__")) = true := by
  obtain ⟨h1, h⟩ := ba h
  obtain ⟨h2, h3⟩ := ba h
  exact ⟨of_decide_eq_true h1, of_decide_eq_true h2, h3⟩
/-- isinstance(.., x) asks the class's type -/
def kclsB (x : Str) : FB := fun K => (PySem.W.clsIn K (He.ga K x)).isSome && PySem.W.typeIn K (.ref (He.ga K x)) == some (.type "type")
/-- an instance of x is (not) an instance of y -/
def kitB2 (x y : Str) (b : Bool) : FB := fun K => decide (PySem.W.kitOne K (.ref (He.ga K x)) (.ref (He.ga K y)) = some b)
def kitT (x : Str) (n : String) (b : Bool) : FB := fun K => decide (PySem.W.kitOne K (.ref (He.ga K x)) (.type n) = some b)
def notB (x y : Str) : FB := fun K => PySem.W.notFirst K (He.ga K x) (.ref (He.ga K y))
def mkrB (x : Str) : FB := fun K => (He.Fa.mkr x).ok K

/-! ### defs -/
/-- a def as it is looked at, its closure by names -/
abbrev FnC : Type := Option (Str × Str × Arguments × FuncBody × Scope × Addr × List Str × Addr)
structure FDef where
  ad : FA
  name : Str
  qual : Str
  st : Stmt
  dfl : List V
  clo : List Str
def fnAt (K : PySem.W.Frag) (a : Addr) : FnC := match K.lookup a with
  | some ⟨_, _, .func fd, _⟩ => some (fd.name, fd.qualname, fd.params, fd.body, fd.scope, fd.globals, fd.closure.map Prod.fst, fd.builtins)
  | _ => none
def FDef.val (d : FDef) : FnC := some (d.name, d.qual, defArgs d.st, .stmts (defBody d.st), defScope d.st, mainGlobals, d.clo, builtinsNs)
def FDef.ok (K : PySem.W.Frag) (d : FDef) : Bool := PySem.W.keepIn K (.ref (d.ad K)) && (match K.lookup (d.ad K) with
  | some ⟨_, _, .func fd, _⟩ => PySem.W.codeIn K fd.code d.qual && He.dflB K fd.defaults d.dfl
  | _ => false)
/-- a def, its defaults dvs -/
abbrev FnPd (K : PySem.W.Frag) (x qual : Str) (st : Stmt) (dvs : List V) (f : Addr) (fd : FuncData) : Prop := FunD K x qual (defArgs st) (defBody st) (defScope st) dvs [] f fd
abbrev FnP (K : PySem.W.Frag) (x qual : Str) (st : Stmt) (f : Addr) (fd : FuncData) : Prop := FunD K x qual (defArgs st) (defBody st) (defScope st) [] [] f fd
theorem FDef.funD {K : PySem.W.Frag} {d : FDef} (e : fnAt K (d.ad K) = d.val) (c : d.ok K = true) (hc : d.clo = []) : ∃ fd, FnPd K d.name d.qual d.st d.dfl (d.ad K) fd := by
  obtain ⟨kp, c2⟩ := ba c
  unfold fnAt at e
  cases q : K.lookup (d.ad K) with
  | none =>
    rw [q] at c2
    cases c2
  | some o =>
    obtain ⟨oc, od, dt, osl⟩ := o
    rw [q] at c2 e
    cases dt with
    | func fd =>
      obtain ⟨n1, n2, n3, n4, n5, n6, n7, n8, n9, n10, n11, n12, n13, n14, n15⟩ := fd
      have e2 : (some (n1, n2, n3, n4, n5, n6, n7.map Prod.fst, n15) : FnC) = some (d.name, d.qual, defArgs d.st, .stmts (defBody d.st), defScope d.st, mainGlobals, d.clo, builtinsNs) := e
      rw [hc] at e2
      simp only [Option.some.injEq, Prod.mk.injEq] at e2
      obtain ⟨h1, h2, h3, h4, h5, h6, h7, h8⟩ := e2
      have h7 : n7 = [] := List.map_eq_nil_iff.mp h7
      subst h1 h2 h3 h4 h5 h6 h7 h8
      have c3 : (PySem.W.codeIn K n13 d.qual && He.dflB K n8 d.dfl) = true := c2
      obtain ⟨k1, k2⟩ := ba c3
      exact ⟨_, ⟨oc, od, n8, n9, n10, n11, n12, n13, n14, osl, rfl, q, k1, He.dflB_ok k2, .inl rfl⟩, kp⟩
    | _ => cases c2
/-! ### the Hook -/
abbrev AlF : Type := Bool × List FnC
def obsF (ex : List FB) (fn : List FDef) (K : PySem.W.Frag) : AlF := ((ex.all fun f => f K) && fn.all fun d => d.ok K, fn.map fun d => fnAt K (d.ad K))
def valF (fn : List FDef) : AlF := (true, fn.map FDef.val)
def SaysF (ex : List FB) (fn : List FDef) (K : PySem.W.Frag) : Prop := obsF ex fn K = valF fn
/-! the part: what the module's names lead to, each once (what was met stands in a mask), forced -/
def dfsK {α : Type} (g : Addr → Option Obj) : Nat → List Addr → Nat → PySem.W.Frag → (PySem.W.Frag → α) → α
  | 0, _, _, acc, k => k acc
  | _ + 1, [], _, acc, k => k acc
  | f + 1, a :: r, m, acc, k => HandSHeadRun.frNat a fun a0 => match Nat.beq (Nat.land (Nat.shiftRight m a0) 1) 1 with
    | true => dfsK g f r m acc k
    | false => HandSHeadRun.frNat (Nat.lor m (Nat.shiftLeft 1 a0)) fun m0 => match g a0 with
      | some o => dfsK g f (He.refsD o ++ r) m0 ((a0, o) :: acc) k
      | none => dfsK g f r m0 acc k
def dfsOut (g : Addr → Option Obj) (f : Nat) (st : List Addr) (m : Nat) (acc : PySem.W.Frag) : PySem.W.Frag := dfsK g f st m acc id
theorem dfsK_eq {α : Type} (g : Addr → Option Obj) (k : PySem.W.Frag → α) : ∀ (f : Nat) (st : List Addr) (m : Nat) (acc : PySem.W.Frag), dfsK g f st m acc k = k (dfsOut g f st m acc)
  | 0, _, _, _ => rfl
  | _ + 1, [], _, _ => rfl
  | f + 1, a :: r, m, acc => by
    unfold dfsOut dfsK
    simp only [HandSHeadRun.frNat_eq]
    cases Nat.beq (Nat.land (Nat.shiftRight m a) 1) 1 with
    | true => exact dfsK_eq g k f r m acc
    | false =>
      cases g a with
      | some o => exact dfsK_eq g k f _ _ _
      | none => exact dfsK_eq g k f _ _ _
theorem dfs_mem (g : Addr → Option Obj) : ∀ (f : Nat) (st : List Addr) (m : Nat) (acc : PySem.W.Frag), (∀ p ∈ acc, g p.1 = some p.2) → ∀ p ∈ dfsOut g f st m acc, g p.1 = some p.2
  | 0, _, _, _, h => h
  | _ + 1, [], _, _, h => h
  | f + 1, a :: r, m, acc, h => by
    unfold dfsOut dfsK
    simp only [HandSHeadRun.frNat_eq]
    cases Nat.beq (Nat.land (Nat.shiftRight m a) 1) 1 with
    | true => exact dfs_mem g f r m acc h
    | false =>
      cases e : g a with
      | some o =>
        refine dfs_mem g f _ _ _ fun p hp => ?_
        rcases List.mem_cons.mp hp with rfl | hp
        · exact e
        · exact h p hp
      | none => exact dfs_mem g f _ _ _ h
theorem lookup_mem' {a : Addr} {o : Obj} : ∀ {K : PySem.W.Frag}, K.lookup a = some o → (a, o) ∈ K
  | [], e => nomatch (show (none : Option Obj) = some o from e)
  | (b, u) :: r, e => by
    rw [List.lookup_cons] at e
    cases hb : (a == b) with
    | true =>
      rw [hb] at e
      have e1 : a = b := eq_of_beq hb
      have e2 : u = o := Option.some.inj e
      rw [e1, e2]
      exact List.mem_cons_self
    | false =>
      rw [hb] at e
      exact List.mem_cons_of_mem _ (lookup_mem' e)
theorem dfs_in {h : Heap} {f : Nat} {st : List Addr} {m : Nat} : (dfsOut h.get? f st m []).In h := fun a o e => dfs_mem h.get? f st m [] (fun p hp => absurd hp (by simp)) (a, o) (lookup_mem' e)
/-- the tables of code objects are left out -/
def noTab (g : Addr → Option Obj) : Addr → Option Obj := fun a => match g a with
  | some ⟨.none, _, .fields _, _⟩ => none
  | r => r
theorem noTab_some {g : Addr → Option Obj} {a : Addr} {o : Obj} (h : noTab g a = some o) : g a = some o := by
  unfold noTab at h
  split at h
  · cases h
  · exact h
theorem dfsN_in {h : Heap} {f : Nat} {st : List Addr} {m : Nat} : (dfsOut (noTab h.get?) f st m []).In h := fun a o e => noTab_some (dfs_mem (noTab h.get?) f st m [] (fun p hp => absurd hp (by simp)) (a, o) (lookup_mem' e))
abbrev AlT : Type := AlF × List (Option Obj)
abbrev noTable : Obj := { cls := .none, data := .fields #[] }
def obsT (ex : List FB) (fn : List FDef) (ts : List FA) (g : Addr → Option Obj) (K : PySem.W.Frag) : AlT := (obsF ex fn K, ts.map fun t => g (t K))
def valT (fn : List FDef) (ts : List FA) : AlT := (valF fn, ts.map fun _ => some noTable)
def obsFG (n : Nat) (ex : List FB) (fn : List FDef) (ts : List FA) (g : Addr → Option Obj) : AlT := dfsK (noTab g) n [mainGlobals, cStatics] 0 [] fun K => obsT ex fn ts g K
def SaysT (ex : List FB) (fn : List FDef) (ts : List FA) (h : Heap) (K : PySem.W.Frag) : Prop := SaysF ex fn K ∧ ∀ t ∈ ts, h.get? (t K) = some noTable
theorem saysT_of {ex : List FB} {fn : List FDef} {ts : List FA} {h : Heap} {K : PySem.W.Frag} (e : obsT ex fn ts h.get? K = valT fn ts) : SaysT ex fn ts h K := by
  obtain ⟨e1, e2⟩ := Prod.mk.inj e
  refine ⟨e1, fun t ht => ?_⟩
  exact List.map_inj_left.mp e2 t ht
def hookF (n : Nat) (ex : List FB) (fn : List FDef) (ts : List FA) : PySem.W.Hook where
  α := AlT
  obs := fun s => obsFG n ex fn ts s.heap.get?
  val := fun _ => valT fn ts
  says := fun _ h => ∃ K : PySem.W.Frag, K.In h ∧ SaysT ex fn ts h K
  of := fun _ _ e => ⟨_, dfsN_in, saysT_of ((dfsK_eq _ _ _ _ _ _).symm.trans e)⟩
  keeps := fun _ _ _ ⟨K, hK, c, ct⟩ k => ⟨K, PySem.W.Frag.In.keeps hK k, c, fun t ht => k _ _ (ct t ht)⟩
theorem obsFG_eq {n : Nat} {ex : List FB} {fn : List FDef} {ts : List FA} {g : Addr → Option Obj} {s : Shared} (h : ∀ a, g a = s.heap.get? a) : obsFG n ex fn ts g = (hookF n ex fn ts).obs s := by
  have e : g = s.heap.get? := funext h
  rw [e] <;> rfl
section
variable {ex : List FB} {fn : List FDef} {K : PySem.W.Frag}
theorem SaysF.fact (c : SaysF ex fn K) (i : Nat) {f : FB} (h : ex[i]? = some f := by rfl) : f K = true := by
  have c1 := (ba (show ((ex.all fun f => f K) && fn.all fun d => d.ok K) = true from congrArg (fun z : AlF => z.1) c)).1
  exact List.all_eq_true.mp c1 f (List.mem_of_getElem? h)
theorem SaysF.at_ (c : SaysF ex fn K) (i : Nat) {d : FDef} (h : fn[i]? = some d := by rfl) : fnAt K (d.ad K) = d.val ∧ d.ok K = true := by
  have c2 := (ba (show ((ex.all fun f => f K) && fn.all fun d => d.ok K) = true from congrArg (fun z : AlF => z.1) c)).2
  have e : fn.map (fun d => fnAt K (d.ad K)) = fn.map FDef.val := congrArg (fun z : AlF => z.2) c
  have e2 : (fn.map fun d => fnAt K (d.ad K))[i]? = (fn.map FDef.val)[i]? := by rw [e]
  rw [List.getElem?_map, List.getElem?_map, h] at e2
  exact ⟨Option.some.inj e2, List.all_eq_true.mp c2 d (List.mem_of_getElem? h)⟩
theorem SaysF.def_ (c : SaysF ex fn K) (i : Nat) {d : FDef} (h : fn[i]? = some d := by rfl) (hc : d.clo = [] := by rfl) : ∃ fd, FnPd K d.name d.qual d.st d.dfl (d.ad K) fd := by
  obtain ⟨a, b⟩ := c.at_ i h
  exact FDef.funD a b hc
end
/-! ### the law's call, no repr running, tables of code objects beside the script -/
theorem callerG {k : Nat} (hr : Room k callerA) : RoomG k callerA := ⟨hr, rfl⟩
abbrev tabE : Obj := { cls := .none, data := .fields #[] }
/-- what is tracked at the beginning: the script, the tables -/
def begH (sc : Option HO) (a : Addr) (ts : List Addr) : Hp := fun b => if b = a then sc else if b ∈ ts then some (.tbl #[]) else none
theorem begH_tab {sc : Option HO} {a b : Addr} {ts : List Addr} (ne : b ≠ a) (h : b ∈ ts) : begH sc a ts b = some (.tbl #[]) := (if_neg ne).trans (if_pos h)
theorem begH_at {sc : Option HO} {a : Addr} {ts : List Addr} : begH sc a ts a = sc := if_pos rfl
theorem begH_some {sc : Option HO} {a b : Addr} {ts : List Addr} {u : HO} (h : begH sc a ts b = some u) : (b = a ∧ sc = some u) ∨ (b ≠ a ∧ b ∈ ts ∧ u = .tbl #[]) := by
  unfold begH at h
  split at h
  · rename_i e
    exact .inl ⟨e, h⟩
  · rename_i ne
    split at h
    · rename_i e
      exact .inr ⟨ne, e, (Option.some.inj h).symm⟩
    · cases h
structure TabsIn (K : PySem.W.Frag) (h : Heap) (cs : List (Addr × Addr)) : Prop where
  at_ : ∀ p ∈ cs, h.get? p.2 = some tabE
  no : ∀ p ∈ cs, K.lookup p.2 = none
  hd : ∀ p ∈ cs, PySem.W.CodeHd h p.1 p.2
theorem law_callT {P : Program} {w : World} {K : PySem.W.Frag} {mg mb : Str → Option Value} {CX : CXT} {k : Nat} {fa a : Addr} {cs : List (Addr × Addr)} {fd : FuncData} {x : Str} {sp : Sp} {s1 : Shared} {vs : List Value} {ns : List Int}
    (KX : K.In s1.heap) (hns : s1.heap.Ns mainGlobals mg) (hb : s1.heap.Ns builtinsNs mb) (hbb : ∀ x : Str, x ≠ "__name__" → mb x = bootBuiltins x) (hlim : s1.heap.NoLimit) (hg : s1.gens = #[]) (tT : TabsIn K s1.heap cs)
    (hbm : ∃ (m : Addr) (om : Obj), mg "__builtins__" = some (.ref m) ∧ m ≠ builtinsNs ∧ s1.heap.get? m = some om ∧ om.cls = .type "module" ∧ om.dict = some builtinsNs ∧ om.data = .plain)
    (ha : s1.heap.get? a = some { cls := .type "list", data := .seq vs.toArray }) (hi : IntsAre vs ns) (hl : ns.length ≤ sizeLine) (hr : RoomG k callerA)
    (Fn : ∀ base : Heap, K.In base → base.Ns mainGlobals mg → (∀ p ∈ cs, LamX.TabB base mg p.1 p.2) → FnGO P w K mg base CX k fa fd [x] sp) (hbind : ∀ (s : Shared) (u : Value), BindsTo s fd ⟨[u], []⟩ [(x, u)])
    (hsp : ∀ sc : Option HO, (∀ u, sc = some u → ∃ o xs, u = .frz o (.lst xs)) → (∀ p ∈ cs, p.2 ≠ a) → SqL K (begH sc a []) a (ns.map V.int) → sp [.ref a] (begH sc a (cs.map (·.2))) (fun v _ => v = .bl true) fun _ _ _ => False)
    (hCX : ∀ H e s', CX [] H s1 (fun _ _ _ => False) e s' → False) :
    codeAny (model P w) callerA (.call (.ref fa) ⟨[.ref a], []⟩) (fun r s' => r = .ok (.ret (.bool true)) ∧ OldK s1.heap s'.heap ∧ s'.os = s1.os ∧ AllBare s'.gens) s1 := by
  have rv := vals_ints hi
  have lenV := hi.length
  have aT : ∀ p ∈ cs, p.2 ≠ a := fun p hp z => by
    have q := tT.at_ p hp
    rw [z, ha] at q
    have q2 : Data.seq vs.toArray _ = Data.fields #[] := congrArg Obj.data (Option.some.inj q)
    cases q2
  have isT : ∀ b, b ∈ cs.map (·.2) → s1.heap.get? b = some tabE := fun b hb => by
    obtain ⟨p, hp, rfl⟩ := List.mem_map.mp hb
    exact tT.at_ p hp
  have core : ∀ sc : Option HO, (∀ u, sc = some u → u = .frz { cls := .type "list", data := .seq vs.toArray } (.lst (ns.map V.int))) → SqL K (begH sc a []) a (ns.map V.int) → (sc ≠ none → K.lookup a = none) →
      codeAny (model P w) callerA (.call (.ref fa) ⟨[.ref a], []⟩) (fun r s' => r = .ok (.ret (.bool true)) ∧ OldK s1.heap s'.heap ∧ s'.os = s1.os ∧ AllBare s'.gens) s1 := by
    intro sc hsc hS hK
    obtain ⟨H, eH⟩ : ∃ H, H = begH sc a (cs.map (·.2)) := ⟨_, rfl⟩
    have hok : HOk P w H s1.heap := fun b u z => by
      rw [eH] at z
      rcases begH_some z with ⟨rfl, z2⟩ | ⟨_, z2, rfl⟩
      · have e3 := hsc u z2
        subst e3
        exact ⟨ha, by rw [List.length_map]; exact hl, vs, _, rv, ha⟩
      · exact isT b z2
    have free : ∀ {b : Addr} {o : Obj}, s1.heap.get? b = some o → (∀ xs n, o.data ≠ .seq xs n) → o.data ≠ .fields #[] → H b = none := fun {b o} e h1 h2 => by
      cases q : H b with
      | none => rfl
      | some u =>
        rw [eH] at q
        rcases begH_some q with ⟨rfl, _⟩ | ⟨_, z2, _⟩
        · rw [ha] at e
          cases e
          exact absurd rfl (h1 _ _)
        · rw [isT b z2] at e
          cases e
          exact absurd rfl h2
    have freeD : ∀ {b : Addr} {o : Obj} {es : Array DictEntry} {ep : Nat}, s1.heap.get? b = some o → o.data = .dict es ep → H b = none := fun e d => free e (fun xs n z => by rw [d] at z; cases z) fun z => by rw [d] at z; cases z
    have nsK : ∀ {b : Addr} {m : Str → Option Value}, s1.heap.Ns b m → (hidT s1.heap H).Ns b m := fun {b m} ⟨o, es, ep, e, d, r⟩ => ⟨o, es, ep, hidT_get e (freeD e d), d, r⟩
    have inB : K.In (hidT s1.heap H) := fun b o e => hidT_get (KX b o e) (by
      cases q : H b with
      | none => rfl
      | some u =>
        rw [eH] at q
        rcases begH_some q with ⟨rfl, z2⟩ | ⟨_, z2, _⟩
        · rw [hK (by rw [z2]; exact fun z => nomatch z)] at e
          cases e
        · obtain ⟨p, hp, rfl⟩ := List.mem_map.mp z2
          rw [tT.no p hp] at e
          cases e)
    have hM : L2.Mod K mg (hidT s1.heap H) := ⟨inB, nsK hns, ⟨mb, nsK hb, hbb⟩, let ⟨mc, h1, h2⟩ := hlim; ⟨mc, nsK h1, h2⟩⟩
    have TB : ∀ p ∈ cs, LamX.TabB (hidT s1.heap H) mg p.1 p.2 := fun p hp => by
      obtain ⟨o, us, f1, f2, f3, f4, f5, f6, f7, e1, r1, r2, r3, rest⟩ := tT.hd p hp
      obtain ⟨m, om, b1, b2, b3, b4, b5, b6⟩ := hbm
      refine ⟨⟨o, us, f1, f2, f3, f4, f5, f6, f7, hidT_get e1 (free e1 (fun xs n z => by rw [r2] at z; cases z) fun z => ?_), r1, r2, r3, rest⟩, ⟨m, om, b1, b2, fun z => ?_, fun z => ?_, hidT_get b3 (free b3 (fun xs n z => by rw [b6] at z; cases z) fun z => by rw [b6] at z; cases z), b4, b5, b6⟩, fun z => ?_⟩
      · rw [r2] at z
        cases z
        simp at r3
      · obtain ⟨o, es, ep, e, hd, _⟩ := hns
        rw [z, e] at b3
        cases b3
        rw [hd] at b6
        cases b6
      · rw [z, tT.at_ p hp] at b3
        cases b3
        cases b6
      · obtain ⟨o, es, ep, e, hd, _⟩ := hns
        rw [z, tT.at_ p hp] at e
        cases e
        cases hd
    have e0 : Env0 P w K mg (hidT s1.heap H) callerA [] s1 H := ⟨rfl, hM, fun b o e => of_hidT e, Nat.le_of_eq (hidT_size _ _), trivial, fun b hb => absurd (show b ∈ ([] : List Addr) from hb) (by simp), hok, .of_eq hg⟩
    have spH : sp [.ref a] H (fun v _ => v = .bl true) fun _ _ _ => False := by
      rw [eH]
      exact hsp sc (fun u z => ⟨_, _, hsc u z⟩) aT hS
    refine codeAny_mono ((Fn _ inB (nsK hns) TB).run callerA [] s1 H ⟨[.ref a], []⟩ [.ref a] [.ref a] _ _ hr e0 (hbind s1 (.ref a)) (.cons rfl .nil) spH) fun r s' h => ?_
    cases r with
    | error e => exact (hCX H e s' h).elim
    | ok fl =>
      cases fl with
      | next => exact False.elim h
      | brk => exact False.elim h
      | cont => exact False.elim h
      | ret u =>
        obtain ⟨v, H', os, bare, un, hok', r', q⟩ := h
        have q' : v = .bl true := q
        subst q'
        obtain rfl : u = Value.bool true := r'
        have stay : ∀ b o, b ∉ cs.map (·.2) → s1.heap.get? b = some o → s'.heap.get? b = some o := fun b o nb e => by
          cases q : H b with
          | none => exact un.keep b o e q (by intro z; exact absurd (show b ∈ ([] : List Addr) from z) (by simp)) (by simp)
          | some u =>
            have q0 := q
            rw [eH] at q
            rcases begH_some q with ⟨rfl, z2⟩ | ⟨_, z2, _⟩
            · have e3 := hsc u z2
              subst e3
              obtain ⟨e1, _⟩ := hok _ _ q0
              obtain ⟨e2, _⟩ := hok' _ _ (un.frzs _ _ _ q0)
              rw [e] at e1
              cases e1
              exact e2
            · exact absurd z2 nb
        have grown : ∀ p ∈ cs, ∃ more : Array Value, s'.heap.get? p.2 = some { cls := .none, data := .fields more } := fun p hp => by
          obtain ⟨more, z⟩ := un.tbls p.2 #[] (by rw [eH]; exact begH_tab (aT p hp) (List.mem_map_of_mem hp))
          exact ⟨_, hok' p.2 _ z⟩
        refine ⟨rfl, ⟨fun b o e => ?_, fun b o e => ?_⟩, os, bare⟩
        · by_cases hb : b ∈ cs.map (·.2)
          · obtain ⟨p, hp, rfl⟩ := List.mem_map.mp hb
            obtain ⟨more, hm⟩ := grown p hp
            have t0 := tT.at_ p hp
            rw [t0] at e
            cases e
            exact .inr (.inl ⟨((tT.hd p hp).tab t0).isCodeTable, rfl, #[], more, rfl, by rw [Array.empty_append]; exact hm⟩)
          · exact .inl (stay b o hb e)
        · by_cases hb : b ∈ cs.map (·.2)
          · obtain ⟨p, hp, rfl⟩ := List.mem_map.mp hb
            obtain ⟨more, hm⟩ := grown p hp
            exact ⟨_, hm⟩
          · exact ⟨o, stay b o hb e⟩
  cases hk : K.lookup a with
  | some o =>
    have e := KX a o hk
    rw [ha] at e
    cases e
    exact core none (fun u z => nomatch z) (.inr ⟨_, vs.toArray, _, hk, rfl, rfl, rfl, by rw [List.size_toArray, lenV]; exact hl, by simpa using rv⟩) fun z => absurd rfl z
  | none => exact core (some (.frz { cls := .type "list", data := .seq vs.toArray } (.lst (ns.map V.int)))) (fun u z => (Option.some.inj z).symm) (.inl (.inr ⟨{ cls := .type "list", data := .seq vs.toArray }, begH_at⟩)) fun _ => hk
/-- the law's def over data: it is given the script, answers True -/
theorem walk_ofT {l : PySem.W.OpenLaw} {n k : Nat} {q : Program} {loose : List Str} {XP : (Str → Option Value) → Heap → Prop} {YP : World → Heap → Prop} {d : DefRec} {x : Str}
    (hn : l.most = some n) (hn2 : n ≤ sizeLine) (hdf : d.params.defaults = []) (hr : Room k callerA)
    (Fn : ∀ (w : World) (mg : Str → Option Value) (fa : Addr) (h : Heap), YP w h → h.Ns mainGlobals mg → mg d.name = some (.ref fa) →
      ∃ (T : Tab) (cs : List (Addr × Addr)) (fd : FuncData) (Sq : Spec), T.K.In h ∧ TabsIn T.K h cs ∧ (∀ t ∈ T.tb, ∃ p ∈ cs, p.2 = t.1) ∧ (∀ (s : Shared) (u : Value), BindsTo s fd ⟨[u], []⟩ [(x, u)]) ∧
        (∀ ns : List Int, ns.length ≤ n → (∀ z ∈ ns, Builtin.Int.intBits z ≤ 1048576) → ∀ K : KN, K (.imm (.bl true)) [] → Sq [.imm (.scr ns)] K (fun _ _ _ => False)) ∧
        ∀ base : Heap, T.K.In base → base.Ns mainGlobals mg → (∀ p ∈ cs, LamX.TabB base mg p.1 p.2) → FnGO l.prog w T.K mg base (L2N.CX l.prog w) k fa fd [x] (spOf T Sq)) :
    PySem.W.WalkO q loose XP YP l.row.toRowW d [] (fun f vs => PySem.call f vs) := by
  refine Att.attach_callB hn hdf fun w s0 s1 mg mb fa o pm cd doc a vs ns G Y ho hd hcd hmg hobj hints hlen hbits hg => ?_
  obtain ⟨T, cs, fd, Sq, KX, tT, htb, hb, hsp, hF⟩ := Fn w mg fa _ Y G.T.g hmg
  refine law_callT KX G.T.g G.T.b G.T.builtins G.T.nolimit hg tT G.T.bmain hobj hints (Nat.le_trans hlen hn2) (callerG hr) hF hb (fun sc hsc aT hS => ?_) fun H e s' z => ?_
  · have sub : Same (begH sc a []) (begH sc a (cs.map (·.2))) := fun b u z => by
      rcases begH_some z with ⟨rfl, z2⟩ | ⟨_, z2, _⟩
      · rw [begH_at]
        exact z2
      · cases z2
    refine ⟨begH sc a [], [.imm (.scr ns)], [], fun o outs => o = .imm (.bl true), fun _ _ _ => False, sub, fun t ht => ?_, .imm (.scr hS) .nil, List.nodup_nil, hsp ns hlen hbits _ rfl, fun v B' H' outs o r hr k => ?_, fun _ _ _ _ _ _ _ _ z => z⟩
    · obtain ⟨p, hp, e⟩ := htb t ht
      rw [← e]
      refine ⟨(if_neg (aT p hp)).trans (if_neg (by simp)), #[], begH_tab (aT p hp) (List.mem_map_of_mem hp), True.intro, fun pos cv hc => ?_⟩
      have z : codeAmong pos [] = some cv := hc
      simp [codeAmong] at z
    · subst k
      cases hr
      rfl
  · obtain ⟨_, _, _, _, _, _, _, _, _, _, _, _, y⟩ := z
    exact y
/-! ### facts -/
def methB (x m : Str) : FB := fun K => bSome (PySem.W.findIn K (.ref (He.ga K x)) m) (.ref (He.ma K (He.ga K x) m)) && (PySem.W.isFn K (.ref (He.ma K (He.ga K x) m)) && PySem.W.keepIn K (.ref (He.ma K (He.ga K x) m)))
theorem methB_ok {K : PySem.W.Frag} {x m : Str} (h : methB x m K = true) : Meth K (He.ga K x) m (He.ma K (He.ga K x) m) := by
  obtain ⟨h1, h⟩ := ba h
  obtain ⟨h2, h3⟩ := ba h
  exact ⟨of_decide_eq_true h1, h2, h3⟩
def selfB (x : Str) : FB := fun K => PySem.W.selfFirst K (He.ga K x)
end Fx
end
section
set_option Elab.async false
set_option linter.all false
set_option maxRecDepth 100000
set_option maxHeartbeats 4000000
/-! FxS: set(list of keys), len of it -/
namespace Fx
open PySem PySem.Spec PyProof.Rows L2

def ddStep {κ : Type} [DecidableEq κ] (acc : List κ) (x : κ) : List κ := if acc.any (fun y => decide (y = x)) then acc else acc ++ [x]
def dd {κ : Type} [DecidableEq κ] (xs : List κ) : List κ := xs.foldl ddStep []
theorem dd_take {κ : Type} [DecidableEq κ] {xs : List κ} {i : Nat} {x : κ} (h : xs[i]? = some x) : dd (xs.take (i + 1)) = ddStep (dd (xs.take i)) x := by
  unfold dd
  rw [List.take_add_one, h]
  simp
theorem dd_any {κ : Type} [DecidableEq κ] : ∀ (xs : List κ) (k : κ), (dd xs).any (fun y => decide (y = k)) = xs.any (fun y => decide (y = k)) := by
  have key : ∀ (xs acc : List κ) (k : κ), (xs.foldl ddStep acc).any (fun y => decide (y = k)) = (acc.any (fun y => decide (y = k)) || xs.any (fun y => decide (y = k))) := fun xs => by
    induction xs with
    | nil => intro acc k; simp
    | cons x xs ih =>
      intro acc k
      rw [List.foldl_cons, ih]
      unfold ddStep
      split
      · rename_i h
        rw [List.any_cons]
        by_cases e : x = k
        · subst e
          rw [h]
          simp
        · have z : decide (x = k) = false := by simpa using e
          rw [z]
          simp
      · rw [List.any_append, List.any_cons, List.any_cons, List.any_nil, Bool.or_false, Bool.or_assoc]
  exact fun xs k => by
    unfold dd
    rw [key]
    simp
theorem dd_len {κ : Type} [DecidableEq κ] : ∀ (xs : List κ), (dd xs).length ≤ xs.length := by
  have key : ∀ (xs acc : List κ), (xs.foldl ddStep acc).length ≤ acc.length + xs.length := fun xs => by
    induction xs with
    | nil => intro acc; simp
    | cons x xs ih =>
      intro acc
      rw [List.foldl_cons, List.length_cons]
      refine Nat.le_trans (ih _) ?_
      unfold ddStep
      split
      · omega
      · rw [List.length_append]
        simp only [List.length_cons, List.length_nil]
        omega
  exact fun xs => by
    have := key xs []
    simpa [dd] using this
/-- how many distinct ones -/
def distinct {κ : Type} [DecidableEq κ] (xs : List κ) : Nat := (dd xs).length

section
variable {prog : Program} {w : World} {A : Around} {R : Result → Shared → Prop} {I : Addr} {fp wr : List Addr} {G : Array GenState → Array GenState → Prop} {n : Nat} {P : Nat → Value → Prop} {St : Nat → Shared → Prop}
theorem upd_loopK {κ : Type} [DecidableEq κ] {knd : KeyKind prog w κ} (W : WalksS prog w A.in1 I fp wr G n P St) (S : Addr) (hSf : S ∉ fp) (xs : List κ) (hsz : xs.length = n) (hb : n + 1 < scanBound)
    (hval : ∀ (i : Nat) (v : Value), P i v → ∃ x, xs[i]? = some x ∧ knd.is x v = true ∧ v.scannable = true) :
    ∀ (k i : Nat) (s : Shared), n - i = k → i ≤ n → St i s →
      s.heap.SetOf knd S (fun k' => (xs.take i).any (fun y => decide (y = k'))) (distinct (xs.take i)) →
      (∀ s', Moved (S :: wr) G s s' → s'.heap.SetOf knd S (fun k' => (xs.take n).any (fun y => decide (y = k'))) (distinct (xs.take n)) → R (.ok (.ret .none)) s') →
      codeAny (model prog w) A (.builtin "set.update.loop" ⟨[.ref S, .ref I], []⟩) R s := by
  have hSw : S ∉ wr := fun h => hSf (W.sub _ h)
  have hsub : ∀ b ∈ wr, b ∈ S :: wr := fun b hb => List.mem_cons_of_mem _ hb
  intro k
  induction k with
  | zero =>
    intro i s hk hi hst hS hR
    have hin : i = n := by omega
    subst hin
    refine codeAny_builtin PyProof.Rows.F.entry_set_update_loop ?_
    rw [Around.under_plainId PyProof.Rows.F.plain_set_update_loop _]
    show wpAny _ A.in1 (pyNext (.ref I) >>= _) _ _ s
    refine wpAny_bind (W.done s _ _ hst fun s' hm => ?_)
    show wpAny _ A.in1 (ret Value.none) _ _ s'
    exact wpAny_pure (hR s' (hm.mono hsub) (by
      obtain ⟨o, es, ep, t, ho, rest⟩ := hS
      exact ⟨o, es, ep, t, hm.heap S _ hSw ho, rest⟩))
  | succ k ih =>
    intro i s hk hi hst hS hR
    have hlt : i < n := by omega
    refine codeAny_builtin PyProof.Rows.F.entry_set_update_loop ?_
    rw [Around.under_plainId PyProof.Rows.F.plain_set_update_loop _]
    show wpAny _ A.in1 (pyNext (.ref I) >>= _) _ _ s
    refine wpAny_bind (W.item i s _ _ hlt hst fun v s' hP hst' hm => ?_)
    obtain ⟨x, hx, hki, hsc⟩ := hval i v hP
    have hS' : s'.heap.SetOf knd S (fun k' => (xs.take i).any (fun y => decide (y = k'))) (distinct (xs.take i)) := by
      obtain ⟨o, es, ep, tb, ho, rest⟩ := hS
      exact ⟨o, es, ep, tb, hm.heap S _ hSw ho, rest⟩
    show wpAny _ A.in1 (holding [v] (setAdd S v) >>= _) _ _ s'
    refine wpAny_bind (wpAny_holding ?_)
    unfold setAdd
    refine wpAny_holding ?_
    refine wpAny_bind (knd.pyHash hki ?_)
    have hroom : distinct (xs.take i) + 1 < scanBound := by
      have h1 : distinct (xs.take i) ≤ (xs.take i).length := dd_len _
      rw [List.length_take] at h1
      omega
    refine wpAny_setAddHashed_of (knd := knd) (s := { s' with toks := s'.toks + 1 }) hki hsc hS' hroom fun h' hsb hS2 => ?_
    have hSi : h'.SetOf knd S (fun k' => (xs.take (i + 1)).any (fun y => decide (y = k'))) (distinct (xs.take (i + 1))) := by
      refine SetOf_congr hS2 (fun k' => ?_) ?_
      · rw [List.take_add_one, hx]
        simp only [Option.toList_some, List.any_append, List.any_cons, List.any_nil, Bool.or_false]
        congr 1
        by_cases e : k' = x
        · subst e; simp
        · have z : decide (x = k') = false := by simpa using fun h : x = k' => e h.symm
          rw [z]
          simpa using e
      · show _ = (dd (xs.take (i + 1))).length
        rw [dd_take hx]
        unfold ddStep distinct
        rw [dd_any]
        split
        · rfl
        · rw [List.length_append]
          rfl
    refine wpAny_pure ⟨plainId_quiet PyProof.Rows.F.plain_set_update_loop _, ih (i + 1) _ (by omega) hlt (W.frame _ s' _ _ hst' (Nat.le_succ _) fun b hb o e => ?_) hSi fun s'' hm'' hS'' => ?_⟩
    · rw [hsb.2 b (fun h : b = S => hSf (by rw [← h]; exact hb))]; exact e
    · refine hR s'' (Moved.trans W.gtrans ((hm.mono hsub).then_heap (Nat.le_succ _) fun b o hb e => ?_) hm'') hS''
      rw [hsb.2 b (fun h : b = S => hb (by rw [h]; exact List.mem_cons_self))]; exact e
end

section
variable {prog : Program} {w : World} {A : Around} {E : Value → Shared → Prop} {s : Shared}
theorem call_set_listK {κ : Type} [DecidableEq κ] {knd : KeyKind prog w κ} {l : Addr} {items : Array Value} {xs : List κ} {Q : Value → Shared → Prop}
    (hh : A.handled = none) (hl : s.heap.IsList l items) (hlen : xs.length = items.size) (hb : items.size + 1 < scanBound) (hval : ∀ (i : Nat) (v : Value), items[i]? = some v → ∃ x, xs[i]? = some x ∧ knd.is x v = true ∧ v.scannable = true)
    (h : ∀ (h' : Heap) (tk : Nat), h'.SetOf knd s.heap.objs.size (fun k' => (xs.take items.size).any (fun y => decide (y = k'))) (distinct (xs.take items.size)) →
      (∀ b o, b < s.heap.objs.size → s.heap.get? b = some o → h'.get? b = some o) → Q (.ref s.heap.objs.size) { s with heap := h', toks := tk }) :
    wpAny (model prog w) A (call (.type "set") [.ref l]) Q E s := by
  obtain ⟨c, tl, hmro⟩ := PySem.F.called_set.mro
  have hmade := PySem.F.called_set.made
  have hsub := PySem.F.called_set.sub
  refine wpAny_call (codeAny_of_tree ?_)
  show wpAny _ _ (callAny (.type "set") _) _ _ _
  refine wpAny_pure ⟨Code.quiet_builtin _ (by decide +kernel), codeAny_builtin PySem.F.entry_type_call ?_⟩
  rw [Around.under_plain (weight_type_call_type "set" [.ref l] []) rfl]
  have h1 := PySem.F.called_set.notType
  have h2 := PySem.F.called_set.canCreate
  have hct := PySem.F.typeCall_set_1 (.ref l)
  repeat (any_goals (first | assumption | wp_step))
  refine codeAny_mono (code_set_new_1 (.ref l) (E := E) (Q₁ := fun obj s₁ => ∃ led : Bool, obj = .ref s.heap.objs.size ∧ s₁ = { s with heap := s.heap.push { cls := .type "set", dict := none, data := .set #[] 0 (.fresh 0 0 led) } }) fun led => ⟨led, rfl, rfl⟩) fun r s₁ hr => ?_
  cases r with
  | error e => exact hr
  | ok fl =>
    cases fl with
    | ret obj =>
      obtain ⟨led, rfl, rfl⟩ := hr
      have hS : (s.heap.push { cls := .type "set", dict := none, data := .set #[] 0 (.fresh 0 0 led) }).get? s.heap.objs.size = some { cls := .type "set", dict := none, data := .set #[] 0 (.fresh 0 0 led) } := Heap.get?_push_size _ rfl
      have hT : Shared.TypeIs { s with heap := s.heap.push { cls := .type "set", dict := none, data := .set #[] 0 (.fresh 0 0 led) } } (.ref s.heap.objs.size) "set" := ⟨_, hS, rfl⟩
      have hli := PySem.F.called_set.init.lookup
      have hbi := PySem.F.called_set.init.bind (.ref s.heap.objs.size)
      repeat (any_goals (first | assumption | wp_step))
      refine codeAny_mono (codeAny_call_builtin (R := wants (fun r s₂ => r = .none ∧ ∃ h' tk, s₂ = { s with heap := h', toks := tk } ∧
          h'.SetOf knd s.heap.objs.size (fun k' => (xs.take items.size).any (fun y => decide (y = k'))) (distinct (xs.take items.size)) ∧
          (∀ b o, b < s.heap.objs.size → s.heap.get? b = some o → h'.get? b = some o)) E) PySem.F.called_set.init.plain PySem.F.entry_set_init (check_set_init_1 hT ?_)) fun r₂ s₂ hr₂ => ?_
      · obtain ⟨ol, hol, hcl, nl, hdl⟩ := hl
        obtain ⟨ocls, odict, odata, oslots⟩ := ol
        simp only at hcl hdl
        subst hcl; subst hdl
        have hol' : (s.heap.push { cls := .type "set", dict := none, data := .set #[] 0 (.fresh 0 0 led) }).get? l = some { cls := .type "list", dict := odict, data := .seq items nl, slots := oslots } := Heap.get?_push_of_some _ hol
        have hsls := PySem.F.sub_list_set
        have hslf := PySem.F.sub_list_frozenset
        have hne : (Value.type "list" == Value.type "dict") = false := by decide
        have hl1 : (s.heap.push { cls := .type "set", dict := none, data := .set #[] 0 (.fresh 0 0 led) }).IsList l items := ⟨_, hol', rfl, nl, rfl⟩
        unfold Builtin.«set.__init__» noKeywords Builtin.Frozenset.updateFrom
        generalize hPI : pyIter = PI
        wp_walk
        subst hPI
        refine wpAny_pyIter_list hl1 ?_
        refine wpAny_bind (wpAny_runValue ?_)
        have hlS : l < s.heap.objs.size := Heap.lt_size hol
        have hh3 : A.in1.in1.in1.handled = none := by simp [hh]
        have hneI : l ≠ (s.heap.push { cls := .type "set", dict := none, data := .set #[] 0 (.fresh 0 0 led) }).objs.size := by
          rw [Heap.size_push]; exact Nat.ne_of_lt (Nat.lt_succ_of_lt hlS)
        have hSf : s.heap.objs.size ∉ [(s.heap.push { cls := .type "set", dict := none, data := .set #[] 0 (.fresh 0 0 led) }).objs.size, l] := by
          rw [Heap.size_push]; simp only [List.mem_cons, List.mem_singleton, List.not_mem_nil, or_false, not_or]
          exact ⟨Nat.ne_of_lt (Nat.lt_succ_self _), Nat.ne_of_gt hlS⟩
        refine upd_loopK (knd := knd) ((Walks.list hh3 _ l hneI items).toS) s.heap.objs.size
          hSf xs hlen hb hval (items.size - 0) 0 _ (by omega) (Nat.zero_le _)
          ⟨⟨_, Heap.get?_push_size _ rfl, rfl, rfl⟩, (hl1.push _)⟩ ?hS0 ?hR
        case hS0 =>
          have hget : ((s.heap.push { cls := .type "set", dict := none, data := .set #[] 0 (.fresh 0 0 led) }).push { cls := .type "list_iterator", data := .fields #[.ref l, .int 0 0] }).get? s.heap.objs.size
              = some { cls := .type "set", dict := none, data := .set #[] 0 (.fresh 0 0 led) } := Heap.get?_push_of_some _ hS
          exact PyProof.Rows.SetOf_congr ((PyProof.Rows.setObjOf_fresh (knd := knd) led).setOf hget (by unfold scanBound; omega)) (fun _ => rfl) rfl
        case hR =>
          intro s' hm hS'
          obtain ⟨h', g', d', tk', os'⟩ := s'
          have eg : g' = s.gens := hm.gens
          have ed : d' = s.drawn := hm.drawn
          have eo : os' = s.os := hm.os
          subst eg; subst ed; subst eo
          show wpAny _ _ _ _ _ _
          refine wpAny_pure ?_
          show wpAny _ _ (ret Value.none) _ _ _
          refine wpAny_pure ⟨rfl, h', tk', rfl, hS', fun b o hb e => ?_⟩
          have hb1 : b ≠ s.heap.objs.size := Nat.ne_of_lt hb
          have hb2 : b ≠ (s.heap.push { cls := .type "set", dict := none, data := .set #[] 0 (.fresh 0 0 led) }).objs.size := by
            rw [Heap.size_push]; exact Nat.ne_of_lt (Nat.lt_succ_of_lt hb)
          exact hm.heap b o (by simp only [List.mem_cons, List.mem_singleton, List.not_mem_nil, or_false, not_or]; exact ⟨hb1, hb2⟩) (Heap.get?_push_of_some _ (Heap.get?_push_of_some _ e))
      · cases r₂ with
        | error e => exact hr₂
        | ok fl₂ =>
          cases fl₂ with
          | ret r =>
            obtain ⟨rfl, h', tk, rfl, hS', hk'⟩ := hr₂
            repeat (any_goals (first | assumption | wp_step))
            exact h _ _ hS' hk'
          | _ => exact hr₂.elim
    | _ => exact hr.elim
end
end Fx
end
section
set_option Elab.async false
set_option linter.all false
set_option maxRecDepth 100000
set_option maxHeartbeats 2000000
/-! FxE: x != y by an own __eq__ (object.__ne__) -/
namespace Fx
open PySem PySem.Spec PyProof.Rows L2

section
variable {prog : Program} {w : World} {A : Around} {E : Value → Shared → Prop} {s : Shared} {K : PySem.W.Frag} {x C L f : Addr} {h₀ : Heap} {m : Str → Option Value} {ox : Obj} {od : Option Obj} {name : Str} {b tb : Value}
theorem ifBound_blt {M : Model} {id : String} {args : List Value} {Q : Option Value → Shared → Prop} (X : K.In s.heap) (I : PySem.W.InstAt s.heap x ox C od) (hs : PySem.W.findIn K (.ref C) name = some (some (.builtin id))) (hb : ∀ self, bindSpecial (.builtin id) self = pure (.builtin id, [self]))
    (h : wpAny M A (call (.builtin id) (.ref x :: args)) (fun v => Q (some v)) E s) : wpAny M A (callSpecialIfBound? (.ref x) name args) Q E s := by
  simp only [callSpecialIfBound?, bindSpecialIfBound?]
  refine wpAny_holding (wpAny_bind (wpAny_bind (wpAny_bind (I.type.here ((PySem.W.looks_findIn X hs).here ?_)))))
  refine wpAny_bind (wpAny_askSetting (wpAny_ite ?_))
  have fin : wpAny M A (call (.builtin id) ([.ref x] ++ args) >>= fun v => pure (some v)) Q E s := wpAny_bind (wpAny_mono h (fun v s' h' => wpAny_pure h') fun _ _ h' => h')
  split
  · exact wpAny_bind ((PySem.W.Looks.of_pure (hb _)).here (wpAny_pure (by exact fin)))
  · exact wpAny_tryCatch (wpAny_bind ((PySem.W.Looks.of_pure (hb _)).here (wpAny_pure (by exact fin))))
open Builtin in
theorem call_one {Q : Value → Shared → Prop} (hu : A.units + 1 < cLine) (X : K.In s.heap) (I : PySem.W.InstAt s.heap x ox C od) (hm : PySem.W.mroIn K C (.type "object") = some true) (hs : PySem.W.findIn K (.ref C) "__eq__" = some (some (.ref f))) (hf : PySem.W.isFn K (.ref f) = true)
    (h : wpAny (model prog w) A.in1 (call (.ref f) [.ref x, b]) (fun v s' => ∃ r, v = .bool r ∧ Q (.bool (!r)) s') E s) : wpAny (model prog w) A (call (.builtin "object.__ne__") [.ref x, b]) Q E s := by
  refine wpAny_call (codeAny_call_builtin PySem.F.cmp_object.ne.plain PySem.F.cmpEntry_ne (PySem.W.check_slot (i := "object.__ne__") (owner := "object") (n := "__ne__") PySem.F.cmpKind_ne PySem.F.cmpSplit_ne (I.type.andThen (PySem.W.looks_mroIn X hm)) (PySem.F.cmpArgs_ne _ _) ?_))
  unfold Builtin.«object.__ne__»
  refine wpAny_bind (m := slotArgs "__ne__" 1 _) (wpAny_pure ?_)
  dsimp only
  refine wpAny_bind (m := cRoomFor _ _) (wpAny_cRoomFor hu ?_)
  refine wpAny_bind (m := callSpecialIfBound? (.ref x) (Str.ofString "__eq__") _) (PySem.W.ifBound_K X I hs hf (wpAny_mono h (fun r s' hq => ?_) fun _ _ y => y))
  obtain ⟨r, rfl, hq⟩ := hq
  dsimp only
  refine wpAny_bind (m := truthy (.bool r)) (wpAny_truthy_bool ?_)
  exact wpAny_pure hq
theorem ne_K {Q : Value → Shared → Prop} (hu : A.units + 1 < cLine) (F : PyProof.Rows.Fr h₀ L s.heap m) (X₀ : K.In h₀) (I : PySem.W.InstAt s.heap x ox C od) (hb : PySem.W.Looks (model prog w) s.heap (typeOf b) tb) (hn : PySem.W.notFirst K C tb = true)
    (hne : PySem.W.findIn K (.ref C) "__ne__" = some (some (.builtin "object.__ne__"))) (hm : PySem.W.mroIn K C (.type "object") = some true) (hs : PySem.W.findIn K (.ref C) "__eq__" = some (some (.ref f))) (hf : PySem.W.isFn K (.ref f) = true)
    (h : wpAny (model prog w) A.in1 (call (.ref f) [.ref x, b]) (fun v s' => ∃ r, v = .bool r ∧ Q (.bool (!r)) s') E s) : wpAny (model prog w) A (richCompare .NotEq (.ref x) b) Q E s := by
  have X := X₀.keeps F.keep
  have one : wpAny (model prog w) A (tryCompare (.ref x) (cmpInfo .NotEq).2.1 b) (fun r s' => ∃ v, r = some v ∧ Q v s') E s := by
    unfold tryCompare
    refine wpAny_bind (ifBound_blt X I hne (fun self => PySem.F.cmp_object.ne.bind self) (call_one hu X I hm hs hf (wpAny_mono h (fun v s' hv => ?_) fun _ _ e => e)))
    obtain ⟨r, rfl, hq⟩ := hv
    exact ⟨r, rfl, wpAny_pure ⟨_, rfl, hq⟩⟩
  unfold richCompare
  simp only [oneThing_ref]
  refine wpAny_holding (wpAny_bind (wpAny_cRoomFor (Nat.lt_of_succ_lt hu) ?_))
  refine wpAny_bind (I.type.here (wpAny_bind (hb.here ?_)))
  split
  · rename_i q
    have e : PySem.W.subIn K tb (.ref C) = some false := by
      rcases Bool.or_eq_true_iff.mp hn with e | e
      · rw [beq_iff_eq.mp e] at q; simp at q
      · exact beq_iff_eq.mp e
    refine wpAny_bind ((PySem.W.looks_subIn X e).here ?_)
    simp only [Bool.false_eq_true, if_false]
    refine wpAny_bind (wpAny_mono one (fun r s' z => ?_) fun _ _ e => e)
    obtain ⟨v, rfl, hq⟩ := z
    exact wpAny_pure hq
  · refine wpAny_bind (wpAny_pure ?_)
    simp only [Bool.false_eq_true, if_false]
    refine wpAny_bind (wpAny_mono one (fun r s' z => ?_) fun _ _ e => e)
    obtain ⟨v, rfl, hq⟩ := z
    exact wpAny_pure hq
end
theorem sub_blt {K : PySem.W.Frag} {C : Addr} : PySem.W.subIn K (.type "str") (.ref C) = some false ∧ PySem.W.subIn K (.type "int") (.ref C) = some false ∧ PySem.W.subIn K (.type "bool") (.ref C) = some false ∧ PySem.W.subIn K (.type "NoneType") (.ref C) = some false
    ∧ PySem.W.subIn K (.type "tuple") (.ref C) = some false ∧ PySem.W.subIn K (.type "list") (.ref C) = some false ∧ PySem.W.subIn K (.type "dict") (.ref C) = some false := by
  refine ⟨?_, ?_, ?_, ?_, ?_, ?_, ?_⟩ <;> kernel_rfl
end Fx
end
section
set_option Elab.async false
set_option linter.all false
set_option maxRecDepth 100000
set_option maxHeartbeats 2000000
/-! Fx9: argument lists of own defs, calls, slot instances -/
namespace Fx
open PySem PySem.Spec PyProof.Rows L2

section
variable {X : Cx} {T : Tab} {F : Fr} {a b c e : Expr} {es : List Expr} {pos : Pos} {ta tb tc te : RE}
variable {B B' H H' : Hp} {σ : L2.St} {G G' : Lo} {v : V} {o : Opd} {W : WD}

/-! ### arguments: as data, or a local of the frame's own itself -/
inductive QsOk (T : Tab) (B : Hp) (σ : L2.St) : List V → List ArgS → Prop
  | nil : QsOk T B σ [] []
  | imm {v : V} {d : D} {vs : List V} {as : List ArgS} (h : Is T B v d) (t : QsOk T B σ vs as) : QsOk T B σ (v :: vs) (.imm d :: as)
  | slot {v : V} {i : Nat} {vs : List V} {as : List ArgS} (h : σ[i]? = some (some v)) (t : QsOk T B σ vs as) : QsOk T B σ (v :: vs) (.slot i :: as)
abbrev RQ := Lo → (List ArgS → Lo → Prop) → Prop
@[simp ↓] def tQNil : RQ := fun G K => K [] G
@[simp ↓] def tQF (t : RE) (r : RQ) : RQ := fun G K => tFz t G fun d G1 => r G1 fun as G2 => K (.imm d :: as) G2
@[simp ↓] def tQO (i : Nat) (r : RQ) : RQ := fun G K => (ownW G i).isSome = true ∧ r G fun as G2 => K (.slot i :: as) G2
def PostQ (T : Tab) (F : Fr) (B H : Hp) (σ : L2.St) (G : Lo) (K : List ArgS → Lo → Prop) : List V → Hp → Prop := fun vs H' => ∃ B' as G', Sta T F B' H' σ G' ∧ Kp B H σ G B' H' G' ∧ QsOk T B' σ vs as ∧ K as G'
structure PDQ (X : Cx) (T : Tab) (F : Fr) (es : List Expr) (t : RQ) : Prop where
  run : X.K = T.K → X.calm = true → ∀ (B H : Hp) (σ : L2.St) (G : Lo) (K : List ArgS → Lo → Prop), Sta T F B H σ G → t G K → tGA X es σ H (PostQ T F B H σ G K)
theorem pdq_nil : PDQ X T F [] tQNil := ⟨fun hK hc B H σ G K S h => tGA_of pa_nil ⟨B, [], G, S, Kp.refl, .nil, h⟩⟩
theorem pdq_fz {tr : RQ} (ha : PD X T F e te) (hr : PDQ X T F es tr) (hs : starEach (e :: es) X.env = (false, eval e X.env) :: starEach es X.env := by rfl) : PDQ X T F (e :: es) (tQF te tr) := by
  refine ⟨fun hK hc B H σ G K S h => tGA_of (pa_cons (pe_G X e) (pa_G X es) hs) ?_⟩
  refine tG_mono (run_fz ha hK hc S h) fun v H1 ⟨B1, d, G1, S1, k1, i1, q⟩ => ?_
  refine tGA_mono (hr.run hK hc B1 H1 σ G1 _ S1 q) fun vs H2 ⟨B2, ds, G2, S2, k2, i2, q2⟩ => ?_
  exact ⟨B2, _, G2, S2, k1.trans k2, .imm (i1.mono k2.b) i2, q2⟩
theorem pdq_own {tr : RQ} {x : Str} {p : Pos} (i : Nat) (hr : PDQ X T F es tr) (hN : X.N[i]? = some x := by rfl) (hv : Vis X.env.scope x := by first | exact Or.inl rfl | exact Or.inr (Or.inl rfl) | exact Or.inr (Or.inr rfl)) (hd : (x == ("__debug__" : Str)) = false := by decide) (hcd : (x == ("__classdict__" : Str)) = false := by decide)
    (hs : starEach (.Name x p :: es) X.env = (false, eval (.Name x p) X.env) :: starEach es X.env := by rfl) : PDQ X T F (.Name x p :: es) (tQO i tr) := by
  refine ⟨fun hK hc B H σ G K S h => tGA_of (pa_cons (pe_var (i := i) hN hv hd hcd) (pa_G X es) hs) ?_⟩
  obtain ⟨h1, h2⟩ := h
  obtain ⟨w, hw⟩ := Option.isSome_iff_exists.mp h1
  obtain ⟨p, e1, _⟩ := own_at S hw
  refine ⟨_, e1, ?_⟩
  exact tGA_mono (hr.run hK hc B H σ G _ S h2) fun vs H2 ⟨B2, ds, G2, S2, k2, i2, q2⟩ => ⟨B2, _, G2, S2, k2, .slot e1 i2, q2⟩
@[simp ↓] def slotsOf : List ArgS → List Nat
  | [] => []
  | .imm _ :: r => slotsOf r
  | .slot i :: r => i :: slotsOf r
@[simp ↓] def argsOf (G : Lo) : List ArgS → Option (List Arg)
  | [] => some []
  | .imm d :: r => (argsOf G r).map (.imm d :: ·)
  | .slot i :: r => match ownW G i with
    | some w => (argsOf G r).map (.own w :: ·)
    | none => none
theorem args_ok (S : Sta T F B H σ G) {vs : List V} {qs : List ArgS} (h : QsOk T B σ vs qs) : ∀ {args : List Arg}, argsOf G qs = some args → ∃ A0, ArgsOk T B H vs args A0 ∧ AddrsAt σ G (slotsOf qs) A0 := by
  induction h with
  | nil =>
    intro args e
    cases e
    exact ⟨[], .nil, trivial⟩
  | imm h t ih =>
    intro args e
    obtain ⟨r, e1, e2⟩ := Option.map_eq_some_iff.mp e
    subst e2
    obtain ⟨A0, a1, a2⟩ := ih e1
    exact ⟨A0, .imm h a1, a2⟩
  | slot h t ih =>
    intro args e
    unfold argsOf at e
    split at e
    · rename_i w ew
      obtain ⟨r, e1, e2⟩ := Option.map_eq_some_iff.mp e
      subst e2
      obtain ⟨A0, a1, a2⟩ := ih e1
      obtain ⟨p, b1, b2, b3, b4⟩ := own_at S ew
      rw [h] at b1
      cases b1
      exact ⟨p :: A0, .own b3 b4 a1, b2, a2⟩
    · cases e
theorem addrs_nd (S : Sta T F B H σ G) : ∀ {is : List Nat} {A0 : List Addr}, AddrsAt σ G is A0 → is.Nodup → A0.Nodup
  | [], [], _, _ => List.nodup_nil
  | [], _ :: _, a, _ => a.elim
  | _ :: _, [], a, _ => a.elim
  | i :: is, p :: ps, a, nd => by
    obtain ⟨n1, n2⟩ := List.nodup_cons.mp nd
    refine List.nodup_cons.mpr ⟨fun z => ?_, addrs_nd S a.2 n2⟩
    obtain ⟨j, hj, hp⟩ := addrs_mem a.2 z
    exact S.dj i j p (fun y => n1 (by rw [y]; exact hj)) a.1 hp
/-- a def's promise at such arguments -/
@[simp ↓] def tSpec (Sq : Spec) (W : WD) (G1 : Lo) (qs : List ArgS) (K : Opd → Lo → Prop) : Prop := match argsOf G1 qs with
  | some args => (slotsOf qs).Nodup ∧ Sq args (fun o outs => K o (putB G1 (slotsOf qs) outs)) (fun c d outs => W c d (putB G1 (slotsOf qs) outs))
  | none => False
theorem spec_sp {Sq : Spec} (S : Sta T F B H σ G) {vs : List V} {qs : List ArgS} (h : QsOk T B σ vs qs) {K : Opd → Lo → Prop} (q : tSpec Sq W G qs K) : spOf T Sq vs H (Post T F B H σ G K) (EX T F W σ) := by
  unfold tSpec at q
  split at q
  · rename_i args ea
    obtain ⟨A0, a1, a2⟩ := args_ok S h ea
    refine ⟨B, args, A0, _, _, S.bh, S.tb, a1, addrs_nd S a2 q.1, q.2, fun v B' H' outs o r hr k => Post.called S a2 q.1 r hr k, fun c d dv B' H' outs r hx k => ?_⟩
    exact ⟨B', _, c, dv, rfl, hx, (S.call a2 q.1 r).1, k⟩
  · exact q.elim
/-- the callee runs, what it raises is wished for -/
theorem run_fnX {pins : List (Addr × Obj)} {s : Shared} {k : Nat} {f : Addr} {sp : Sp} {E : XK} {Q : VK} {us : List Value} {vs : List V} (Fn : FnG X.prog X.w X.K X.mg X.base (L2N.CX X.prog X.w) k f sp) (hr : RoomG k X.A) (hx : PassesAt (L2N.CX X.prog X.w) X σ E) (I : Inv X pins σ H s) (r : Vals vs us) (h : sp vs H Q E) :
    wpAny (model X.prog X.w) X.A (call (.ref f) us) (EP X pins σ Q) X.xe s := by
  refine wpAny_call (codeAny_mono (Fn X.A X.stack s H us vs Q E hr I.env0 r h) fun r s' hq => ?_)
  cases r with
  | error e => exact hx pins H s e s' I hq
  | ok fl =>
    cases fl with
    | ret u => exact I.after hq
    | next => exact False.elim hq
    | brk => exact False.elim hq
    | cont => exact False.elim hq
@[simp ↓] def tCallD (Sq : Spec) (W : WD) (r : RQ) : RE := fun G K => r G fun qs G1 => tSpec Sq W G1 qs K
abbrev FnX (X : Cx) (T : Tab) (k : Nat) (f : Addr) (Sq : Spec) : Prop := FnG X.prog X.w X.K X.mg X.base (L2N.CX X.prog X.w) k f (spOf T Sq)
/-- f(e, ..) -/
theorem pd_call {Sq : Spec} {k : Nat} {f : Addr} {x : Str} {p : Pos} {tr : RQ} (Fn : FnX X T k f Sq) (hr : RoomG k X.A) (hm : X.mg x = some (.ref f)) (hk : PySem.W.keepIn X.K (.ref f) = true) (hp : PassD X T F W) (ha : PDQ X T F (e :: es) tr) (hg : Gl X x := by rfl)
    (hdb : (x == ("__debug__" : Str)) = false := by decide) (he : starEach (e :: es) X.env = (false, eval e X.env) :: starEach es X.env := by rfl) (hpl : (backTo pos (starEach es X.env)).any (·.1) = false := by rfl) : PD X T F (.Call (.Name x p) (e :: es) [] pos) (tCallD Sq W tr) := by
  refine ⟨fun hK hc B H σ G K S h pins s I => ?_⟩
  refine wpAny_Call_Name_kw (ld_glob I hg hm ?_ hdb)
  refine PySem.W.callWith_K (h₀ := X.base) I.ok.mod.kin hk (thn (ha.run hK hc B H σ G _ S h pos pins s I) fun us s1 ⟨vs, H1, I1, r, B1, qs, G1, S1, k1, h1, q⟩ => ⟨I1.kIn, ?_⟩) he hpl
  exact thn (run_fnX Fn hr (hp.at σ) I1 r (spec_sp S1 h1 q)) fun u s2 ⟨v, H2, I2, rv, y⟩ => ⟨v, H2, I2, rv, Post.more k1 y⟩
/-- f() -/
theorem pd_call0 {Sq : Spec} {k : Nat} {f : Addr} {x : Str} {p : Pos} (Fn : FnX X T k f Sq) (hr : RoomG k X.A) (hm : X.mg x = some (.ref f)) (hk : PySem.W.keepIn X.K (.ref f) = true) (hp : PassD X T F W) (hg : Gl X x := by rfl)
    (hdb : (x == ("__debug__" : Str)) = false := by decide) : PD X T F (.Call (.Name x p) [] [] pos) (tCallD Sq W tQNil) := by
  refine ⟨fun hK hc B H σ G K S h pins s I => ?_⟩
  refine wpAny_Call_Name_kw (ld_glob I hg hm ?_ hdb)
  exact PySem.W.callWith_K0 I.kIn hk (run_fnX (us := []) Fn hr (hp.at σ) I .nil (spec_sp S .nil h))

/-! ### C(e, ..), C a class with slots and an own __init__ -/
@[simp ↓] def tSpecM (Sq : Spec) (W : WD) (c n : Nat) (G1 : Lo) (qs : List ArgS) (K : Opd → Lo → Prop) : Prop := match argsOf G1 qs with
  | some args => (slotsOf qs).Nodup ∧ Sq (.own (.obj c (List.replicate n none)) :: args)
      (fun o outs => match o, outs with
        | .imm .non, w :: outs => match w.z with
          | some d => K (.imm d) (putB G1 (slotsOf qs) outs)
          | none => False
        | _, _ => False)
      (fun x d outs => match outs with
        | _ :: outs => W x d (putB G1 (slotsOf qs) outs)
        | [] => False)
  | none => False
@[simp ↓] def tMakeD (Sq : Spec) (W : WD) (c n : Nat) (r : RQ) : RE := fun G K => r G fun qs G1 => tSpecM Sq W c n G1 qs K
theorem ArgsOk.grow {B2 H2 : Hp} {vs : List V} {as : List Arg} {A0 : List Addr} (h : ArgsOk T B H vs as A0) (e : Same B B2) (k : ∀ p u, H p = some u → B p = none → H2 p = some u ∧ B2 p = none) : ArgsOk T B2 H2 vs as A0 := by
  induction h with
  | nil => exact .nil
  | imm h t ih => exact .imm (h.mono e) ih
  | own b h t ih =>
    obtain ⟨u, hu⟩ := h.there
    obtain ⟨k1, k2⟩ := k _ u hu b
    exact .own k2 (h.mono e (k1.trans hu.symm)) ih
theorem slH_new {H : Hp} {x dx C : Addr} (hx : H x = none) (hd : H dx = none) (ne : dx ≠ x) : SlX.slH (upd (upd H dx (.own x)) x (.ins C dx [])) x C dx [] = upd (upd H dx (.xd [])) x (SlX.SlO x C dx []) := by
  funext b
  unfold SlX.slH
  by_cases h1 : b = x
  · rw [h1, upd_same, upd_same]
  · by_cases h2 : b = dx
    · rw [h2, upd_ne ne, upd_same, upd_ne ne, upd_same]
    · rw [upd_ne h1, upd_ne h2, upd_ne h1, upd_ne h2, upd_ne h1, upd_ne h2]
theorem specM_sp {Sq : Spec} {c n : Nat} (S : Sta T F B H σ G) {vs : List V} {qs : List ArgS} (h : QsOk T B σ vs qs) {K : Opd → Lo → Prop} (q : tSpecM Sq W c n G qs K) {x dx : Addr} (hx : H x = none) (hd : H dx = none) (ne : dx ≠ x) :
    spOf T Sq (.ref x :: vs) (upd (upd H dx (.xd [])) x (SlX.SlO x (T.cl c) dx [])) (fun v H' => v = .non ∧ Post T F B H σ G K (.ref x) H') (EX T F W σ) := by
  unfold tSpecM at q
  split at q
  · rename_i args ea
    obtain ⟨A0, a1, a2⟩ := args_ok S h ea
    have bx := S.bh.free hx
    have bd := S.bh.free hd
    have e1 : Same B (upd B dx (.xd [])) := same_upd bd
    have bx2 : upd B dx (.xd []) x = none := by rw [upd_ne (Ne.symm ne)]; exact bx
    have hx2 : upd H dx (.xd []) x = none := by rw [upd_ne (Ne.symm ne)]; exact hx
    have S1 := (S.fresh (u := .xd []) hd).freshN (u := SlX.SlO x (T.cl c) dx []) hx2
    have a3 : ArgsOk T (upd B dx (.xd [])) (upd (upd H dx (.xd [])) x (SlX.SlO x (T.cl c) dx [])) vs args A0 := a1.grow e1 fun p u hu hb => by
      have n1 : p ≠ x := ne_of_none hu hx
      have n2 : p ≠ dx := ne_of_none hu hd
      rw [upd_ne n1, upd_ne n2, upd_ne n2]
      exact ⟨hu, hb⟩
    have nx : x ∉ A0 := fun z => by
      obtain ⟨j, _, hj⟩ := addrs_mem a2 z
      exact (own_slot S hj).2.1 hx
    have aft : ∀ {B' H' outs w}, Aft T (upd B dx (.xd [])) (upd (upd H dx (.xd [])) x (SlX.SlO x (T.cl c) dx [])) (x :: A0) B' H' (w :: outs) → Aft T B H A0 B' H' outs ∧ B' x = none ∧ OwnIs T B' H' x w := fun {B' H' outs w} r => by
      have far : ∀ a, H a ≠ none → a ≠ x ∧ a ≠ dx := fun a ha => ⟨fun z => ha (by rw [z]; exact hx), fun z => ha (by rw [z]; exact hd)⟩
      have up : ∀ a, H a ≠ none → upd (upd H dx (.xd [])) x (SlX.SlO x (T.cl c) dx []) a = H a := fun a ha => by rw [upd_ne (far a ha).1, upd_ne (far a ha).2]
      refine ⟨⟨e1.trans r.b, r.bh, fun a o e m n => r.h a o ?_ m fun z => ?_, fun a ha hb => r.n a (by rw [up a ha]; exact ha) (by rw [upd_ne (far a ha).2]; exact hb), fun a ha => r.t a (by rw [up a ha]; exact ha), r.o.2.2, r.tb⟩, r.o.1, r.o.2.1⟩
      · rw [up a (by rw [e]; exact fun z => nomatch z)]
        exact e
      · rcases List.mem_cons.mp z with z | z
        · exact (far a (by rw [e]; exact fun z => nomatch z)).1 z
        · exact n z
    have ox : OwnIs T (upd B dx (.xd [])) (upd (upd H dx (.xd [])) x (SlX.SlO x (T.cl c) dx [])) x (.obj c (List.replicate n none)) := by
      refine ⟨dx, [], upd_same, upd_same, by simp, fun i d e => ?_⟩
      rw [List.getElem?_replicate] at e
      split at e <;> cases e
    refine ⟨_, _, x :: A0, _, _, S1.bh, S1.tb, .own bx2 ox a3, List.nodup_cons.mpr ⟨nx, addrs_nd S a2 q.1⟩, q.2, fun v B' H' outs o r hr k => ?_, fun c d dv B' H' outs r hxc k => ?_⟩
    · split at k
      · rename_i w outs'
        cases hr
        refine ⟨rfl, ?_⟩
        split at k
        · rename_i d ez
          obtain ⟨r2, b2, o2⟩ := aft r
          obtain ⟨B3, o3, G3, S3, k3, h3, n3, q3⟩ := Post.called (K := fun o G' => o = .new w ∧ G' = putB G (slotsOf qs) outs') (o := .new w) S a2 q.1 r2 ⟨x, rfl, b2, o2, hx⟩ ⟨rfl, rfl⟩
          obtain ⟨q4, q5⟩ := q3
          subst q4 q5
          have ez2 : frz1 (putB G (slotsOf qs) outs') (.new w) = some (d, putB G (slotsOf qs) outs') := by
            show w.z.map _ = _
            rw [ez]
            rfl
          obtain ⟨B4, S4, k4, i4⟩ := frz_ok k3 S3 h3 n3 ez2
          exact ⟨B4, .imm d, _, S4, k4, i4, Nw.imm, k⟩
        · exact k.elim
      · exact k.elim
    · cases outs with
      | nil => exact k.elim
      | cons w outs =>
        obtain ⟨r2, _, _⟩ := aft r
        exact ⟨B', _, c, dv, rfl, hxc, (S.call a2 q.1 r2).1, k⟩
  · exact q.elim
theorem run_makeS {Sq : Spec} {c n k : Nat} {f : Addr} {pins : List (Addr × Obj)} {s : Shared} {us : List Value} {vs : List V} {qs : List ArgS} {K : Opd → Lo → Prop} (M : Mk X.K (T.cl c) f) (Fn : FnX X T k f Sq) (hr : RoomG (k + 1) X.A) (hp : PassD X T F W)
    (S : Sta T F B H σ G) (I : Inv X pins σ H s) (r : Vals vs us) (h : QsOk T B σ vs qs) (q : tSpecM Sq W c n G qs K) : wpAny (model X.prog X.w) X.A (call (.ref (T.cl c)) us) (EP X pins σ (Post T F B H σ G K)) X.xe s := by
  have hx := I.hok.fresh (Nat.le_succ s.heap.objs.size)
  have hd := I.hok.fresh (Nat.le_refl s.heap.objs.size)
  have ne : s.heap.objs.size ≠ s.heap.objs.size + 1 := Nat.ne_of_lt (Nat.lt_succ_self _)
  have hq := specM_sp S h q hx hd ne
  have I1 := Inv.made (C := T.cl c) I
  have hs1 : SlX.Slt (upd (upd H s.heap.objs.size (.own (s.heap.objs.size + 1))) (s.heap.objs.size + 1) (.ins (T.cl c) s.heap.objs.size [])) (s.heap.objs.size + 1) (T.cl c) s.heap.objs.size [] := .inl ⟨upd_same, rfl⟩
  obtain ⟨_, sl, mA, e0, _⟩ := SlX.slt_at I1 hs1
  have I2 := SlX.inv_slot (vs' := []) (sl' := sl) (t' := s.toks) I1 hs1 (fun b o _ _ e => e) (fun m hm => hm) e0 (SlX.SlR.nil sl)
  rw [slH_new hx hd ne] at I2
  refine wpAny_call (make_map (f := f) I.kIn M.makes M.init (beq_iff_eq.mp M.fn) (codeAny_mono (Fn _ X.stack _ _ (Value.ref (s.heap.objs.size + 1) :: us) (.ref (s.heap.objs.size + 1) :: vs) _ _ (hr.make (T.cl c) us [])
    (I2.env0.make (T.cl c) us []) (.cons rfl r) hq) fun r s' hq' => ?_))
  cases r with
  | error e => exact hp.at σ pins _ _ e s' I2 hq'
  | ok fl =>
    cases fl with
    | ret u =>
      obtain ⟨v, H', I3, rv, ev, q3⟩ := I2.after hq'
      subst ev
      exact ⟨rv, ⟨V.ref (s.heap.objs.size + 1), H', I3, rfl, q3⟩⟩
    | next => exact False.elim hq'
    | brk => exact False.elim hq'
    | cont => exact False.elim hq'
theorem pd_make {Sq : Spec} {k : Nat} {f : Addr} {x : Str} {p : Pos} {tr : RQ} (c n : Nat) (M : Mk X.K (T.cl c) f) (Fn : FnX X T k f Sq) (hr : RoomG (k + 1) X.A) (hm : X.mg x = some (.ref (T.cl c))) (hp : PassD X T F W) (ha : PDQ X T F (e :: es) tr) (hg : Gl X x := by rfl)
    (hdb : (x == ("__debug__" : Str)) = false := by decide) (he : starEach (e :: es) X.env = (false, eval e X.env) :: starEach es X.env := by rfl) (hpl : (backTo pos (starEach es X.env)).any (·.1) = false := by rfl) : PD X T F (.Call (.Name x p) (e :: es) [] pos) (tMakeD Sq W c n tr) := by
  refine ⟨fun hK hc B H σ G K S h pins s I => ?_⟩
  refine wpAny_Call_Name_kw (ld_glob I hg hm ?_ hdb)
  refine PySem.W.callWith_K (h₀ := X.base) I.ok.mod.kin M.kp (thn (ha.run hK hc B H σ G _ S h pos pins s I) fun us s1 ⟨vs, H1, I1, r, B1, qs, G1, S1, k1, h1, q⟩ => ⟨I1.kIn, ?_⟩) he hpl
  exact thn (run_makeS M Fn hr hp S1 I1 r h1 q) fun u s2 ⟨v, H2, I2, rv, y⟩ => ⟨v, H2, I2, rv, Post.more k1 y⟩

/-! ### slots, properties -/
/-- e.f, the j-th slot -/
@[simp ↓] def tSlD (c j : Nat) (t : RE) : RE := fun G K => t G fun o G1 => match cont G1 o with
  | some (.slt c' fs) => c' = c ∧ (match fs[j]? with
    | some d => K (.imm d) G1
    | none => False)
  | _ => False
theorem slt_of {d : D} {c : Nat} {fs : List D} (S : Sta T F B H σ G) (h : See T B H v (.slt c fs)) : ∃ a dx vs, v = .ref a ∧ SlX.Slt H a (T.cl c) dx (vs.map some) ∧ IsL T B vs fs := by
  have h : Is T B v (.slt c fs) := h
  cases h with
  | slt h hd l => exact ⟨_, _, _, rfl, .inr ⟨S.bh _ _ h, S.bh _ _ hd⟩, l⟩
theorem pd_sl {f : Str} {p : Addr} (c j : Nat) (he : PD X T F e te) (hc : SlX.SCls X.K (T.cl c)) (h1 : SlX.Slot1 X.K (T.cl c) f p j) (hb : attributeBase e f X.env (eval e X.env) = eval e X.env := by rfl) : PD X T F (.Attribute e f pos) (tSlD c j te) := by
  refine ⟨fun hK hcm B H σ G K S h => tG_of (SlX.pe_sl (pe_G X e) hb) (tG_mono (he.run hK hcm B H σ G _ S h) fun v H1 ⟨B1, o, G1, S1, k1, w, _, q⟩ => ?_)⟩
  dsimp only at q
  split at q
  · rename_i c' fs ec
    obtain ⟨rfl, q⟩ := q
    split at q
    · rename_i d ed
      obtain ⟨a, dx, vs, rfl, hs, l⟩ := slt_of (d := .non) S1 (S1.see w ec)
      obtain ⟨u, u1, u2⟩ := l.get ed
      exact ⟨a, _, dx, p, _, j, u, rfl, hs, hc, h1, by rw [List.getElem?_map, u1]; rfl, Post.more k1 (Post.imm S1 u2 q)⟩
    · exact q.elim
  · exact q.elim
/-- e.f, a property; its getter's promise -/
@[simp ↓] def tPropD (c : Nat) (Sq : Spec) (t : RE) : RE := fun G K => tFz t G fun d G1 => match d with
  | .slt c' fs => c' = c ∧ Sq [.imm (.slt c' fs)] (fun o _ => K o G1) (fun _ _ _ => False)
  | _ => False
theorem getprop_ok {pins : List (Addr × Obj)} {s : Shared} {f : Str} {a C dx p g : Addr} {vs : List (Option V)} {b : Bool} {Q : VK} {n : Nat} {sp : Sp} {E : XK} (I : Inv X pins σ H s) (h : SlX.Slt H a C dx vs) (c : SlX.SCls X.K C) (at_ : PySem.W.findIn X.K (.ref C) f = some (some (.ref p)))
    (get : PySem.W.specialIn X.K (.ref p) "__get__" = some (some (.builtin "property.__get__"))) (tk : PySem.W.takesIn X.K (.ref p) = some true) (rc : ∃ rest, PySem.W.recIn X.K p "property" = some (.ref g :: rest)) (Fn : FnG X.prog X.w X.K X.mg X.base (L2N.CX X.prog X.w) n g sp) (hr : RoomG (n + 1) X.A)
    (hx : ∀ cls d H, ¬ E cls d H) (q : sp [.ref a] H Q E) : wpAny (model X.prog X.w) X.A (getAttr (.ref a) f b) (EP X pins σ Q) X.xe s := by
  obtain ⟨sl, od, _, J, _⟩ := SlX.slt_inst I h
  obtain ⟨rest, hrec⟩ := rc
  have I1 : Inv X pins σ H { s with toks := s.toks + 1 } := I.tok (s.toks + 1)
  refine PySem.W.get_bind I.kIn J (PySem.W.plainGet_of (c.get f)).1 (PySem.W.findObj_data c.ic at_ get tk) (PySem.W.plainGet_of (c.get f)).2 (wpAny_call (PySem.W.prop_get (s := { s with toks := s.toks + 1 }) I.kIn hrec ?_))
  refine codeAny_mono (Fn X.A.in1 X.stack { s with toks := s.toks + 1 } H [.ref a] [.ref a] Q E hr.in1 I1.env0.in1 (.cons rfl .nil) q) fun r s' hq => ?_
  cases r with
  | error e =>
    obtain ⟨_, _, _, _, _, _, _, _, _, _, _, _, z⟩ := hq
    exact (hx _ _ _ z).elim
  | ok fl =>
    cases fl with
    | ret u =>
      obtain ⟨v, H', I2, rv, q⟩ := I1.after hq
      exact wpAny_of_eq (PySem.W.handedOut_of (handed_of rv)) ⟨v, H', I2, rv, q⟩
    | next => exact False.elim hq
    | brk => exact False.elim hq
    | cont => exact False.elim hq
theorem pd_prop {f : Str} {p g : Addr} {k : Nat} {Sq : Spec} (c : Nat) (he : PD X T F e te) (hc : SlX.SCls X.K (T.cl c)) (at_ : PySem.W.findIn X.K (.ref (T.cl c)) f = some (some (.ref p))) (get : PySem.W.specialIn X.K (.ref p) "__get__" = some (some (.builtin "property.__get__")))
    (tk : PySem.W.takesIn X.K (.ref p) = some true) (rc : ∃ rest, PySem.W.recIn X.K p "property" = some (.ref g :: rest)) (Fn : FnX X T k g Sq) (hr : RoomG (k + 1) X.A) (hb : attributeBase e f X.env (eval e X.env) = eval e X.env := by rfl) : PD X T F (.Attribute e f pos) (tPropD c Sq te) := by
  refine ⟨fun hK hcm B H σ G K S h pins s I => ?_⟩
  refine attr_of hb (thn (run_fz he hK hcm S h pins s I) fun u s1 ⟨v, H1, I1, rx, B1, d, G1, S1, k1, w, q⟩ => ?_)
  split at q
  · rename_i c' fs
    obtain ⟨rfl, q⟩ := q
    obtain ⟨a, dx, vs, rfl, hs, l⟩ := slt_of (d := .non) S1 (show See T B1 H1 v (.slt c' fs) from w)
    obtain rfl : u = Value.ref a := rx
    refine getprop_ok (E := fun _ _ _ => False) I1 hs hc at_ get tk rc Fn hr (fun _ _ _ z => z) ⟨B1, _, [], _, _, S1.bh, S1.tb, .imm w .nil, List.nodup_nil, q, fun v B' H' outs o r hr k => ?_, fun c d dv B' H' outs r hx k => k⟩
    exact Post.more k1 (Post.called (is := []) (A1 := []) S1 trivial List.nodup_nil r hr (by unfold putB; exact k))
  · exact q.elim
/-- x.f = e, x the frame's own object -/
@[simp ↓] def sSlt (i c j : Nat) (t : RE) : RS := fun D G => tFz t G fun d G1 => match ownW G1 i with
  | some (.obj c' fs) => c' = c ∧ j < fs.length ∧ D.nx (setO G1 i (.obj c' (fs.set j (some d))))
  | _ => False
theorem isO_put {vs : List (Option V)} {fs : List (Option D)} {d : D} {j : Nat} (h : IsO T B vs fs) (hj : j < fs.length) (hd : Is T B v d) : IsO T B (SlX.putS j v vs) (fs.set j (some d)) := by
  refine ⟨?_, fun i d' e => ?_⟩
  · unfold SlX.putS
    have := h.1
    rw [List.length_set, List.length_set, List.length_append, List.length_replicate]
    omega
  · by_cases z : i = j
    · subst z
      rw [List.getElem?_set_self hj] at e
      cases e
      exact ⟨v, SlX.putS_get _ _ _, hd⟩
    · rw [List.getElem?_set_ne (Ne.symm z)] at e
      obtain ⟨u, u1, u2⟩ := h.2 i d' e
      exact ⟨u, (SlX.putS_ne z).mpr u1, u2⟩
theorem pds_slt {x f : Str} {xp pos' : Pos} {p : Addr} (i c j : Nat) (he : PD X T F e te) (hc : SlX.SCls X.K (T.cl c)) (h1 : SlX.Slot1 X.K (T.cl c) f p j) (hN : X.N[i]? = some x := by rfl) (hv : Vis X.env.scope x := by first | exact Or.inl rfl | exact Or.inr (Or.inl rfl) | exact Or.inr (Or.inr rfl))
    (hd : (x == ("__debug__" : Str)) = false := by decide) (hcd : (x == ("__classdict__" : Str)) = false := by decide) (hs : swapsWith e (some (.Attribute (.Name x xp) f pos')) pos.line X.env = pure false := by rfl) : PDS X T F (.Assign [.Attribute (.Name x xp) f pos'] e pos) (sSlt i c j te) := by
  refine ⟨fun hK hcm B H σ G D S h => tGS_of (SlX.ps_sl (pe_var (i := i) hN hv hd hcd) (pe_G X e) hs) (tG_mono (run_fz he hK hcm S h) fun v H1 ⟨B1, d, G1, S1, k1, w, q⟩ => ?_)⟩
  split at q
  · rename_i c' fs ew
    obtain ⟨rfl, hj, q⟩ := q
    obtain ⟨a, e1, e2, e3, dx, vs, e4, e5, e6⟩ := own_at S1 ew
    refine ⟨.ref a, e1, a, _, dx, p, vs, j, rfl, .inr ⟨e4, S1.bh _ _ e5⟩, hc, h1, ?_⟩
    have eh : SlX.slH H1 a (T.cl c') dx (SlX.putS j v vs) = upd H1 a (SlX.SlO a (T.cl c') dx (SlX.putS j v vs)) := by
      funext y
      unfold SlX.slH
      by_cases y1 : y = a
      · rw [y1, upd_same, upd_same]
      · rw [upd_ne y1, upd_ne y1]
        by_cases y2 : y = dx
        · rw [y2, upd_same]
          exact (S1.bh _ _ e5).symm
        · rw [upd_ne y2]
    rw [eh]
    have on : OwnIs T B1 (upd H1 a (SlX.SlO a (T.cl c') dx (SlX.putS j v vs))) a (.obj c' (fs.set j (some d))) := ⟨dx, _, upd_same, e5, isO_put e6 hj w⟩
    exact ⟨B1, _, S1.mut ew e2 on, k1.b, q⟩
  · exact q.elim

/-! ### names of classes; isinstance -/
theorem pd_gty {x : Str} {n : String} (hm : X.mg x = none) (hv : bootBuiltins x = some (.type n) := by decide +kernel) (hg : Gl X x := by rfl) (hn : x ≠ "__name__" := by decide) (hd : (x == ("__debug__" : Str)) = false := by decide) : PD X T F (.Name x pos) (tC (.ty n)) :=
  ⟨fun hK hc B H σ G K S h => tG_of (pe_bltn (v := .ty n) hg hm hv rfl hn hd) (Post.imm S (.ty n) h)⟩
theorem pd_gcls {x : Str} (c : Nat) (hm : X.mg x = some (.ref (T.cl c))) (hg : Gl X x := by rfl) (hd : (x == ("__debug__" : Str)) = false := by decide) : PD X T F (.Name x pos) (tC (.cls c)) :=
  ⟨fun hK hc B H σ G K S h => tG_of (pe_glob (v := .ref (T.cl c)) hg hm rfl hd) (Post.imm S (.cls c) h)⟩
/-- type() of a datum, nS the number of classes with slots -/
def tyV (T : Tab) (nS : Nat) : D → Option Value
  | .non => some (.type "NoneType")
  | .bl _ => some (.type "bool")
  | .int _ => some (.type "int")
  | .str _ => some (.type "str")
  | .tup _ => some (.type "tuple")
  | .lst _ => some (.type "list")
  | .dct _ => some (.type "dict")
  | .slt c _ => if c < nS then some (.ref (T.cl c)) else none
  | _ => none
theorem CallR.or {f : Value} {r r' : List V → Hp → VK → Prop} (h : CallR X f r) (h' : CallR X f r') : CallR X f (fun xs H Q => r xs H Q ∨ r' xs H Q) := fun pins s σ H xs us Q I rv h2 => by
  rcases h2 with h2 | h2
  · exact h pins s σ H xs us Q I rv h2
  · exact h' pins s σ H xs us Q I rv h2
/-- g d: whether d is an instance of the class u -/
@[simp ↓] def isI (g : D → Option Bool) (cd : D) : GC := fun G os K => match os with
  | [o, .imm c] => c = cd ∧ match cont G o with
    | some d => match g d with
      | some b => K (.imm (.bl b)) G
      | none => False
    | none => False
  | _ => False
/-- g answers as the classes stand -/
def KitD (T : Tab) (nS : Nat) (u : Value) (g : D → Option Bool) : Prop := ∀ d b, g d = some b → ∃ t, tyV T nS d = some t ∧ PySem.W.kitOne T.K t u = some b
theorem cd_isi {u : Value} {g : D → Option Bool} {nS : Nat} {cd : D} (hcd : ∀ B v, Is T B v cd → ClsV v u) (hk : KitD T nS u g) (hS : ∀ c, c < nS → SlX.SCls T.K (T.cl c) ∧ SlX.SIsi T.K (T.cl c)) : CallD X T F (.builtin "isinstance") (isI g cd) := by
  intro hK hcm
  refine ⟨_, CallR.or call_isi (SlX.call_isiSl u), fun B H σ G vs os K Q S hos h k => ?_⟩
  unfold isI at h
  split at h
  · rename_i o cc
    obtain ⟨rfl, h⟩ := h
    split at h
    · rename_i d ed
      split at h
      · rename_i b eb
        cases hos with
        | cons h1 t =>
          rename_i v1 vs1
          cases t with
          | cons h2 t2 =>
            rename_i v2 vs2
            cases t2
            have cv := hcd _ _ h2
            obtain ⟨t, et, ek⟩ := hk d b eb
            have see := S.see h1 ed
            have fin : Post T F B H σ G K (.bl b) H := Post.imm S (.bl b) h
            rw [← hK] at ek
            have go : ∀ {t'}, tyV T nS d = some t' → TyX X.K H v1 t' → (∃ (x c : V) (t u : Value) (b : Bool), [v1, v2] = [x, c] ∧ ClsV c u ∧ TyX X.K H x t ∧ PySem.W.kitOne X.K t u = some b ∧ Q (.bl b) H) := fun {t'} e1 ty => by
              rw [et] at e1
              cases e1
              exact ⟨v1, v2, t, u, b, rfl, cv, ty, ek, k _ _ fin⟩
            cases d with
            | non =>
              cases (show Is T B v1 .non from see)
              exact .inl (go rfl (.base .non))
            | bl y =>
              cases (show Is T B v1 (.bl y) from see)
              exact .inl (go rfl (.base (.bl y)))
            | int y =>
              cases (show Is T B v1 (.int y) from see)
              exact .inl (go rfl (.base (.int y)))
            | str y =>
              cases (show Is T B v1 (.str y) from see)
              exact .inl (go rfl (.base (.str y)))
            | tup ds =>
              obtain ⟨a, vs, rfl, ha, _⟩ := see
              exact .inl (go rfl (.base (.tup (S.bh _ _ ha))))
            | lst ds =>
              obtain ⟨a, vs, rfl, ha, _⟩ := see
              exact .inl (go rfl (.base (.lst ha)))
            | dct ds =>
              obtain ⟨a, vs, rfl, ha, _⟩ := see
              rcases ha with ha | ⟨o, ha⟩
              · exact .inl (go rfl (.base (.dK ha)))
              · exact .inl (go rfl (.fDict ha))
            | slt c fs =>
              obtain ⟨a, dx, vs, rfl, hs, l⟩ := slt_of (d := .non) S see
              have et : (if c < nS then some (Value.ref (T.cl c)) else none) = some t := et
              split at et
              · rename_i hc
                cases et
                obtain ⟨z1, z2⟩ := hS c hc
                rw [← hK] at z1 z2
                refine .inr ⟨a, T.cl c, dx, _, v2, b, rfl, ?_, fun w hw => cv.eq hw, hs, z1, z2, ek, k _ _ fin⟩
                cases cv with
                | ty n => exact rfl
                | own C => exact rfl
              · cases et
            | _ => cases et
      · exact h.elim
    · exact h.elim
  · exact h.elim
end
end Fx
end
section
set_option Elab.async false
set_option linter.all false
set_option maxRecDepth 100000
set_option maxHeartbeats 4000000
/-! FxT: == of two sets of keys, at the model's level -/
namespace Fx
open PySem PySem.Spec PyProof.Rows L2 PySem.Builtin
theorem entry_set_eq : entryFor table "set.__eq__" = some Builtin.«frozenset.__eq__» := entryFor_alias (id' := "frozenset.__eq__") (by kernel_rfl) rfl (by decide +kernel) (by kernel_rfl)
section
variable {prog : Program} {w : World} {A : Around} {E : Value → Shared → Prop} {s : Shared} {K : Type} [DecidableEq K] {knd : KeyKind prog w K}
theorem set_type {a : Addr} {S : K → Bool} {n : Nat} (h : s.heap.SetOf knd a S n) : s.TypeIs (.ref a) "set" := by
  obtain ⟨o, es, ep, t, ho, hx, _⟩ := h
  exact ⟨o, ho, hx.1⟩
theorem size_of {a : Addr} {S : K → Bool} {n : Nat} {Q : Nat → Shared → Prop} (h : s.heap.SetOf knd a S n) (q : Q n s) : wpAny (model prog w) A (Frozenset.sizeOf a) Q E s := by
  obtain ⟨o, es, ep, t, ho, hx, hd, hel, hm, hb, hf, e⟩ := h
  subst e
  unfold Frozenset.sizeOf
  exact wpAny_bind (wpAny_setEntries_of ho hd hf (wpAny_pure q))
theorem quiet_of {x : Value} {Q : Bool → Shared → Prop} (hx : ∀ a, x ≠ .ref a) (q : Q true s) : wpAny (model prog w) A (Frozenset.quietEq x) Q E s := by
  unfold Frozenset.quietEq
  cases x with
  | ref a => exact absurd rfl (hx a)
  | _ => exact wpAny_pure q
theorem quiet_loop {β : Type} (m : Sem (ForInStep β)) (b : β) (f : Int × Value → β → Sem (ForInStep β)) (hf : ∀ e, f e b = (Frozenset.quietEq e.2 >>= fun q => if (!q) = true then m else pure (ForInStep.yield b))) : ∀ (l : List (Int × Value)) {Q : β → Shared → Prop}, (∀ e ∈ l, ∀ a, e.2 ≠ .ref a) → Q b s → wpAny (model prog w) A (forIn l b f) Q E s
  | [], Q, _, q => by
    rw [List.forIn_nil]
    exact wpAny_pure q
  | e :: l, Q, h, q => by
    rw [List.forIn_cons, hf]
    refine wpAny_bind (wpAny_bind (quiet_of (h e List.mem_cons_self) ?_))
    rw [if_neg (by decide)]
    refine wpAny_pure ?_
    exact quiet_loop m b f hf l (fun e' he => h e' (List.mem_cons_of_mem _ he)) q
/-- the elements are no references -/
theorem elems_flat {l : List (Int × Value)} (hk : ∀ (k : K) (a : Addr), knd.is k (.ref a) = false) (h : ElemsOf knd l) : ∀ e ∈ l, ∀ a, e.2 ≠ .ref a := fun e he a z => by
  obtain ⟨⟨k, h1, _⟩, _⟩ := h e he
  rw [z, hk] at h1
  cases h1
theorem walk_of {a b : Addr} {S S' : K → Bool} {n n' : Nat} {Q : List (Int × Value) → Shared → Prop} (hk : ∀ (k : K) (a : Addr), knd.is k (.ref a) = false) (h : s.heap.SetOf knd a S n) (h' : s.heap.SetOf knd b S' n')
    (q : ∀ l : List (Int × Value), ElemsOf knd l → (∀ k, S k = true ↔ ∃ e ∈ l, knd.is k e.2 = true) → Q l s) : wpAny (model prog w) A (Frozenset.walkUnseen a b) Q E s := by
  obtain ⟨o, es, ep, t, ho, hx, hd, hel, hm, hb, hf, e⟩ := h
  obtain ⟨o', es', ep', t', ho', hx', hd', hel', hm', hb', hf', e'⟩ := h'
  unfold Frozenset.walkUnseen
  refine wpAny_bind (wpAny_setEntries_of ho hd hf ?_)
  refine wpAny_bind (wpAny_setEntries_of ho' hd' hf' ?_)
  refine wpAny_bind (quiet_loop (Frozenset.walk a >>= fun r => pure (ForInStep.done (some r, ()))) (none, ()) _ (by rintro ⟨h, x⟩; rfl) _ (fun e he => ?_) ?_)
  · rcases List.mem_append.mp he with he | he
    · exact elems_flat hk hel e he
    · exact elems_flat hk hel' e he
  · exact wpAny_pure (q _ hel hm)
/-- every element of l is found in b -/
theorem sub_loop {a b : Addr} {S' : K → Bool} {m ep : Nat} {id : String} {o : Obj} {es : Array (Int × Value)} {t : SetTable} (ho : s.heap.get? a = some o) (hd : o.data = .set es ep t) (hf : t.fits es.size = true) (hb : s.heap.SetOf knd b S' m)
    (f : Int × Value → Option Bool × Unit → Sem (ForInStep (Option Bool × Unit))) (hff : ∀ e, f e (none, ()) = (holding [e.2] (setFind b e.2 e.1) >>= fun q => if q.isNone = true then pure (ForInStep.done (some false, ())) else Frozenset.unchanged id a ep >>= fun _ => pure (ForInStep.yield (none, ())))) :
    ∀ (l : List (Int × Value)) {Q : Option Bool × Unit → Shared → Prop}, ElemsOf knd l → (∀ r : Bool, (r = true ↔ ∀ (k : K) (e : Int × Value), e ∈ l → knd.is k e.2 = true → S' k = true) → Q (if r then (none, ()) else (some false, ())) s) →
      wpAny (model prog w) A (forIn l (none, ()) f) Q E s
  | [], Q, _, h => by
    rw [List.forIn_nil]
    exact wpAny_pure (h true ⟨fun _ k e he => absurd he (by simp), fun _ => rfl⟩)
  | e :: l, Q, hl, h => by
    rw [List.forIn_cons, hff]
    obtain ⟨⟨k, hk, hh⟩, hsc⟩ := hl.head
    have only : ∀ k', knd.is k' e.2 = true → k' = k := fun k' h' => by
      have q := KeyKind.is_eq_decide hk k'
      rw [h'] at q
      exact of_decide_eq_true q.symm
    refine wpAny_bind (wpAny_bind (wpAny_holding ?_))
    rw [hh]
    refine wpAny_setFind_of hk hsc hb fun r hr => ?_
    cases er : S' k with
    | false =>
      rw [er] at hr
      have : r.isNone = true := by cases r with
        | none => rfl
        | some _ => cases hr
      rw [if_pos this]
      refine wpAny_pure (wpAny_pure ?_)
      refine h false (Iff.intro (fun z => absurd z Bool.false_ne_true) fun z => ?_)
      have := z k e List.mem_cons_self hk
      rw [er] at this
      cases this
    | true =>
      rw [er] at hr
      have : ¬ r.isNone = true := by cases r with
        | none => cases hr
        | some _ => exact Bool.false_ne_true
      rw [if_neg this]
      refine wpAny_bind ?_
      unfold Frozenset.unchanged
      refine wpAny_bind (wpAny_setEpoch_of ho hd hf ?_)
      rw [if_neg (by simp)]
      refine wpAny_pure (wpAny_pure ?_)
      refine sub_loop ho hd hf hb f hff l hl.tail fun r hr => h r ⟨fun z k' e' he' q => ?_, fun z => hr.mpr fun k' e' he' q => z k' e' (List.mem_cons_of_mem _ he') q⟩
      rcases List.mem_cons.mp he' with rfl | he'
      · rw [only k' q]
        exact er
      · exact hr.mp z k' e' he' q
theorem subset_of {a b : Addr} {S S' : K → Bool} {n m : Nat} {id : String} {Q : Bool → Shared → Prop} (hk : ∀ (k : K) (a : Addr), knd.is k (.ref a) = false) (ha : s.heap.SetOf knd a S n) (hb : s.heap.SetOf knd b S' m) (hnm : n = m)
    (h : ∀ r : Bool, (r = true ↔ ∀ k, S k = true → S' k = true) → Q r s) : wpAny (model prog w) A (Frozenset.subsetOf id a b) Q E s := by
  unfold Frozenset.subsetOf
  refine wpAny_bind (size_of ha (wpAny_bind (size_of hb ?_)))
  rw [if_neg (by omega)]
  have ha' := ha
  obtain ⟨o, es, ep, t, ho, hx, hd, hel, hm, hbd, hf, e⟩ := ha
  refine wpAny_bind (wpAny_setEpoch_of ho hd hf ?_)
  refine wpAny_bind (walk_of hk ha' hb fun l hl hmem => ?_)
  refine wpAny_bind (sub_loop ho hd hf hb _ (by rintro ⟨h, x⟩; rfl) l hl fun r hr => ?_)
  have hr2 : r = true ↔ ∀ k, S k = true → S' k = true := by
    rw [hr]
    constructor
    · intro z k q
      obtain ⟨e', he', q'⟩ := (hmem k).mp q
      exact z k e' he' q'
    · intro z k e' he' q
      exact z k ((hmem k).mpr ⟨e', he', q⟩)
  cases r with
  | true => exact wpAny_pure (h true hr2)
  | false => exact wpAny_pure (h false hr2)
/-- a == b of two sets -/
theorem eq_sets {a b : Addr} {S S' : K → Bool} {n m : Nat} {Q : Value → Shared → Prop} (hk : ∀ (k : K) (a : Addr), knd.is k (.ref a) = false) (ha : s.heap.SetOf knd a S n) (hb : s.heap.SetOf knd b S' m) (hu : A.units < cLine)
    (h : ∀ r : Bool, (r = true ↔ n = m ∧ ∀ k, S k = true → S' k = true) → Q (.bool r) s) : wpAny (model prog w) A (richCompare .Eq (.ref a) (.ref b)) Q E s := by
  refine wpAny_richCompare_same_room (op := .Eq) ha.typeIs hb.typeIs PySem.F.slot_set_eq (wpAny_call_entry PySem.F.slot_set_eq ha.typeIs entry_set_eq ?_ (PySem.F.args_set_eq_2 _ _)) hu
  have hio : wpAny (model prog w) A.in1 (Builtin.«frozenset.__eq__» ⟨[.ref a, .ref b], []⟩) (fun fin s' => ∃ v, fin = .done (.ret v) ∧ v ≠ .notImplemented ∧ Q v s') E s := by
    show wpAny _ _ (Frozenset.slot1 "__eq__" ⟨[.ref a, .ref b], []⟩ >>= _) _ _ s
    refine wpAny_bind ?_
    show wpAny _ _ (pure (Value.ref a, Value.ref b)) _ _ s
    refine wpAny_pure ?_
    have hset : ∀ {Q : Bool → Shared → Prop}, Q true s → wpAny (model prog w) A.in1 (Frozenset.isAnySet (.ref b)) Q E s := fun q => by
      unfold Frozenset.isAnySet
      refine wpAny_bind (wpAny_isInstance (T := "set") hb.typeIs PySem.F.sub_set_set ?_)
      exact wpAny_pure q
    refine wpAny_bind (hset ?_)
    simp only [Bool.not_true, Bool.false_eq_true, if_false]
    refine wpAny_bind (wpAny_pure (wpAny_bind (wpAny_pure ?_)))
    refine wpAny_bind (size_of ha (wpAny_bind (size_of hb ?_)))
    refine wpAny_bind ?_
    by_cases hnm : n = m
    · subst hnm
      simp only [bne_self_eq_false, Bool.false_eq_true, if_false]
      refine wpAny_bind ?_
      have hfz : ∀ {Q : Bool → Shared → Prop}, Q false s → wpAny (model prog w) A.in1 (isInstance (.ref a) (.type "frozenset")) Q E s := fun q => wpAny_isInstance (T := "set") ha.typeIs PySem.F.sub_set_frozenset q
      refine wpAny_bind (hfz ?_)
      refine wpAny_pure ?_
      simp only [Bool.false_eq_true, if_false]
      refine subset_of hk ha hb rfl fun r hr => wpAny_pure ⟨_, rfl, fun x => (nomatch x), h r ?_⟩
      rw [hr]
      exact ⟨fun z => ⟨rfl, z⟩, fun z => z.2⟩
    · have e : (n != m) = true := by simpa using hnm
      rw [e, if_pos rfl]
      exact wpAny_pure (wpAny_pure ⟨_, rfl, fun x => (nomatch x), h false ⟨fun z => absurd z Bool.false_ne_true, fun z => absurd z.1 hnm⟩⟩)
  exact hio
theorem call_set_tupleK {κ : Type} [DecidableEq κ] {knd : KeyKind prog w κ} {l : Addr} {items : Array Value} {xs : List κ} {Q : Value → Shared → Prop}
    (hh : A.handled = none) (hl : s.heap.IsTuple l items) (hlen : xs.length = items.size) (hb : items.size + 1 < scanBound) (hval : ∀ (i : Nat) (v : Value), items[i]? = some v → ∃ x, xs[i]? = some x ∧ knd.is x v = true ∧ v.scannable = true)
    (h : ∀ (h' : Heap) (tk : Nat), h'.SetOf knd s.heap.objs.size (fun k' => (xs.take items.size).any (fun y => decide (y = k'))) (distinct (xs.take items.size)) →
      (∀ b o, b < s.heap.objs.size → s.heap.get? b = some o → h'.get? b = some o) → Q (.ref s.heap.objs.size) { s with heap := h', toks := tk }) :
    wpAny (model prog w) A (call (.type "set") [.ref l]) Q E s := by
  obtain ⟨c, tl, hmro⟩ := PySem.F.called_set.mro
  have hmade := PySem.F.called_set.made
  have hsub := PySem.F.called_set.sub
  refine wpAny_call (codeAny_of_tree ?_)
  show wpAny _ _ (callAny (.type "set") _) _ _ _
  refine wpAny_pure ⟨Code.quiet_builtin _ (by decide +kernel), codeAny_builtin PySem.F.entry_type_call ?_⟩
  rw [Around.under_plain (weight_type_call_type "set" [.ref l] []) rfl]
  have h1 := PySem.F.called_set.notType
  have h2 := PySem.F.called_set.canCreate
  have hct := PySem.F.typeCall_set_1 (.ref l)
  repeat (any_goals (first | assumption | wp_step))
  refine codeAny_mono (code_set_new_1 (.ref l) (E := E) (Q₁ := fun obj s₁ => ∃ led : Bool, obj = .ref s.heap.objs.size ∧ s₁ = { s with heap := s.heap.push { cls := .type "set", dict := none, data := .set #[] 0 (.fresh 0 0 led) } }) fun led => ⟨led, rfl, rfl⟩) fun r s₁ hr => ?_
  cases r with
  | error e => exact hr
  | ok fl =>
    cases fl with
    | ret obj =>
      obtain ⟨led, rfl, rfl⟩ := hr
      have hS : (s.heap.push { cls := .type "set", dict := none, data := .set #[] 0 (.fresh 0 0 led) }).get? s.heap.objs.size = some { cls := .type "set", dict := none, data := .set #[] 0 (.fresh 0 0 led) } := Heap.get?_push_size _ rfl
      have hT : Shared.TypeIs { s with heap := s.heap.push { cls := .type "set", dict := none, data := .set #[] 0 (.fresh 0 0 led) } } (.ref s.heap.objs.size) "set" := ⟨_, hS, rfl⟩
      have hli := PySem.F.called_set.init.lookup
      have hbi := PySem.F.called_set.init.bind (.ref s.heap.objs.size)
      repeat (any_goals (first | assumption | wp_step))
      refine codeAny_mono (codeAny_call_builtin (R := wants (fun r s₂ => r = .none ∧ ∃ h' tk, s₂ = { s with heap := h', toks := tk } ∧
          h'.SetOf knd s.heap.objs.size (fun k' => (xs.take items.size).any (fun y => decide (y = k'))) (distinct (xs.take items.size)) ∧
          (∀ b o, b < s.heap.objs.size → s.heap.get? b = some o → h'.get? b = some o)) E) PySem.F.called_set.init.plain PySem.F.entry_set_init (check_set_init_1 hT ?_)) fun r₂ s₂ hr₂ => ?_
      · obtain ⟨ol, hol, hcl, nl, hdl⟩ := hl
        obtain ⟨ocls, odict, odata, oslots⟩ := ol
        simp only at hcl hdl
        subst hcl; subst hdl
        have hol' : (s.heap.push { cls := .type "set", dict := none, data := .set #[] 0 (.fresh 0 0 led) }).get? l = some { cls := .type "tuple", dict := odict, data := .seq items nl, slots := oslots } := Heap.get?_push_of_some _ hol
        have hsls := PySem.F.sub_tuple_set
        have hslf := PySem.F.sub_tuple_frozenset
        have hne : (Value.type "tuple" == Value.type "dict") = false := by decide
        have hl1 : (s.heap.push { cls := .type "set", dict := none, data := .set #[] 0 (.fresh 0 0 led) }).IsTuple l items := ⟨_, hol', rfl, nl, rfl⟩
        unfold Builtin.«set.__init__» noKeywords Builtin.Frozenset.updateFrom
        generalize hPI : pyIter = PI
        wp_walk
        subst hPI
        refine wpAny_pyIter_tuple hl1 ?_
        refine wpAny_bind (wpAny_runValue ?_)
        have hlS : l < s.heap.objs.size := Heap.lt_size hol
        have hh3 : A.in1.in1.in1.handled = none := by simp [hh]
        have hneI : l ≠ (s.heap.push { cls := .type "set", dict := none, data := .set #[] 0 (.fresh 0 0 led) }).objs.size := by
          rw [Heap.size_push]; exact Nat.ne_of_lt (Nat.lt_succ_of_lt hlS)
        have hSf : s.heap.objs.size ∉ [(s.heap.push { cls := .type "set", dict := none, data := .set #[] 0 (.fresh 0 0 led) }).objs.size, l] := by
          rw [Heap.size_push]; simp only [List.mem_cons, List.mem_singleton, List.not_mem_nil, or_false, not_or]
          exact ⟨Nat.ne_of_lt (Nat.lt_succ_self _), Nat.ne_of_gt hlS⟩
        refine upd_loopK (knd := knd) ((Walks.tuple hh3 _ l hneI items).toS) s.heap.objs.size
          hSf xs hlen hb hval (items.size - 0) 0 _ (by omega) (Nat.zero_le _)
          ⟨⟨_, Heap.get?_push_size _ rfl, rfl, rfl⟩, (hl1.push _)⟩ ?hS0 ?hR
        case hS0 =>
          have hget : ((s.heap.push { cls := .type "set", dict := none, data := .set #[] 0 (.fresh 0 0 led) }).push { cls := .type "tuple_iterator", data := .fields #[.ref l, .int 0 0] }).get? s.heap.objs.size
              = some { cls := .type "set", dict := none, data := .set #[] 0 (.fresh 0 0 led) } := Heap.get?_push_of_some _ hS
          exact PyProof.Rows.SetOf_congr ((PyProof.Rows.setObjOf_fresh (knd := knd) led).setOf hget (by unfold scanBound; omega)) (fun _ => rfl) rfl
        case hR =>
          intro s' hm hS'
          obtain ⟨h', g', d', tk', os'⟩ := s'
          have eg : g' = s.gens := hm.gens
          have ed : d' = s.drawn := hm.drawn
          have eo : os' = s.os := hm.os
          subst eg; subst ed; subst eo
          show wpAny _ _ _ _ _ _
          refine wpAny_pure ?_
          show wpAny _ _ (ret Value.none) _ _ _
          refine wpAny_pure ⟨rfl, h', tk', rfl, hS', fun b o hb e => ?_⟩
          have hb1 : b ≠ s.heap.objs.size := Nat.ne_of_lt hb
          have hb2 : b ≠ (s.heap.push { cls := .type "set", dict := none, data := .set #[] 0 (.fresh 0 0 led) }).objs.size := by
            rw [Heap.size_push]; exact Nat.ne_of_lt (Nat.lt_succ_of_lt hb)
          exact hm.heap b o (by simp only [List.mem_cons, List.mem_singleton, List.not_mem_nil, or_false, not_or]; exact ⟨hb1, hb2⟩) (Heap.get?_push_of_some _ (Heap.get?_push_of_some _ e))
      · cases r₂ with
        | error e => exact hr₂
        | ok fl₂ =>
          cases fl₂ with
          | ret r =>
            obtain ⟨rfl, h', tk, rfl, hS', hk'⟩ := hr₂
            repeat (any_goals (first | assumption | wp_step))
            exact h _ _ hS' hk'
          | _ => exact hr₂.elim
    | _ => exact hr.elim
end
end Fx
end
section
set_option Elab.async false
set_option linter.all false
set_option maxRecDepth 100000
set_option maxHeartbeats 2000000
/-! Fx10: two names at once, xs[i] = e, list(range(..)), set(..), repr, {..}, == and != by an own __eq__ -/
namespace Fx
open PySem PySem.Spec PyProof.Rows L2
section
variable {X : Cx}
/-- set(xs), xs a list of ints and texts: how many, which -/
def rSetL1 (P : Program) (w : World) (K : PySem.W.Frag) : List V → Hp → VK → Prop := fun xs H Q => ∃ (l : Addr) (ks : List Key), xs = [.ref l] ∧ SqL K H l (ks.map kV) ∧ ks.length + 1 < scanBound ∧ ∀ p, H p = none → Q (.ref p) (upd H p (SetK P w p (fun k => ks.any fun x => decide (x = k)) (distinct ks)))
theorem call_setL (hc : X.calm = true) : CallR X (.type "set") (rSetL1 X.prog X.w X.K) := by
  intro pins s σ H xs us Q I r h
  obtain ⟨l, ks, rfl, hs, hb, q⟩ := h
  obtain ⟨u, rfl, ru⟩ := r.one
  cases (show u = Value.ref l from ru)
  obtain ⟨its, rv, hl, hz⟩ := I.list hs
  have el : ks.length = its.length := by
    rw [← rv.length, List.length_map]
  refine call_set_listK (knd := mixKind X.prog X.w) (xs := ks) (items := its.toArray) (I.ok.hd hc) hl.isList (by rw [List.size_toArray]; exact el) (by rw [List.size_toArray, ← el]; exact hb) (fun i v e => ?_) fun h' tk hS hk => ?_
  · have e2 : its[i]? = some v := by simpa using e
    have hi : i < ks.length := by
      rw [el]
      exact (List.getElem?_eq_some_iff.mp e2).1
    have ek : ks[i]? = some ks[i] := List.getElem?_eq_getElem hi
    obtain ⟨u, u1, u2⟩ := rv.get (i := i) (x := kV ks[i]) (by rw [List.getElem?_map, ek]; rfl)
    rw [e2] at u1
    cases u1
    exact ⟨_, ek, kV_is u2, key_scan u2⟩
  · have et : ks.take its.toArray.size = ks := by rw [List.size_toArray, ← el, List.take_length]
    rw [et] at hS
    refine ⟨.ref _, upd H s.heap.objs.size (SetK X.prog X.w s.heap.objs.size (fun k => ks.any fun x => decide (x = k)) (distinct ks)), I.laid (t' := tk) (fun b u e => hk b u (Heap.lt_size e) e) (Nat.le_refl _) (setK_new hS), rfl, q _ (I.hok.fresh (Nat.le_refl _))⟩
/-- len of such a set -/
theorem call_lenK : CallR X (.builtin "len") (fun xs H Q => ∃ (a : Addr) (S : Key → Bool) (n : Nat), xs = [.ref a] ∧ H a = some (SetK X.prog X.w a S n) ∧ Q (.int n) H) := by
  intro pins s σ H xs us Q I r h
  obtain ⟨a, S, n, rfl, ha, q⟩ := h
  obtain ⟨u, rfl, ru⟩ := r.one
  cases (show u = Value.ref a from ru)
  obtain ⟨o, es, ep, t, ho, hex, hd, _, _, hb, hf, hn⟩ := setK_get I ha
  refine call_len_set ho hex hd hf (by unfold scanBound at hb; omega) ?_
  exact ⟨.int n, H, I.tok _, ⟨_, by rw [hn]⟩, q⟩
end

section
variable {X : Cx} {T : Tab} {F : Fr} {a b c e : Expr} {es : List Expr} {pos : Pos} {ta tb tc te : RE}
variable {B B' H H' : Hp} {σ : L2.St} {G G' : Lo} {v : V} {o : Opd} {W : WD}

/-! ### len(set(xs)) -/
@[simp ↓] def keysOf : List D → Option (List Key)
  | [] => some []
  | .str x :: r => (keysOf r).map (.inr x :: ·)
  | .int i :: r => (keysOf r).map (.inl i :: ·)
  | _ => none
theorem keys_vs : ∀ {vs : List V} {ds : List D} {ks : List Key}, IsL T B vs ds → keysOf ds = some ks → vs = ks.map kV
  | _, _, _, .nil, e => by
    cases e
    rfl
  | _, _, _, .cons h t, e => by
    cases h with
    | str x =>
      obtain ⟨r, e1, e2⟩ := Option.map_eq_some_iff.mp e
      subst e2
      rw [keys_vs t e1]
      rfl
    | int i =>
      obtain ⟨r, e1, e2⟩ := Option.map_eq_some_iff.mp e
      subst e2
      rw [keys_vs t e1]
      rfl
    | _ => cases e
@[simp ↓] def tLenSet (t : RE) : RE := fun G K => t G fun o G1 => match cont G1 o with
  | some (.lst ds) => match keysOf ds with
    | some ks => ks.length + 1 < scanBound ∧ K (.imm (.int (distinct ks))) G1
    | none => False
  | _ => False
theorem pd_lenSet {x y : Str} {p p2 pos2 : Pos} (he : PD X T F e te) (hm : X.mg x = none) (hm2 : X.mg y = none) (hv : bootBuiltins x = some (.builtin "len") := by decide +kernel) (hv2 : bootBuiltins y = some (.type "set") := by decide +kernel) (hgl : Gl X x := by rfl) (hgl2 : Gl X y := by rfl)
    (hn : x ≠ "__name__" := by decide) (hn2 : y ≠ "__name__" := by decide) (hdb : (x == ("__debug__" : Str)) = false := by decide) (hdb2 : (y == ("__debug__" : Str)) = false := by decide)
    (h1 : starEach (.Call (.Name y p2) [e] [] pos2 :: []) X.env = (false, eval (.Call (.Name y p2) [e] [] pos2) X.env) :: starEach [] X.env := by rfl) (h2 : (backTo pos (starEach [] X.env)).any (·.1) = false := by rfl)
    (h3 : starEach (e :: []) X.env = (false, eval e X.env) :: starEach [] X.env := by rfl) (h4 : (backTo pos2 (starEach [] X.env)).any (·.1) = false := by rfl) :
    PD X T F (.Call (.Name x p) [.Call (.Name y p2) [e] [] pos2] [] pos) (tLenSet te) := by
  refine ⟨fun hK hc B H σ G K S h => tG_of (pe_callB call_lenK hgl hm hv (pa_cons (pe_callTy (call_setL hc) hgl2 hm2 hv2 (pa_cons (pe_G X e) pa_nil h3) hn2 hdb2 h3 h4) pa_nil h1) hn hdb h1 h2) ?_⟩
  refine tG_mono (he.run hK hc B H σ G _ S h) fun v H1 ⟨B1, o, G1, S1, k1, w, _, q⟩ => ?_
  dsimp only at q
  split at q
  · rename_i ds ec
    split at q
    · rename_i ks ek
      obtain ⟨a, vs, rfl, ha, l⟩ := S1.see w ec
      refine ⟨a, ks, rfl, by rw [← keys_vs l ek]; exact SqL.of ha, q.1, fun p hp => ?_⟩
      refine ⟨p, _, _, rfl, upd_same, ?_⟩
      exact Post.more (k1.trans (Kp.freshN hp)) (Post.imm (S1.freshN hp) (.int _) q.2)
    · exact q.elim
  · exact q.elim

/-! ### list(range(e)) -/
theorem rg_is' : ∀ (n : Nat) (lo : Int), IsL T B ((List.range n).map fun i => V.int (lo + (i : Nat))) (rngD lo n)
  | 0, _ => .nil
  | n + 1, lo => by
    rw [List.range_succ_eq_map, List.map_cons, List.map_map]
    unfold rngD
    have q := rg_is' n (lo + 1)
    have e : (List.range n).map (fun i => V.int (lo + 1 + (i : Nat))) = (List.range n).map ((fun i : Nat => V.int (lo + (i : Nat))) ∘ Nat.succ) := by
      refine List.map_congr_left fun i _ => ?_
      show V.int _ = V.int _
      congr 1
      simp only [Nat.succ_eq_add_one, Int.natCast_add]
      omega
    rw [e] at q
    have z : V.int (lo + ((0 : Nat) : Int)) = V.int lo := by simp
    rw [z]
    exact .cons (.int lo) q
theorem rg_is (n : Int) : IsL T B (rgV 0 n) (rngD 0 n.toNat) := by
  unfold rgV
  have q := rg_is' (T := T) (B := B) n.toNat 0
  rw [Int.sub_zero]
  exact q
@[simp ↓] def tLstRgD (t : RE) : RE := fun G K => t G fun o G1 => match cont G1 o with
  | some (.int n) => n ≤ 16777216 ∧ -(2 ^ 62) ≤ n ∧ K (.new (.lst (rngD 0 n.toNat))) G1
  | _ => False
theorem pd_listRg {p p2 pos2 : Pos} (he : PD X T F e te) (hm : X.mg "list" = none) (hm2 : X.mg "range" = none) (hg : Gl X "list" := by rfl) (hg2 : Gl X "range" := by rfl)
    (h1 : starEach [.Call (.Name "range" p2) [e] [] pos2] X.env = (false, eval (.Call (.Name "range" p2) [e] [] pos2) X.env) :: starEach [] X.env := by rfl) (h3 : starEach [e] X.env = (false, eval e X.env) :: starEach [] X.env := by rfl) :
    PD X T F (.Call (.Name "list" p) [.Call (.Name "range" p2) [e] [] pos2] [] pos) (tLstRgD te) := by
  refine ⟨fun hK hc B H σ G K S h => tG_of (pe_listRg hc hg hm (prg_1 hg2 hm2 (pe_G X e) h3) h1) ?_⟩
  refine tG_mono (he.run hK hc B H σ G _ S h) fun v H1 ⟨B1, o, G1, S1, k1, w, _, q⟩ => ?_
  dsimp only at q
  split at q
  · rename_i n ec
    cases see_int S1 w ec
    refine ⟨n, rfl, ⟨by omega, by omega, by omega, by omega, by omega⟩, fun p hp => ?_⟩
    exact Post.more k1 (Post.newL S1 hp (rg_is n) q.2.2)
  · exact q.elim

/-! ### repr -/
@[simp ↓] def wRepr : D → (Opd → Prop) → Prop := fun d K => ∃ p, toPy d = some p ∧ p.showable = true ∧ p.hasDict = false ∧ p.depth ≤ 60 ∧ p.shown.length ≤ sizeLine ∧ K (.imm (.str p.shown))
theorem call_reprD (hr : RoomG 0 X.A) : CallR X (.builtin "repr") (fun xs H Q => ∃ x p, xs = [x] ∧ Dp X.K H x p ∧ p.showable = true ∧ p.hasDict = false ∧ p.depth ≤ 60 ∧ p.shown.length ≤ sizeLine ∧ Q (.str p.shown) H) := by
  intro pins s σ H xs us Q I r h
  obtain ⟨x, p, rfl, hd, h1, h2, h3, h4, q⟩ := h
  obtain ⟨u, rfl, ru⟩ := r.one
  obtain ⟨as, rd⟩ := Dp.reads I p x u hd ru
  have hu := hr.rm.units
  cases rd with
  | none =>
    simp only [PyData.shown] at q
    exact P.repr_of_none ⟨.str "None", H, I.tok _, ⟨_, rfl⟩, q⟩
  | bool b =>
    simp only [PyData.shown] at q
    exact P.repr_of_bool ⟨.str _, H, I.tok _, ⟨_, rfl⟩, q⟩
  | int i t =>
    simp only [PyData.shown] at q
    exact P.repr_of_int (by simpa [PyData.showable] using h1) ⟨.str _, H, I.tok _, ⟨_, rfl⟩, q⟩
  | str y t =>
    simp only [PyData.shown] at q h4
    exact P.repr_of_str ⟨.str _, H, I.tok _, ⟨_, rfl⟩, q⟩ h4
  | list a1 a2 a3 a4 =>
    exact repr_of_reads' (Reads.list a1 a2 a3 a4) h1 (fun z => by rw [h2] at z; cases z) hr.gs (by omega) (fun _ _ e => e) (fun h' u tk hk => ⟨.str _, H, I.kept hk, ⟨_, rfl⟩, q⟩) h4
  | tuple a1 a2 a3 a4 =>
    exact repr_of_reads' (Reads.tuple a1 a2 a3 a4) h1 (fun z => by rw [h2] at z; cases z) hr.gs (by omega) (fun _ _ e => e) (fun h' u tk hk => ⟨.str _, H, I.kept hk, ⟨_, rfl⟩, q⟩) h4
  | dict _ _ _ _ _ => simp [PyData.hasDict] at h2
theorem cd_repr (hr : RoomG 0 X.A) : CallD X T F (.builtin "repr") (g1 wRepr) := by
  intro hK hc
  refine ⟨_, call_reprD hr, fun B H σ G vs os K Q S hos h k => ?_⟩
  unfold g1 at h
  split at h
  · rename_i o
    cases hos with
    | cons h1 t =>
      cases t
      split at h
      · rename_i d ed
        obtain ⟨p, ep, p1, p2, p3, p4, q⟩ := h
        refine ⟨_, p, rfl, ?_, p1, p2, p3, p4, k _ _ (Post.imm S (.str _) q)⟩
        rw [hK]
        exact See.dp S.bh (S.see h1 ed) ep
      · exact h.elim
  · exact h.elim

/-! ### x == y, x != y by an own __eq__ -/
/-- what the classes' own == promise -/
structure EqCls (X : Cx) (T : Tab) (nS : Nat) (c : Nat) (Sq : Spec) : Prop where
  nt : ∀ d t, tyV T nS d = some t → PySem.W.notFirst T.K (T.cl c) t = true
  lo : c < nS
  cl : ∀ c, c < nS → SlX.SCls T.K (T.cl c) ∧ SlX.SIsi T.K (T.cl c)
  eq : ∃ g k, PySem.W.findIn T.K (.ref (T.cl c)) "__eq__" = some (some (.ref g)) ∧ PySem.W.isFn T.K (.ref g) = true ∧ FnX X T k g Sq ∧ RoomG (k + 1) X.A
  ne : PySem.W.findIn T.K (.ref (T.cl c)) "__ne__" = some (some (.builtin "object.__ne__"))
theorem see_looks {pins : List (Addr × Obj)} {s : Shared} {σ0 : L2.St} {nS : Nat} {d : D} {t : Value} {u : Value} (hK : X.K = T.K) (S : Sta T F B H σ G) (I : Inv X pins σ0 H s) (hcl : ∀ c, c < nS → SlX.SCls T.K (T.cl c) ∧ SlX.SIsi T.K (T.cl c)) (h : See T B H v d) (r : RelV v u) (et : tyV T nS d = some t) :
    PySem.W.Looks (model X.prog X.w) s.heap (typeOf u) t := by
  have go : ∀ {t'}, tyV T nS d = some t' → TyX X.K H v t' → PySem.W.Looks (model X.prog X.w) s.heap (typeOf u) t := fun {t'} e1 ty => by
    rw [et] at e1
    cases e1
    obtain ⟨P, Z, p, _⟩ := kit_of I r ty
    exact Z.ty _ _ I.kIn p
  cases d with
  | non =>
    cases (show Is T B v .non from h)
    exact go rfl (.base .non)
  | bl y =>
    cases (show Is T B v (.bl y) from h)
    exact go rfl (.base (.bl y))
  | int y =>
    cases (show Is T B v (.int y) from h)
    exact go rfl (.base (.int y))
  | str y =>
    cases (show Is T B v (.str y) from h)
    exact go rfl (.base (.str y))
  | tup ds =>
    obtain ⟨a, vs, rfl, ha, _⟩ := h
    exact go rfl (.base (.tup (S.bh _ _ ha)))
  | lst ds =>
    obtain ⟨a, vs, rfl, ha, _⟩ := h
    exact go rfl (.base (.lst ha))
  | dct ds =>
    obtain ⟨a, vs, rfl, ha, _⟩ := h
    rcases ha with ha | ⟨o, ha⟩
    · exact go rfl (.base (.dK ha))
    · exact go rfl (.fDict ha)
  | slt c fs =>
    obtain ⟨a, dx, vs, rfl, hs, l⟩ := slt_of (d := .non) S h
    have et : (if c < nS then some (Value.ref (T.cl c)) else none) = some t := et
    split at et
    · rename_i hc
      cases et
      cases (show u = Value.ref a from r)
      obtain ⟨sl, od, _, J, _⟩ := SlX.slt_inst I hs
      exact J.type
    · cases et
  | _ => cases et
def hasTy (nS : Nat) : D → Bool
  | .slt c _ => decide (c < nS)
  | .non => true
  | .bl _ => true
  | .int _ => true
  | .str _ => true
  | .tup _ => true
  | .lst _ => true
  | .dct _ => true
  | _ => false
theorem hasTy_some {nS : Nat} {d : D} (h : hasTy nS d = true) : ∃ t, tyV T nS d = some t := by
  cases d with
  | slt c fs =>
    have h : decide (c < nS) = true := h
    refine ⟨.ref (T.cl c), ?_⟩
    show (if c < nS then _ else _) = _
    rw [if_pos (of_decide_eq_true h)]
  | _ => first | exact ⟨_, rfl⟩ | cases h
@[simp ↓] def gEqO (nS c : Nat) (Sq : Spec) : G2 := fun G o p K => match o, p with
  | .imm (.slt c' fs), .imm d => c' = c ∧ hasTy nS d = true ∧ Sq [.imm (.slt c' fs), .imm d] (fun r _ => K r G) (fun _ _ _ => False)
  | _, _ => False
@[simp ↓] def gNeO (nS c : Nat) (Sq : Spec) : G2 := fun G o p K => match o, p with
  | .imm (.slt c' fs), .imm d => c' = c ∧ hasTy nS d = true ∧ Sq [.imm (.slt c' fs), .imm d] (fun r _ => match r with
    | .imm (.bl b) => K (.imm (.bl (!b))) G
    | _ => False) (fun _ _ _ => False)
  | _, _ => False
theorem call_G {A : Around} {pins : List (Addr × Obj)} {s : Shared} {k : Nat} {g : Addr} {sp : Sp} {Q : VK} {us : List Value} {ws : List V} {E' : Value → Shared → Prop} (Fn : FnG X.prog X.w X.K X.mg X.base (L2N.CX X.prog X.w) k g sp) (hr : RoomG k A) (e0 : Env0 X.prog X.w X.K X.mg X.base A X.stack s H)
    (I : Inv X pins σ H s) (r : Vals ws us) (h : sp ws H Q (fun _ _ _ => False)) : wpAny (model X.prog X.w) A (call (.ref g) us) (EP X pins σ Q) E' s := by
  refine wpAny_call (codeAny_mono (Fn A X.stack s H us ws Q _ hr e0 r h) fun r s' hq => ?_)
  cases r with
  | error e =>
    obtain ⟨_, _, _, _, _, _, _, _, _, _, _, _, z⟩ := hq
    exact z.elim
  | ok fl =>
    cases fl with
    | ret u => exact I.after hq
    | next => exact False.elim hq
    | brk => exact False.elim hq
    | cont => exact False.elim hq
/-- the raw rule: x an instance of the class c -/
def rEqO (T : Tab) (nS c : Nat) (Sq : Spec) (neg : Bool) : R2 := fun x y H Q => ∃ (F : Fr) (B : Hp) (σ : L2.St) (G : Lo) (fs : List D) (d : D), Sta T F B H σ G ∧ Is T B x (.slt c fs) ∧ Is T B y d ∧ hasTy nS d = true ∧
  spOf T Sq [x, y] H (fun v H' => if neg = true then ∃ b, v = .bl b ∧ Q (.bl (!b)) H' else Q v H') (fun _ _ _ => False)
theorem op_eqO {nS c : Nat} {Sq : Spec} (hK : X.K = T.K) (he : EqCls X T nS c Sq) : OpR X (compareOp .Eq) (rEqO T nS c Sq false) := by
  intro pins s σ H x y v u Q I rx ry h
  obtain ⟨F, B, σ', G, fs, d, S, ix, iy, ht, q⟩ := h
  obtain ⟨g, k, e1, e2, Fn, hr⟩ := he.eq
  obtain ⟨t, et⟩ := hasTy_some (T := T) ht
  have lk := see_looks hK S I he.cl (See.of S.bh iy) ry et
  obtain ⟨a, dx, vs, rfl, hs, l⟩ := slt_of (d := .non) S (show See T B H x (.slt c fs) from ix)
  obtain rfl : v = Value.ref a := rx
  obtain ⟨sl, od, _, J, _⟩ := SlX.slt_inst I hs
  obtain ⟨m, hF⟩ := I.fr
  rw [← hK] at e1 e2
  have hn := he.nt d t et
  rw [← hK] at hn
  show wpAny _ _ (richCompare .Eq (.ref a) u) _ _ _
  refine PySem.W.cmp_K (op := .Eq) (tb := t) hr.rm.units0 hF I.ok.mod.kin J lk hn e1 e2 ?_
  refine wpAny_mono (call_G Fn (hr.mono (Nat.le_succ k)) I.env0 I (us := [.ref a, u]) (ws := [.ref a, y]) (.cons rfl (.cons ry .nil)) q) (fun w s' z => ?_) fun _ _ x => x
  obtain ⟨z', H', I', rz, qz⟩ := z
  exact SlX.cmpback rz ⟨z', H', I', rz, by simpa using qz⟩
theorem op_neO {nS c : Nat} {Sq : Spec} (hK : X.K = T.K) (he : EqCls X T nS c Sq) : OpR X (compareOp .NotEq) (rEqO T nS c Sq true) := by
  intro pins s σ H x y v u Q I rx ry h
  obtain ⟨F, B, σ', G, fs, d, S, ix, iy, ht, q⟩ := h
  obtain ⟨g, k, e1, e2, Fn, hr⟩ := he.eq
  obtain ⟨t, et⟩ := hasTy_some (T := T) ht
  have lk := see_looks hK S I he.cl (See.of S.bh iy) ry et
  obtain ⟨a, dx, vs, rfl, hs, l⟩ := slt_of (d := .non) S (show See T B H x (.slt c fs) from ix)
  obtain rfl : v = Value.ref a := rx
  obtain ⟨sl, od, _, J, _⟩ := SlX.slt_inst I hs
  obtain ⟨m, hF⟩ := I.fr
  have hne := he.ne
  have hm := (he.cl c he.lo).2.cm
  rw [← hK] at e1 e2 hne hm
  have hn := he.nt d t et
  rw [← hK] at hn
  show wpAny _ _ (richCompare .NotEq (.ref a) u) _ _ _
  refine ne_K (tb := t) (by have := hr.rm.units; omega) hF I.ok.mod.kin J lk hn hne hm e1 e2 ?_
  refine wpAny_mono (call_G Fn hr.in1 I.env0.in1 I (us := [.ref a, u]) (ws := [.ref a, y]) (.cons rfl (.cons ry .nil)) q) (fun w s' z => ?_) fun _ _ x => x
  obtain ⟨z', H', I', rz, qz⟩ := z
  rw [if_pos rfl] at qz
  obtain ⟨b, rfl, qz⟩ := qz
  cases (show w = Value.bool b from rz)
  exact ⟨b, rfl, .bl (!b), H', I', rfl, qz⟩
theorem opd_eqO {nS c : Nat} {Sq : Spec} (hr : X.K = T.K → EqCls X T nS c Sq) : OpD X T F (compareOp .Eq) (gEqO nS c Sq) := by
  intro hK hc
  refine ⟨_, op_eqO hK (hr hK), fun B H σ G x y o p K Q S hx hy h k => ?_⟩
  unfold gEqO at h
  split at h
  · rename_i c' fs d
    obtain ⟨rfl, ht, h⟩ := h
    refine ⟨F, B, σ, G, fs, d, S, hx, hy, ht, B, _, [], _, _, S.bh, S.tb, .imm hx (.imm hy .nil), List.nodup_nil, h, fun v B' H' outs o r hr2 k2 => ?_, fun c d dv B' H' outs r hx k => k⟩
    simp only [Bool.false_eq_true, if_false]
    exact k _ _ (Post.called (is := []) (A1 := []) S trivial List.nodup_nil r hr2 (by unfold putB; exact k2))
  · exact h.elim
theorem opd_neO {nS c : Nat} {Sq : Spec} (hr : X.K = T.K → EqCls X T nS c Sq) : OpD X T F (compareOp .NotEq) (gNeO nS c Sq) := by
  intro hK hc
  refine ⟨_, op_neO hK (hr hK), fun B H σ G x y o p K Q S hx hy h k => ?_⟩
  unfold gNeO at h
  split at h
  · rename_i c' fs d
    obtain ⟨rfl, ht, h⟩ := h
    refine ⟨F, B, σ, G, fs, d, S, hx, hy, ht, B, _, [], _, _, S.bh, S.tb, .imm hx (.imm hy .nil), List.nodup_nil, h, fun v B' H' outs o r hr2 k2 => ?_, fun c d dv B' H' outs r hx k => k⟩
    dsimp only
    rw [if_pos rfl]
    split at k2
    · rename_i b
      cases hr2
      exact ⟨b, rfl, k _ _ (Post.called (is := []) (A1 := []) (o := .imm (.bl (!b))) S trivial List.nodup_nil r (.bl _) (by unfold putB; exact k2))⟩
    · exact k2.elim
  · exact h.elim
/-- == whatever the left side is: an instance of the class c, or data -/
@[simp ↓] def gOr (g g' : G2) (c : Nat) : G2 := fun G o p K => match o with
  | .imm (.slt c' fs) => if c' = c then g G o p K else g' G o p K
  | _ => g' G o p K
theorem OpD.sel {f : Value → Value → Sem Value} {g g' : G2} {c : Nat} (h : OpD X T F f g) (h' : OpD X T F f g') : OpD X T F f (gOr g g' c) := by
  intro hK hc
  obtain ⟨r, h1, h2⟩ := h hK hc
  obtain ⟨r', h1', h2'⟩ := h' hK hc
  refine ⟨_, h1.or h1', fun B H σ G x y o p K Q S hx hy q k => ?_⟩
  unfold gOr at q
  split at q
  · split at q
    · exact .inl (h2 B H σ G x y _ p K Q S hx hy q k)
    · exact .inr (h2' B H σ G x y _ p K Q S hx hy q k)
  · exact .inr (h2' B H σ G x y o p K Q S hx hy q k)

/-! ### a, b = e, f; xs[i] = e -/
@[simp ↓] def notOwn : Opd → Prop
  | .own _ => False
  | _ => True
@[simp ↓] def sPar2 (i j : Nat) (t u : RE) : RS := fun D G => t G fun o G1 => notOwn o ∧ u G1 fun p G2 => notOwn p ∧ match asg G2 i o with
  | some G3 => match asg G3 j p with
    | some G4 => D.nx G4
    | none => False
  | none => False
theorem ownat_new {i m : Nat} {s : Slot} {u : V} {a : Addr} (hl : i < σ.length) (h : OwnAt (σ.set i (some u)) (G.set i s) m a) : (m = i ∧ u = .ref a ∧ ∃ w, s = .own w ∨ ∃ k, s = .par k w) ∨ (m ≠ i ∧ OwnAt σ G m a) := by
  obtain ⟨h1, w, h2⟩ := h
  rw [get_setσ hl] at h1
  by_cases z : m = i
  · rw [if_pos z] at h1
    subst z
    refine .inl ⟨rfl, Option.some.inj (Option.some.inj h1), w, ?_⟩
    rcases h2 with h2 | ⟨k, h2⟩
    · rcases get_set h2 with ⟨_, e⟩ | ⟨e, _⟩
      · exact .inl e.symm
      · exact absurd rfl e
    · rcases get_set h2 with ⟨_, e⟩ | ⟨e, _⟩
      · exact .inr ⟨k, e.symm⟩
      · exact absurd rfl e
  · rw [if_neg z] at h1
    refine .inr ⟨z, h1, w, ?_⟩
    rcases h2 with h2 | ⟨k, h2⟩
    · rcases get_set h2 with ⟨e, _⟩ | ⟨_, e⟩
      · exact absurd e z
      · exact .inl e
    · rcases get_set h2 with ⟨e, _⟩ | ⟨_, e⟩
      · exact absurd e z
      · exact .inr ⟨k, e⟩
theorem pds_par {x y : Str} {px py pt : Pos} {kt k2 pt2} {e2 : Expr} (i j : Nat) (ha : PD X T F e ta) (hb : PD X T F e2 tb) (hN : X.N.Nodup) (hi : X.N[i]? = some x := by rfl) (hj : X.N[j]? = some y := by rfl) (hij : i ≠ j := by decide)
    (hx : X.env.scope.names.lookup x = some .local := by rfl) (hy : X.env.scope.names.lookup y = some .local := by rfl)
    (h1 : starEach [e, e2] X.env = (false, eval e X.env) :: starEach [e2] X.env := by rfl) (h2 : starEach [e2] X.env = (false, eval e2 X.env) :: starEach [] X.env := by rfl)
    (hw : swappedStores [.Tuple [.Name x px, .Name y py] kt pt] (.Tuple [e, e2] k2 pt2) X.env = pure (some [x, y]) := by rfl)
    (hs : swapsWithSole [.Tuple [.Name x px, .Name y py] kt pt] (.Tuple [e, e2] k2 pt2) pos.line X.env = pure false := by rfl) : PDS X T F (.Assign [.Tuple [.Name x px, .Name y py] kt pt] (.Tuple [e, e2] k2 pt2) pos) (sPar2 i j ta tb) := by
  refine ⟨fun hK hc B H σ G D S h pins s I => ?_⟩
  have hl : i < σ.length := by
    rw [I.len]
    exact (List.getElem?_eq_some_iff.mp hi).1
  have hl2 : j < σ.length := by
    rw [I.len]
    exact (List.getElem?_eq_some_iff.mp hj).1
  refine tGS_of (ps_par hc hN hi hj hij hx hy (pa_cons (pe_G X e) (pa_cons (pe_G X e2) pa_nil h2) h1) hw hs) ?_ pins s I
  refine tG_mono (ha.run hK hc B H σ G _ S h) fun v H1 ⟨B1, o, G1, S1, k1, w1, _, qo, q⟩ => ?_
  refine tG_mono (hb.run hK hc B1 H1 σ G1 _ S1 q) fun u H2 ⟨B2, p, G2, S2, k2, w2, n2, qp, q2⟩ => ?_
  refine ⟨v, u, rfl, ?_⟩
  have w1' := w1.keep k2
  cases e1 : asg G2 i o with
  | none =>
    rw [e1] at q2
    exact q2.elim
  | some G3 =>
    rw [e1] at q2
    have key : ∃ sl, G3 = G2.set i sl ∧ Sta T F B2 H2 (σ.set i (some v)) G3 ∧ ∀ a, H1 a = none → v = .ref a → ∀ w, sl = .own w ∨ (∃ k, sl = .par k w) → False := by
      have e0 := e1
      unfold asg at e1
      split at e1
      · cases e1
      · cases o with
        | own _ => exact qo.elim
        | imm d =>
          cases e1
          exact ⟨.imm d, rfl, S2.store hl ⟨v, rfl, w1'⟩ (fun p _ ⟨w, z⟩ => by rcases z with z | ⟨_, z⟩ <;> cases z), fun a _ _ w z => by rcases z with z | ⟨_, z⟩ <;> cases z⟩
        | new w =>
          cases e1
          obtain ⟨p', f1, bp, q', f, n⟩ := w1'
          subst f1
          refine ⟨.own w, rfl, S2.store hl ⟨p', rfl, bp, q', f⟩ (fun p' e2 _ j _ z => n ⟨j, by cases e2; exact z⟩), fun a ha hz _ _ => ?_⟩
          cases hz
          obtain ⟨p2, g1, _, g3, _⟩ := w1
          cases g1
          obtain ⟨y, hy⟩ := g3.there
          rw [ha] at hy
          cases hy
    obtain ⟨sl, eG, S3, hsl⟩ := key
    have w3 : OpdOk T F B2 H2 (σ.set i (some v)) G3 u p := by
      cases p with
      | own _ => exact qp.elim
      | imm d => exact w2
      | new w =>
        obtain ⟨a, f1, f2, f3, f4, f5⟩ := w2
        refine ⟨a, f1, f2, f3, f4, fun ⟨m, z⟩ => ?_⟩
        rw [eG] at z
        rcases ownat_new hl z with ⟨_, z2, w', z3⟩ | ⟨_, z2⟩
        · exact hsl a (n2 a w rfl f1) z2 w' z3
        · exact f5 ⟨m, z2⟩
    cases e4 : asg G3 j p with
    | none =>
      dsimp only at q2
      rw [e4] at q2
      exact q2.elim
    | some G4 =>
      dsimp only at q2
      rw [e4] at q2
      obtain ⟨B4, S4, b4⟩ := asg_ok S3 (by rw [List.length_set]; exact hl2) w3 e4
      exact ⟨B4, G4, S4, (k1.b.trans k2.b).trans b4, q2⟩
/-- x[e] = f, x a list of the frame's own -/
@[simp ↓] def sSetI (i : Nat) (ti tv : RE) : RS := fun D G => tFz tv G fun d G1 => (ownW G1 i).isSome = true ∧ ti G1 fun o G2 => match cont G2 o, ownW G2 i with
  | some (.int z), some (.lst ds) => match ixN ds.length z with
    | some k => D.nx (setO G2 i (.lst (ds.set k d)))
    | none => False
  | _, _ => False
theorem pds_seti {x : Str} {xp sp : Pos} {e2 : Expr} (i : Nat) (hi : PD X T F e2 tb) (hv : PD X T F e ta) (hN : X.N[i]? = some x := by rfl) (hvi : Vis X.env.scope x := by first | exact Or.inl rfl | exact Or.inr (Or.inl rfl) | exact Or.inr (Or.inr rfl)) (hd : (x == ("__debug__" : Str)) = false := by decide) (hcd : (x == ("__classdict__" : Str)) = false := by decide)
    (has : ∀ v, assign (.Subscript (.Name x xp) e2 sp) X.env v = (do
      let ov ← holding [v] (eval (.Name x xp) X.env)
      let iv ← holding [v, ov] (eval e2 X.env)
      standAt sp
      holding [v, ov, iv] (setItem ov iv v)
      release [v, ov, iv] []) := by intro _; rfl) (hs : swapsWithSole [.Subscript (.Name x xp) e2 sp] e pos.line X.env = pure false := by rfl) (hw : swappedStores [.Subscript (.Name x xp) e2 sp] e X.env = pure none := by rfl)
    (h1 : (assignEach [.Subscript (.Name x xp) e2 sp] X.env).map (·.2) = [assign (.Subscript (.Name x xp) e2 sp) X.env] := by rfl) : PDS X T F (.Assign [.Subscript (.Name x xp) e2 sp] e pos) (sSetI i tb ta) := by
  refine ⟨fun hK hc B H σ G D S h => tGS_of (ps_asg (pe_G X e) (pg_sub (pe_var (i := i) hN hvi hd hcd) (pe_G X e2) set_list has) hs hw h1) ?_⟩
  refine tG_mono (run_fz hv hK hc S h) fun v H1 ⟨B1, d, G1, S1, k1, w1, q⟩ => ?_
  obtain ⟨w0, hw0⟩ := Option.isSome_iff_exists.mp q.1
  obtain ⟨a, ha, _⟩ := own_at S1 hw0
  refine ⟨.ref a, ha, tG_mono (hi.run hK hc B1 H1 σ G1 _ S1 q.2) fun u H2 ⟨B2, o, G2, S2, k2, w2, _, q2⟩ => ?_⟩
  dsimp only at q2
  split at q2
  · rename_i z ds e1 e2
    split at q2
    · rename_i k ek
      obtain ⟨p, f1, f2, f3, vs, f4, f5⟩ := own_at S2 e2
      rw [ha] at f1
      cases f1
      cases see_int S2 w2 e1
      refine ⟨a, vs, z, k, rfl, rfl, f4, by rw [f5.length]; exact ek, ?_⟩
      have on : OwnIs T B2 (upd H2 a (.lst (vs.set k v))) a (.lst (ds.set k d)) := ⟨_, upd_same, f5.set (w1.mono k2.b) k⟩
      exact ⟨B2, _, S2.mut e2 f2 on, k1.b.trans k2.b, q2⟩
    · exact q2.elim
  · exact q2.elim
end
end Fx
end
section
set_option Elab.async false
set_option linter.all false
set_option maxRecDepth 100000
set_option maxHeartbeats 2000000
/-! Fx11: dict displays, items of dicts; calls by keywords -/
namespace Fx
open PySem PySem.Spec PyProof.Rows L2
section
variable {X : Cx} {T : Tab} {F : Fr} {a b c e : Expr} {es : List Expr} {pos : Pos} {ta tb tc te : RE}
variable {B B' H H' : Hp} {σ : L2.St} {G G' : Lo} {v : V} {o : Opd} {W : WD}

/-! ### {k: e, ..} -/
@[simp ↓] def keyOfD : D → Option Key
  | .str x => some (.inr x)
  | .int i => some (.inl i)
  | _ => none
def putD (es : List (Key × D)) (k : Key) (d : D) : List (Key × D) := if (es.any fun kv => decide (kv.1 = k)) = true then es.map (fun kv => if kv.1 = k then (kv.1, d) else kv) else es ++ [(k, d)]
def getD' (es : List (Key × D)) (k : Key) : Option D := (es.find? fun kv => decide (kv.1 = k)).map (·.2)
abbrev RPs := Lo → (List (Key × D) → Lo → Prop) → Prop
@[simp ↓] def tPNil : RPs := fun G K => K [] G
@[simp ↓] def tPCons (t u : RE) (r : RPs) : RPs := fun G K => tFz t G fun d G1 => tFz u G1 fun d' G2 => match keyOfD d with
  | some k => r G2 fun es G3 => K ((k, d') :: es) G3
  | none => False
def PostPs (T : Tab) (F : Fr) (B H : Hp) (σ : L2.St) (G : Lo) (K : List (Key × D) → Lo → Prop) : List (V × V) → Hp → Prop := fun ps H' => ∃ B' es kvs G', Sta T F B' H' σ G' ∧ Kp B H σ G B' H' G' ∧ ps = kvs.map (fun kv => (kV kv.1, kv.2)) ∧ IsK T B' kvs es ∧ K es G'
structure PDPs (X : Cx) (T : Tab) (F : Fr) (pos : Pos) (keys : List (Option Expr)) (values : List Expr) (trs : List (TE × TE)) (t : RPs) : Prop where
  pps : PPs X pos keys values trs
  run : X.K = T.K → X.calm = true → ∀ (B H : Hp) (σ : L2.St) (G : Lo) (K : List (Key × D) → Lo → Prop), Sta T F B H σ G → t G K → tPairs trs σ H (PostPs T F B H σ G K)
theorem tPairs_mono : ∀ {trs : List (TE × TE)} {Q Q' : List (V × V) → Hp → Prop} {σ : L2.St} {H : Hp}, (∀ p ∈ trs, (∀ σ H (Q Q' : VK), (∀ v H', Q v H' → Q' v H') → p.1 σ H Q → p.1 σ H Q') ∧ ∀ σ H (Q Q' : VK), (∀ v H', Q v H' → Q' v H') → p.2 σ H Q → p.2 σ H Q') → tPairs trs σ H Q → (∀ ps H', Q ps H' → Q' ps H') → tPairs trs σ H Q'
  | [], _, _, _, _, _, h, k => k _ _ h
  | (tk, tv) :: r, Q, Q', σ, H, m, h, k => by
    have m0 := m _ List.mem_cons_self
    refine m0.1 σ H _ _ (fun x H1 q => ?_) h
    refine m0.2 σ H1 _ _ (fun y H2 q => ?_) q
    exact tPairs_mono (fun p hp => m p (List.mem_cons_of_mem _ hp)) q fun ps H' z => k _ _ z
theorem pdp_nil : PDPs X T F pos [] [] [] tPNil := ⟨pps_nil, fun hK hc B H σ G K S h => ⟨B, [], [], G, S, Kp.refl, rfl, .nil, h⟩⟩
theorem key_of {d : D} {k : Key} (h : Is T B v d) (e : keyOfD d = some k) : v = kV k := by
  cases h with
  | str x =>
    cases e
    rfl
  | int i =>
    cases e
    rfl
  | _ => cases e
theorem tG_m {e : Expr} : ∀ σ H (Q Q' : VK), (∀ v H', Q v H' → Q' v H') → tG X e σ H Q → tG X e σ H Q' := fun _ _ _ _ k h => tG_mono h k
structure AllG (trs : List (TE × TE)) : Prop where
  m : ∀ p ∈ trs, (∀ σ H (Q Q' : VK), (∀ v H', Q v H' → Q' v H') → p.1 σ H Q → p.1 σ H Q') ∧ ∀ σ H (Q Q' : VK), (∀ v H', Q v H' → Q' v H') → p.2 σ H Q → p.2 σ H Q'
theorem pdp_cons {k x : Expr} {ks : List (Option Expr)} {xs : List Expr} {trs : List (TE × TE)} {tk tx : RE} {tr : RPs} (m : AllG trs) (hk : PD X T F k tk) (hx : PD X T F x tx) (hr : PDPs X T F pos ks xs trs tr) : PDPs X T F pos (some k :: ks) (x :: xs) ((tG X k, tG X x) :: trs) (tPCons tk tx tr) := by
  refine ⟨pps_cons (pe_G X k) (pe_G X x) hr.pps, fun hK hc B H σ G K S h => ?_⟩
  refine tG_mono (run_fz hk hK hc S h) fun v H1 ⟨B1, d, G1, S1, k1, i1, q⟩ => ?_
  refine tG_mono (run_fz hx hK hc S1 q) fun u H2 ⟨B2, d2, G2, S2, k2, i2, q2⟩ => ?_
  cases ek : keyOfD d with
  | none =>
    rw [ek] at q2
    exact q2.elim
  | some kk =>
    rw [ek] at q2
    refine tPairs_mono m.m (hr.run hK hc B2 H2 σ G2 _ S2 q2) fun ps H3 ⟨B3, es, kvs, G3, S3, k3, e3, i3, q3⟩ => ?_
    refine ⟨B3, (kk, d2) :: es, (kk, u) :: kvs, G3, S3, (k1.trans k2).trans k3, ?_, .cons (i2.mono k3.b) i3, q3⟩
    rw [e3, key_of i1 ek]
    rfl
theorem allG_nil : AllG [] := ⟨fun _ h => absurd h (by simp)⟩
theorem allG_cons {k x : Expr} {trs : List (TE × TE)} (m : AllG trs) : AllG ((tG X k, tG X x) :: trs) := ⟨fun p hp => by
  rcases List.mem_cons.mp hp with rfl | hp
  · exact ⟨tG_m, tG_m⟩
  · exact m.m p hp⟩
theorem IsK.ind {motive : List (Key × V) → List (Key × D) → Prop} (n : motive [] []) (c : ∀ (k : Key) (v : V) (d : D) (vs : List (Key × V)) (ds : List (Key × D)), Is T B v d → IsK T B vs ds → motive vs ds → motive ((k, v) :: vs) ((k, d) :: ds)) : ∀ {kvs : List (Key × V)} {es : List (Key × D)}, IsK T B kvs es → motive kvs es
  | _, _, .nil => n
  | _, _, .cons h t => c _ _ _ _ _ h t (IsK.ind n c t)
theorem isK_any {kvs : List (Key × V)} {es : List (Key × D)} (h : IsK T B kvs es) (k : Key) : (kvs.any fun kv => decide (kv.1 = k)) = es.any fun kv => decide (kv.1 = k) := by
  refine IsK.ind (motive := fun kvs es => (kvs.any fun kv => decide (kv.1 = k)) = es.any fun kv => decide (kv.1 = k)) rfl (fun k v d vs ds h t ih => ?_) h
  rw [List.any_cons, List.any_cons, ih]
theorem isK_app {kvs : List (Key × V)} {es : List (Key × D)} {k : Key} {d : D} (h : IsK T B kvs es) (hd : Is T B v d) : IsK T B (kvs ++ [(k, v)]) (es ++ [(k, d)]) :=
  IsK.ind (motive := fun kvs es => IsK T B (kvs ++ [(k, v)]) (es ++ [(k, d)])) (.cons hd .nil) (fun _ _ _ _ _ h t ih => .cons h ih) h
theorem isK_map {kvs : List (Key × V)} {es : List (Key × D)} {k : Key} {d : D} (h : IsK T B kvs es) (hd : Is T B v d) : IsK T B (kvs.map fun kv => if kv.1 = k then (kv.1, v) else kv) (es.map fun kv => if kv.1 = k then (kv.1, d) else kv) := by
  refine IsK.ind (motive := fun kvs es => IsK T B (kvs.map fun kv => if kv.1 = k then (kv.1, v) else kv) (es.map fun kv => if kv.1 = k then (kv.1, d) else kv)) .nil (fun k' v' d' vs ds h t ih => ?_) h
  rw [List.map_cons, List.map_cons]
  by_cases z : k' = k
  · rw [if_pos z, if_pos z]
    exact .cons hd ih
  · rw [if_neg z, if_neg z]
    exact .cons h ih
theorem isK_put {kvs : List (Key × V)} {es : List (Key × D)} {k : Key} {d : D} (h : IsK T B kvs es) (hd : Is T B v d) : IsK T B (putK kvs k v) (putD es k d) := by
  unfold putK putD
  rw [isK_any h k]
  split
  · exact isK_map h hd
  · exact isK_app h hd
def mergeD (es more : List (Key × D)) : List (Key × D) := more.foldl (fun acc kv => putD acc kv.1 kv.2) es
theorem isK_merge {more : List (Key × V)} {mo : List (Key × D)} (h : IsK T B more mo) : ∀ {kvs : List (Key × V)} {es : List (Key × D)}, IsK T B kvs es → IsK T B (mergeK kvs more) (mergeD es mo) :=
  IsK.ind (motive := fun more mo => ∀ {kvs : List (Key × V)} {es : List (Key × D)}, IsK T B kvs es → IsK T B (mergeK kvs more) (mergeD es mo)) (fun q => q) (fun k v d vs ds h t ih kvs es q => ih (isK_put (k := k) q h)) h
theorem isK_len {kvs : List (Key × V)} {es : List (Key × D)} (h : IsK T B kvs es) : kvs.length = es.length :=
  IsK.ind (motive := fun kvs es => kvs.length = es.length) rfl (fun k v d vs ds h t ih => by rw [List.length_cons, List.length_cons, ih]) h
theorem isK_get {kvs : List (Key × V)} {es : List (Key × D)} {k : Key} {d : D} (h : IsK T B kvs es) (e : getD' es k = some d) : ∃ v, valV kvs k = some v ∧ Is T B v d := by
  refine IsK.ind (motive := fun kvs es => getD' es k = some d → ∃ v, valV kvs k = some v ∧ Is T B v d) (fun e => by cases e) (fun k' v' d' vs ds h t ih e => ?_) h e
  by_cases z : k' = k
  · refine ⟨v', by unfold valV; simp [z], ?_⟩
    unfold getD' at e
    simp [z] at e
    rw [← e]
    exact h
  · have e2 : getD' ds k = some d := by
      unfold getD' at e ⊢
      simpa [z] using e
    obtain ⟨u, u1, u2⟩ := ih e2
    refine ⟨u, ?_, u2⟩
    unfold valV at u1 ⊢
    simpa [z] using u1
/-- an object that is nobody's is otherwise -/
theorem Sta.alter {p : Addr} {u : HO} (S : Sta T F B H σ G) (bp : B p = none) (f : F.H0 p = none) (nt : ∀ ps, H p ≠ some (.tbl ps)) (n : ¬ Ownd σ G p) : Sta T F B (upd H p u) σ G := by
  refine ⟨fun a o e => ?_, S.b0, fun a o e m n => ?_, fun a h => ?_, S.nb, S.len, fun i s e => ?_, S.dj, fun a h => there_upd (S.al a h), S.tb.write nt⟩
  · rw [upd_ne (ne_of_none e bp)]
    exact S.bh a o e
  · rw [upd_ne (ne_of_none e f)]
    exact S.h0 a o e m n
  · by_cases z : a = p
    · rw [z, upd_same]
      exact fun z => nomatch z
    · rw [upd_ne z]
      exact S.a0 a h
  · have q := S.sl i s e
    cases s with
    | no => exact trivial
    | imm d => exact q
    | own w =>
      obtain ⟨y, f1, f2, f3, f4⟩ := q
      have g : y ≠ p := fun z => n ⟨i, by rw [← z]; exact join_some f1, w, .inl e⟩
      exact ⟨y, f1, f2, f3.mono (Same.refl _) (upd_ne g), f4⟩
    | par k w =>
      obtain ⟨y, f1, f2, f3, f4⟩ := q
      have g : y ≠ p := fun z => n ⟨i, by rw [← z]; exact join_some f1, w, .inr ⟨k, e⟩⟩
      exact ⟨y, f1, f2, f3.mono (Same.refl _) (upd_ne g), f4⟩
@[simp ↓] def tDct (r : RPs) : RE := fun G K => r G fun es G1 => es.length ≤ 15 ∧ K (.new (.dct (mergeD [] es))) G1
theorem pd_dct {keys : List (Option Expr)} {values : List Expr} {trs : List (TE × TE)} {tr : RPs} (m : AllG trs) (h : PDPs X T F pos keys values trs tr) (hall : keys.all (·.isSome) = true := by rfl) (hl : keys.length = values.length := by rfl) (h0 : keys ≠ [] := by exact List.cons_ne_nil _ _) (h15 : keys.length ≤ 15 := by decide) :
    PD X T F (.Dict keys values pos) (tDct tr) := by
  refine ⟨fun hK hc B H σ G K S q => tG_of (pe_disp h.pps hall hl h0 h15) fun p hp => ?_⟩
  have no := S.notOwn hp
  have f : F.H0 p = none := by
    cases e : F.H0 p with
    | none => rfl
    | some o => exact absurd hp (S.alive (by rw [e]; exact fun z => nomatch z))
  refine tPairs_mono m.m (h.run hK hc B _ σ G _ (S.freshN (u := .dK []) hp) q) fun ps H1 ⟨B1, es, kvs, G1, S1, k1, e1, i1, q1⟩ => ?_
  have e2 : H1 p = some (.dK []) := k1.h p _ upd_same (nt_dK _) no
  have b1 : B1 p = none := k1.n p (by rw [upd_same]; exact fun z => nomatch z) (S.bh.free hp) no
  have n1 : ¬ Ownd σ G1 p := fun z => no (k1.g _ z)
  refine ⟨e2, kvs, e1, by rw [isK_len i1]; exact q1.1, ?_⟩
  have kk : Kp B H σ G B1 (upd H1 p (.dK (mergeK [] kvs))) G1 := by
    have k2 := (Kp.freshN (B := B) (u := .dK []) hp).trans k1
    refine ⟨k2.b, fun a o e nt na => ?_, k2.n, k2.g, fun a ha => ?_⟩
    · rw [upd_ne (ne_of_none e hp)]
      exact k2.h a o e nt na
    · by_cases z : a = p
      · exact absurd hp (by rw [← z]; exact ha)
      · rw [upd_ne z]
        exact k2.t a ha
  have on : OwnIs T B1 (upd H1 p (.dK (mergeK [] kvs))) p (.dct (mergeD [] es)) := ⟨_, upd_same, isK_merge i1 .nil⟩
  exact ⟨B1, .new (.dct (mergeD [] es)), G1, S1.alter b1 f (some_nt e2 (nt_dK _)) n1, kk, ⟨p, rfl, b1, on, f, n1⟩, fun p' w _ e => by cases e; exact hp, q1.2⟩
/-- d[k], d a dict -/
@[simp ↓] def tIxD (t u : RE) : RE := fun G K => t G fun o G1 => u G1 fun p G2 => match cont G2 o, cont G2 p with
  | some (.dct es), some d => match keyOfD d with
    | some k => match getD' es k with
      | some d' => K (.imm d') G2
      | none => False
    | none => False
  | _, _ => False
theorem pd_ixD (hu : X.A.units + 1 < cLine) (ha : PD X T F a ta) (hb : PD X T F b tb) (hs : NoSl b := by intro _ _; rfl) : PD X T F (.Subscript a b pos) (tIxD ta tb) := by
  refine ⟨fun hK hc B H σ G K S h => tG_of (pe_dget hu (pe_G X a) (pe_G X b) hs) ?_⟩
  refine tG_mono (ha.run hK hc B H σ G _ S h) fun x H1 ⟨B1, o, G1, S1, k1, w1, _, q⟩ => ?_
  refine tG_mono (hb.run hK hc B1 H1 σ G1 _ S1 q) fun y H2 ⟨B2, p, G2, S2, k2, w2, _, q2⟩ => ?_
  dsimp only at q2
  split at q2
  · rename_i es d e1 e2
    split at q2
    · rename_i k ek
      split at q2
      · rename_i d' ed
        obtain ⟨a', kvs, rfl, ha', l⟩ := S2.see (w1.keep k2) e1
        have sy := S2.see w2 e2
        have ey : y = kV k := by
          cases d with
          | str z => exact key_of (show Is T B2 y (.str z) from sy) ek
          | int z => exact key_of (show Is T B2 y (.int z) from sy) ek
          | _ => cases ek
        obtain ⟨u, u1, u2⟩ := isK_get l ed
        refine ⟨a', u, rfl, ?_, Post.more (k1.trans k2) (Post.imm S2 u2 q2)⟩
        have g := dget_rd (k := k) ha'
        rw [u1] at g
        rw [ey]
        exact g
      · exact q2.elim
    · exact q2.elim
  · exact q2.elim

/-! ### calls by keywords alone -/
def tGK (X : Cx) (kws : List Keyword) : TA := fun σ H Q => ∀ (pos : Pos) (pins : List (Addr × Obj)) (s : Shared), Inv X pins σ H s → wpAny (model X.prog X.w) X.A (evalAll ((backToKw pos (keywordEach kws X.env)).map (·.2))) (AP X pins σ Q) X.xe s
theorem pk_G (kws : List Keyword) : PK X kws (tGK X kws) := ⟨fun pos pins s σ H Q I h => h pos pins s I⟩
theorem AP.mono {pins : List (Addr × Obj)} {Q Q' : List V → Hp → Prop} {us : List Value} {s : Shared} (h : AP X pins σ Q us s) (k : ∀ vs H, Q vs H → Q' vs H) : AP X pins σ Q' us s := by
  obtain ⟨vs, H, I, r, q⟩ := h
  exact ⟨vs, H, I, r, k _ _ q⟩
theorem tGK_mono {kws : List Keyword} {Q Q' : List V → Hp → Prop} (h : tGK X kws σ H Q) (k : ∀ vs H', Q vs H' → Q' vs H') : tGK X kws σ H Q' := fun pos pins s I => thn (h pos pins s I) fun us s1 q => AP.mono q k
structure PDK (X : Cx) (T : Tab) (F : Fr) (kws : List Keyword) (t : RQ) : Prop where
  run : X.K = T.K → X.calm = true → ∀ (B H : Hp) (σ : L2.St) (G : Lo) (K : List ArgS → Lo → Prop), Sta T F B H σ G → t G K → tGK X kws σ H (PostQ T F B H σ G K)
theorem pdk_nil : PDK X T F [] tQNil := ⟨fun hK hc B H σ G K S h pos pins s I => pk_nil.run pos pins s σ H _ I ⟨B, [], G, S, Kp.refl, .nil, h⟩⟩
theorem pdk_fz {kws : List Keyword} {nm : Option Str} {kpos : Pos} {tr : RQ} (ha : PD X T F e te) (hr : PDK X T F kws tr) : PDK X T F (⟨nm, e, kpos⟩ :: kws) (tQF te tr) := by
  refine ⟨fun hK hc B H σ G K S h pos pins s I => (pk_cons (pe_G X e) (pk_G kws)).run pos pins s σ H _ I ?_⟩
  refine tG_mono (run_fz ha hK hc S h) fun v H1 ⟨B1, d, G1, S1, k1, i1, q⟩ => ?_
  refine tGK_mono (hr.run hK hc B1 H1 σ G1 _ S1 q) fun vs H2 ⟨B2, ds, G2, S2, k2, i2, q2⟩ => ?_
  exact ⟨B2, _, G2, S2, k1.trans k2, .imm (i1.mono k2.b) i2, q2⟩
@[simp ↓] def pick {α : Type} (ix : List Nat) (l : List α) : List α := ix.filterMap fun i => l[i]?
theorem vals_pick {zs : List V} {ws : List Value} (h : Vals zs ws) : ∀ ix : List Nat, Vals (pick ix zs) (pick ix ws)
  | [] => .nil
  | i :: ix => by
    unfold pick
    rw [List.filterMap_cons, List.filterMap_cons]
    cases e : zs[i]? with
    | none =>
      have e2 : ws[i]? = none := by
        rw [List.getElem?_eq_none_iff] at e ⊢
        rw [← h.length]
        exact e
      rw [e2]
      exact vals_pick h ix
    | some x =>
      obtain ⟨u, u1, u2⟩ := h.get e
      rw [u1]
      exact .cons u2 (vals_pick h ix)
theorem QsOk.get {vs : List V} {qs : List ArgS} (h : QsOk T B σ vs qs) : ∀ i : Nat, (vs[i]? = none ∧ qs[i]? = none) ∨ ∃ v q, vs[i]? = some v ∧ qs[i]? = some q ∧ QsOk T B σ [v] [q] := by
  induction h with
  | nil => exact fun i => .inl ⟨by simp, by simp⟩
  | imm h t ih =>
    intro i
    cases i with
    | zero => exact .inr ⟨_, _, rfl, rfl, .imm h .nil⟩
    | succ i => simpa using ih i
  | slot h t ih =>
    intro i
    cases i with
    | zero => exact .inr ⟨_, _, rfl, rfl, .slot h .nil⟩
    | succ i => simpa using ih i
theorem QsOk.cons {v : V} {q : ArgS} {vs : List V} {qs : List ArgS} (h : QsOk T B σ [v] [q]) (t : QsOk T B σ vs qs) : QsOk T B σ (v :: vs) (q :: qs) := by
  cases h with
  | imm h _ => exact .imm h t
  | slot h _ => exact .slot h t
theorem QsOk.pick {vs : List V} {qs : List ArgS} (h : QsOk T B σ vs qs) : ∀ ix : List Nat, QsOk T B σ (Fx.pick ix vs) (Fx.pick ix qs)
  | [] => .nil
  | i :: ix => by
    unfold Fx.pick
    rw [List.filterMap_cons, List.filterMap_cons]
    rcases h.get i with ⟨e1, e2⟩ | ⟨v, q, e1, e2, k⟩
    · rw [e1, e2]
      exact QsOk.pick h ix
    · rw [e1, e2]
      exact k.cons (QsOk.pick h ix)
theorem QsOk.mono {vs : List V} {qs : List ArgS} (e : Same B B') (h : QsOk T B σ vs qs) : QsOk T B' σ vs qs := by
  induction h with
  | nil => exact .nil
  | imm h t ih => exact .imm (h.mono e) ih
  | slot h t ih => exact .slot h ih
theorem QsOk.append {vs ws : List V} {qs rs : List ArgS} (h : QsOk T B σ vs qs) (k : QsOk T B σ ws rs) : QsOk T B σ (vs ++ ws) (qs ++ rs) := by
  induction h with
  | nil => exact k
  | imm h t ih => exact .imm h ih
  | slot h t ih => exact .slot h ih
theorem QsOk.length {vs : List V} {qs : List ArgS} (h : QsOk T B σ vs qs) : vs.length = qs.length := by
  induction h with
  | nil => rfl
  | imm h t ih => rw [List.length_cons, List.length_cons, ih]
  | slot h t ih => rw [List.length_cons, List.length_cons, ih]
/-- n positional arguments, the rest by the keywords ks, ix their places -/
def KwB (K : PySem.W.Frag) (fd : FuncData) (ps : List Str) (n : Nat) (ks : List Str) (ix : List Nat) : Prop :=
  ∀ (s : Shared) (us ws : List Value), K.In s.heap → us.length = n → ws.length = ks.length → BindsTo s fd ⟨us, ks.zip ws⟩ (ps.zip (us ++ pick ix ws))
abbrev FnKX (X : Cx) (T : Tab) (k : Nat) (f : Addr) (fd : FuncData) (ps : List Str) (Sq : Spec) : Prop := FnGO X.prog X.w X.K X.mg X.base (L2N.CX X.prog X.w) k f fd ps (spOf T Sq)
theorem run_fnK {pins : List (Addr × Obj)} {s : Shared} {k n : Nat} {f : Addr} {fd : FuncData} {ps ks : List Str} {ix : List Nat} {sp : Sp} {E : XK} {Q : VK} {us ws : List Value} {vs zs : List V} (Fn : FnGO X.prog X.w X.K X.mg X.base (L2N.CX X.prog X.w) k f fd ps sp) (hr : RoomG k X.A) (hb : KwB X.K fd ps n ks ix)
    (hx : PassesAt (L2N.CX X.prog X.w) X σ E) (I : Inv X pins σ H s) (r : Vals vs us) (rz : Vals zs ws) (l1 : vs.length = n) (l2 : zs.length = ks.length) (h : sp (vs ++ pick ix zs) H Q E) : wpAny (model X.prog X.w) X.A (call (.ref f) us (ks.zip ws)) (EP X pins σ Q) X.xe s := by
  refine wpAny_call (codeAny_mono (Fn.run X.A X.stack s H ⟨us, ks.zip ws⟩ (us ++ pick ix ws) (vs ++ pick ix zs) Q E hr I.env0 (hb s us ws I.kIn (r.length.symm.trans l1) (rz.length.symm.trans l2)) (r.append (vals_pick rz ix)) h) fun r s' hq => ?_)
  cases r with
  | error e => exact hx pins H s e s' I hq
  | ok fl =>
    cases fl with
    | ret u => exact I.after hq
    | next => exact False.elim hq
    | brk => exact False.elim hq
    | cont => exact False.elim hq
@[simp ↓] def tCallK0 (Sq : Spec) (W : WD) (n : Nat) (ix : List Nat) (rk : RQ) : RE := fun G K => rk G fun qs G1 => qs.length = n ∧ tSpec Sq W G1 (pick ix qs) K
/-- f(k = v, ..) -/
theorem pd_callK0 {Sq : Spec} {k : Nat} {f : Addr} {fd : FuncData} {ps ks : List Str} {ix : List Nat} {x : Str} {p : Pos} {kws : List Keyword} {tr : RQ} (Fn : FnKX X T k f fd ps Sq) (hb : KwB X.K fd ps 0 ks ix) (hr : RoomG k X.A) (hm : X.mg x = some (.ref f)) (hk : PySem.W.keepIn X.K (.ref f) = true) (hp : PassD X T F W)
    (ha : PDK X T F kws tr) (hg : Gl X x := by rfl) (hall : (backToKw pos (keywordEach kws X.env)).all (·.1.isSome) = true := by rfl) (hks : (backToKw pos (keywordEach kws X.env)).filterMap (·.1) = ks := by rfl) (hdb : (x == ("__debug__" : Str)) = false := by decide)
    (hpl : ((backTo pos (starEach [] X.env)).any (·.1) || (backToKw pos (keywordEach kws X.env)).any (·.1.isNone)) = false := by rfl) : PD X T F (.Call (.Name x p) [] kws pos) (tCallK0 Sq W ks.length ix tr) := by
  refine ⟨fun hK hc B H σ G K S h pins s I => ?_⟩
  refine wpAny_Call_Name_kw (ld_glob I hg hm ?_ hdb)
  refine PySem.W.callWith_KW0 (h₀ := X.base) I.ok.mod.kin hk hall ?_ hpl
  refine thn (ha.run hK hc B H σ G _ S h pos pins s I) fun ws s1 ⟨zs, H1, I1, r, B1, qs, G1, S1, k1, h1, l2, q⟩ => ⟨I1.kIn, ?_⟩
  rw [hks]
  exact thn (run_fnK (us := []) (vs := []) Fn hr hb (hp.at σ) I1 .nil r rfl (h1.length.trans l2) (spec_sp S1 (h1.pick ix) q)) fun u s2 ⟨v, H2, I2, rv, y⟩ => ⟨v, H2, I2, rv, Post.more k1 y⟩
@[simp ↓] def tCallPK (Sq : Spec) (W : WD) (n m : Nat) (ix : List Nat) (r rk : RQ) : RE := fun G K => r G fun qs G1 => rk G1 fun qk G2 => qs.length = n ∧ qk.length = m ∧ tSpec Sq W G2 (qs ++ pick ix qk) K
/-- f(e, .., k = v, ..) -/
theorem pd_callPK {Sq : Spec} {k n : Nat} {f : Addr} {fd : FuncData} {ps ks : List Str} {ix : List Nat} {x : Str} {p : Pos} {kws : List Keyword} {tr tk : RQ} (Fn : FnKX X T k f fd ps Sq) (hb : KwB X.K fd ps n ks ix) (hr : RoomG k X.A) (hm : X.mg x = some (.ref f)) (hk : PySem.W.keepIn X.K (.ref f) = true) (hp : PassD X T F W)
    (hes : PDQ X T F (e :: es) tr) (ha : PDK X T F kws tk) (hg : Gl X x := by rfl) (hall : (backToKw pos (keywordEach kws X.env)).all (·.1.isSome) = true := by rfl) (hks : (backToKw pos (keywordEach kws X.env)).filterMap (·.1) = ks := by rfl) (hdb : (x == ("__debug__" : Str)) = false := by decide)
    (he : starEach (e :: es) X.env = (false, eval e X.env) :: starEach es X.env := by rfl) (hpl : ((backTo pos (starEach (e :: es) X.env)).any (·.1) || (backToKw pos (keywordEach kws X.env)).any (·.1.isNone)) = false := by rfl) : PD X T F (.Call (.Name x p) (e :: es) kws pos) (tCallPK Sq W n ks.length ix tr tk) := by
  refine ⟨fun hK hc B H σ G K S h pins s I => ?_⟩
  refine wpAny_Call_Name_kw (ld_glob I hg hm ?_ hdb)
  refine PySem.W.callWith_KW (h₀ := X.base) I.ok.mod.kin hk hall (thn (hes.run hK hc B H σ G _ S h pos pins s I) fun us s1 ⟨vs, H1, I1, r, B1, qs, G1, S1, k1, h1, q⟩ => ?_) hpl he
  refine thn (ha.run hK hc B1 H1 σ G1 _ S1 q pos pins s1 I1) fun ws s2 ⟨zs, H2, I2, rz, B2, qk, G2, S2, k2, h2, l1, l2, q2⟩ => ⟨I2.kIn, ?_⟩
  rw [hks]
  exact thn (run_fnK Fn hr hb (hp.at σ) I2 r rz (h1.length.trans l1) (h2.length.trans l2) (spec_sp S2 ((h1.mono k2.b).append (h2.pick ix)) q2)) fun u s3 ⟨v, H3, I3, rv, y⟩ => ⟨v, H3, I3, rv, Post.more (k1.trans k2) y⟩
@[simp ↓] def tMakeK0 (Sq : Spec) (W : WD) (c n m : Nat) (ix : List Nat) (rk : RQ) : RE := fun G K => rk G fun qs G1 => qs.length = m ∧ tSpecM Sq W c n G1 (pick ix qs) K
/-- C(k = v, ..) -/
theorem pd_makeK0 {Sq : Spec} {k : Nat} {f : Addr} {fd : FuncData} {ps ks : List Str} {ix : List Nat} {x : Str} {p : Pos} {kws : List Keyword} {tr : RQ} (c n : Nat) (M : Mk X.K (T.cl c) f) (Fn : FnKX X T k f fd ps Sq) (hb : KwB X.K fd ps 1 ks ix) (hr : RoomG (k + 1) X.A) (hm : X.mg x = some (.ref (T.cl c))) (hp : PassD X T F W)
    (ha : PDK X T F kws tr) (hg : Gl X x := by rfl) (hall : (backToKw pos (keywordEach kws X.env)).all (·.1.isSome) = true := by rfl) (hks : (backToKw pos (keywordEach kws X.env)).filterMap (·.1) = ks := by rfl) (hdb : (x == ("__debug__" : Str)) = false := by decide)
    (hpl : ((backTo pos (starEach [] X.env)).any (·.1) || (backToKw pos (keywordEach kws X.env)).any (·.1.isNone)) = false := by rfl) : PD X T F (.Call (.Name x p) [] kws pos) (tMakeK0 Sq W c n ks.length ix tr) := by
  refine ⟨fun hK hc B H σ G K S h pins s I => ?_⟩
  refine wpAny_Call_Name_kw (ld_glob I hg hm ?_ hdb)
  refine PySem.W.callWith_KW0 (h₀ := X.base) I.ok.mod.kin M.kp hall ?_ hpl
  refine thn (ha.run hK hc B H σ G _ S h pos pins s I) fun ws s1 ⟨zs, H1, I1, r, B1, qs, G1, S1, k1, h1, l2, q⟩ => ⟨I1.kIn, ?_⟩
  rw [hks]
  have hx := I1.hok.fresh (Nat.le_succ s1.heap.objs.size)
  have hd := I1.hok.fresh (Nat.le_refl s1.heap.objs.size)
  have ne : s1.heap.objs.size ≠ s1.heap.objs.size + 1 := Nat.ne_of_lt (Nat.lt_succ_self _)
  have hq := specM_sp S1 (h1.pick ix) q hx hd ne
  have I2 := Inv.made (C := T.cl c) I1
  have hs1 : SlX.Slt (upd (upd H1 s1.heap.objs.size (.own (s1.heap.objs.size + 1))) (s1.heap.objs.size + 1) (.ins (T.cl c) s1.heap.objs.size [])) (s1.heap.objs.size + 1) (T.cl c) s1.heap.objs.size [] := .inl ⟨upd_same, rfl⟩
  obtain ⟨_, sl, mA, e0, _⟩ := SlX.slt_at I2 hs1
  have I3 := SlX.inv_slot (vs' := []) (sl' := sl) (t' := s1.toks) I2 hs1 (fun b o _ _ e => e) (fun m hm => hm) e0 (SlX.SlR.nil sl)
  rw [slH_new hx hd ne] at I3
  refine wpAny_call (make_map (f := f) I1.kIn M.makes M.init (beq_iff_eq.mp M.fn) (codeAny_mono (Fn.run _ X.stack _ _ ⟨Value.ref (s1.heap.objs.size + 1) :: [], ks.zip ws⟩ (Value.ref (s1.heap.objs.size + 1) :: pick ix ws) (.ref (s1.heap.objs.size + 1) :: pick ix zs) _ _ (hr.make (T.cl c) [] (ks.zip ws))
    (I3.env0.make (T.cl c) [] (ks.zip ws)) (hb _ [Value.ref (s1.heap.objs.size + 1)] ws I3.kIn rfl (r.length.symm.trans (h1.length.trans l2))) (.cons rfl (vals_pick r ix)) hq) fun r s' hq' => ?_))
  cases r with
  | error e => exact hp.at σ pins _ _ e s' I3 hq'
  | ok fl =>
    cases fl with
    | ret u =>
      obtain ⟨v, H', I4, rv, ev, q3⟩ := I3.after hq'
      subst ev
      exact ⟨rv, ⟨V.ref (s1.heap.objs.size + 1), H', I4, rfl, Post.more k1 q3⟩⟩
    | next => exact False.elim hq'
    | brk => exact False.elim hq'
    | cont => exact False.elim hq'
end
end Fx
end
section
set_option Elab.async false
set_option linter.all false
set_option maxRecDepth 100000
set_option maxHeartbeats 2000000
/-! Fx12: what the printed texts lean on -/
namespace Fx
open PySem PySem.Spec PyProof.Rows L2
section
variable {X : Cx} {T : Tab} {F : Fr} {a b c e : Expr} {es : List Expr} {pos : Pos} {ta tb tc te : RE}
variable {B B' H H' : Hp} {σ : L2.St} {G G' : Lo} {v : V} {o : Opd} {W : WD}
/-! ### nothing is raised -/
@[simp ↓] def wN : WD := fun _ _ _ => False
theorem pN : PassD X T F wN := fun u s' ⟨_, _, _, _, _, _, _, _, _, _, _, _, _, _, _, _, ⟨_, _, _, _, _, _, _, z⟩⟩ => z.elim
/-! ### for over a list, a tuple or a text -/
def iAnyL (K : PySem.W.Frag) (tl : TE) : TI := fun σ H R => tl σ H fun x H1 => (∃ a, x = .ref a ∧ (∃ xs, SqL K H1 a xs) ∧ R (Itl K a) H1) ∨ (∃ a, x = .ref a ∧ (∃ xs, SqT K H1 a xs) ∧ R (Itt K a) H1) ∨ ∃ y, x = .str y ∧ R (Its y) H1
theorem pi_any {tg l : Expr} {tl : TE} (hl : PE X l tl) : PI X tg l (iAnyL X.K tl) := by
  refine ⟨fun pins s σ H R I h => ?_⟩
  refine thn (hl.run pins s σ H _ I h) fun v s1 ⟨x, H1, I1, r1, q1⟩ => ?_
  rcases q1 with ⟨a, e, ⟨xs, hq⟩, q⟩ | ⟨a, e, ⟨xs, hq⟩, q⟩ | ⟨y, e, q⟩
  · subst e
    cases r1
    obtain ⟨its, rv, p, hz⟩ := I1.list hq
    refine wpAny_pyIter_list p.isList ?_
    refine ⟨s1.heap.objs.size, [s1.heap.objs.size], _, _, H1, rfl, I1.kept (t' := s1.toks) fun b o e => Heap.get?_push_of_some _ e, turn_list a _, ⟨_, Heap.get?_push_size _ rfl, rfl, rfl⟩, fun b hb => ?_, q⟩
    have e : b = s1.heap.objs.size := by simpa using hb
    subst e
    exact I1.fpOk (Nat.le_refl _) (I1.hok.fresh (Nat.le_refl _))
  · subst e
    cases r1
    obtain ⟨its, rv, p, hz⟩ := I1.tuple hq
    refine wpAny_pyIter_tuple (show s1.heap.IsTuple a its.toArray from p) ?_
    refine ⟨s1.heap.objs.size, [s1.heap.objs.size], _, _, H1, rfl, I1.kept (t' := s1.toks) fun b o e => Heap.get?_push_of_some _ e, turn_tuple a _, ⟨_, Heap.get?_push_size _ rfl, rfl, rfl⟩, fun b hb => ?_, q⟩
    have e : b = s1.heap.objs.size := by simpa using hb
    subst e
    exact I1.fpOk (Nat.le_refl _) (I1.hok.fresh (Nat.le_refl _))
  · subst e
    obtain ⟨t, rfl⟩ := r1
    cases ha : y.cps.all (· < 128)
    · exact wpAny_pyIter_wide ha (pi_one (tk := s1.toks) I1 _ (turn_str _ y t "str_iterator" (.inr rfl)) ⟨_, Heap.get?_push_size _ rfl, rfl, rfl⟩ q)
    · exact wpAny_pyIter_ascii ha (pi_one (tk := s1.toks) I1 _ (turn_str _ y t "str_ascii_iterator" (.inl rfl)) ⟨_, Heap.get?_push_size _ rfl, rfl, rfl⟩ q)
@[simp ↓] def iAny (te : RE) : RI := fun G K => tFz te G fun d G1 => match d with
  | .lst ds => K ds G1
  | .tup ds => K ds G1
  | .str x => K (charsD x) G1
  | _ => False
theorem pdi_any {tg : Expr} (he : PD X T F e te) : PDI X T F tg e (iAny te) := by
  refine ⟨fun hK hc B H σ G K S h => tGI_of (pi_any (pe_G X e)) (tG_mono (run_fz he hK hc S h) fun v H1 ⟨B1, d, G1, S1, k1, i1, q⟩ => ?_)⟩
  split at q
  · cases i1 with
    | lst h2 l => exact .inl ⟨_, rfl, ⟨_, SqL.of (S1.bh _ _ h2)⟩, ⟨B1, _, G1, S1, k1, by rw [hK]; exact ito_list h2 l, q⟩⟩
  · cases i1 with
    | tup h2 l => exact .inr (.inl ⟨_, rfl, ⟨_, SqT.of (S1.bh _ _ h2)⟩, ⟨B1, _, G1, S1, k1, by rw [hK]; exact ito_tup h2 l, q⟩⟩)
  · cases i1
    exact .inr (.inr ⟨_, rfl, ⟨B1, _, G1, S1, k1, ito_str _, q⟩⟩)
  · exact q.elim
/-! ### names of the module -/
theorem pd_gs {x : Str} {i : Str} (hm : ∃ t, X.mg x = some (.str i t)) (hg : Gl X x := by rfl) (hd : (x == ("__debug__" : Str)) = false := by decide) : PD X T F (.Name x pos) (tC (.str i)) := by
  obtain ⟨t, hm⟩ := hm
  exact pd_gstr hm hg hd
theorem pd_gi {x : Str} {i : Int} (hm : ∃ t, X.mg x = some (.int i t)) (hg : Gl X x := by rfl) (hd : (x == ("__debug__" : Str)) = false := by decide) : PD X T F (.Name x pos) (tC (.int i)) := by
  obtain ⟨t, hm⟩ := hm
  exact pd_gint hm hg hd
end
/-! ### isinstance -/
@[simp ↓] def tyN : D → Option String
  | .non => some "NoneType"
  | .bl _ => some "bool"
  | .int _ => some "int"
  | .str _ => some "str"
  | .tup _ => some "tuple"
  | .lst _ => some "list"
  | .dct _ => some "dict"
  | _ => none
/-- of the built-in type n; nS classes with slots, none below n -/
def isTy (nS : Nat) (n : String) : D → Option Bool
  | .slt c _ => if c < nS then some false else none
  | d => (tyN d).bind fun m => kitB m n
/-- of the own class c, which has no classes below -/
@[simp ↓] def isOwn (nS : Nat) (c : Nat) : D → Option Bool
  | .slt c' _ => if c' < nS then some (decide (c' = c)) else none
  | d => (tyN d).map fun _ => false
theorem kitTy_ok {T : Tab} {nS : Nat} {n : String} (h : ∀ c, c < nS → PySem.W.kitOne T.K (.ref (T.cl c)) (.type n) = some false) : KitD T nS (.type n) (isTy nS n) := by
  intro d b e
  cases d with
  | slt c fs =>
    have e : (if c < nS then some false else none) = some b := e
    split at e
    · rename_i hc
      cases e
      refine ⟨.ref (T.cl c), ?_, h c hc⟩
      show (if c < nS then _ else _) = _
      rw [if_pos hc]
    · cases e
  | non => exact ⟨_, rfl, kit_ty e⟩
  | bl _ => exact ⟨_, rfl, kit_ty e⟩
  | int _ => exact ⟨_, rfl, kit_ty e⟩
  | str _ => exact ⟨_, rfl, kit_ty e⟩
  | tup _ => exact ⟨_, rfl, kit_ty e⟩
  | lst _ => exact ⟨_, rfl, kit_ty e⟩
  | dct _ => exact ⟨_, rfl, kit_ty e⟩
  | _ => cases e
theorem kitOwn_blt {K : PySem.W.Frag} {C : Addr} {m : String} (hc : ((PySem.W.clsIn K C).isSome && PySem.W.typeIn K (.ref C) == some (.type "type")) = true) (hs : PySem.W.subIn K (.type m) (.ref C) = some false) : PySem.W.kitOne K (.type m) (.ref C) = some false := by
  unfold PySem.W.kitOne
  have e : (Value.type m == Value.ref C) = false := by simp
  rw [e]
  simp only [Bool.false_eq_true, if_false]
  show (if ((PySem.W.clsIn K C).isSome && PySem.W.typeIn K (.ref C) == some (.type "type")) = true then PySem.W.subIn K (.type m) (.ref C) else none) = _
  rw [if_pos hc, hs]
theorem kitOwn_ok {T : Tab} {nS c : Nat} (hc : ((PySem.W.clsIn T.K (T.cl c)).isSome && PySem.W.typeIn T.K (.ref (T.cl c)) == some (.type "type")) = true) (h : ∀ c', c' < nS → PySem.W.kitOne T.K (.ref (T.cl c')) (.ref (T.cl c)) = some (decide (c' = c))) : KitD T nS (.ref (T.cl c)) (isOwn nS c) := by
  intro d b e
  obtain ⟨s1, s2, s3, s4, s5, s6, s7⟩ := sub_blt (K := T.K) (C := T.cl c)
  cases d with
  | slt c' fs =>
    have e : (if c' < nS then some (decide (c' = c)) else none) = some b := e
    split at e
    · rename_i hc'
      cases e
      refine ⟨.ref (T.cl c'), ?_, h c' hc'⟩
      show (if c' < nS then _ else _) = _
      rw [if_pos hc']
    · cases e
  | non => cases e; exact ⟨_, rfl, kitOwn_blt hc s4⟩
  | bl _ => cases e; exact ⟨_, rfl, kitOwn_blt hc s3⟩
  | int _ => cases e; exact ⟨_, rfl, kitOwn_blt hc s2⟩
  | str _ => cases e; exact ⟨_, rfl, kitOwn_blt hc s1⟩
  | tup _ => cases e; exact ⟨_, rfl, kitOwn_blt hc s5⟩
  | lst _ => cases e; exact ⟨_, rfl, kitOwn_blt hc s6⟩
  | dct _ => cases e; exact ⟨_, rfl, kitOwn_blt hc s7⟩
  | _ => cases e
theorem notFirst_ok {T : Tab} {nS c : Nat} (h : ∀ c', c' < nS → PySem.W.notFirst T.K (T.cl c) (.ref (T.cl c')) = true) : ∀ d t, tyV T nS d = some t → PySem.W.notFirst T.K (T.cl c) t = true := by
  intro d t e
  obtain ⟨s1, s2, s3, s4, s5, s6, s7⟩ := sub_blt (K := T.K) (C := T.cl c)
  have go : ∀ {m : String}, PySem.W.subIn T.K (.type m) (.ref (T.cl c)) = some false → PySem.W.notFirst T.K (T.cl c) (.type m) = true := fun hs => by
    unfold PySem.W.notFirst
    rw [hs]
    simp
  cases d with
  | slt c' fs =>
    have e : (if c' < nS then some (Value.ref (T.cl c')) else none) = some t := e
    split at e
    · rename_i hc'
      cases e
      exact h c' hc'
    · cases e
  | non => cases e; exact go s4
  | bl _ => cases e; exact go s3
  | int _ => cases e; exact go s2
  | str _ => cases e; exact go s1
  | tup _ => cases e; exact go s5
  | lst _ => cases e; exact go s6
  | dct _ => cases e; exact go s7
  | _ => cases e
theorem kwB_of {K : PySem.W.Frag} {x qual : Str} {st : Stmt} {f : Addr} {fd : FuncData} {ps ks : List Str} {n : Nat} {ix : List Nat} (D : FnP K x qual st f fd)
    (h : ∀ (kV doc pm : Value) (an : Option Addr) (cdv ct : Value) (us ws : List Value), us.length = n → ws.length = ks.length → bindArgs (PySem.W.fnOf x qual (defArgs st) (defBody st) (defScope st) .none kV doc pm an cdv ct) ⟨us, ks.zip ws⟩ = pure (ps.zip (us ++ pick ix ws))) : KwB K fd ps n ks ix := by
  obtain ⟨oc, od, dV, kV, doc, pm, an, cdv, ct, osl, rfl, lk, hcd, hD, hK⟩ := D.ex
  rcases hD with ⟨_, rfl⟩ | ⟨e, _⟩
  · exact fun s us ws _ h1 h2 => .of_eq (h kV doc pm an cdv ct us ws h1 h2)
  · exact absurd rfl e
theorem RoomG.u1 {k : Nat} {A : Around} (r : RoomG k A) : A.units + 1 < cLine := by
  have := r.rm.units
  omega
/-- the names of a comprehension's block, as a Bool -/
def blkB (N : List Str) (sc scope : Scope) (own : List (Str × Nat)) : Bool := decide (scope.kind = .function) && (scope.names.all (fun y => decide (scope.names.lookup y.1 = some y.2)) && (own.all (fun p => decide (N[p.2]? = some p.1)) &&
  (scope.names.all (fun y => !decide (y.2 = .free) || (decide (sc.names.lookup y.1 = some .cell) || decide (sc.names.lookup y.1 = some .free))) && scope.names.all (fun y => !(decide (y.2 = .local) || decide (y.2 = .cell)) || (decide (y.1 ∈ own.map (·.1)) || !decide (y.1 ∈ N))))))
theorem blk_of {N : List Str} {sc scope : Scope} {own : List (Str × Nat)} (h : blkB N sc scope own = true) : BlkOk N sc scope own := by
  obtain ⟨h1, h⟩ := ba h
  obtain ⟨h2, h⟩ := ba h
  obtain ⟨h3, h⟩ := ba h
  obtain ⟨h4, h5⟩ := ba h
  refine ⟨of_decide_eq_true h1, fun y hy => of_decide_eq_true (List.all_eq_true.mp h2 y hy), fun p hp => of_decide_eq_true (List.all_eq_true.mp h3 p hp), fun y hy e => ?_, fun y hy e => ?_⟩
  · have q := List.all_eq_true.mp h4 y hy
    simp only [e, decide_true, Bool.not_true, Bool.false_or, Bool.or_eq_true, decide_eq_true_eq] at q
    exact q
  · have q := List.all_eq_true.mp h5 y hy
    simp only [Bool.or_eq_true, Bool.not_eq_true', Bool.or_eq_false_iff, decide_eq_false_iff_not, decide_eq_true_eq] at q
    rcases q with q | q
    · rcases e with e | e
      · exact absurd e q.1
      · exact absurd e q.2
    · exact q
end Fx
end
section
set_option Elab.async false
set_option linter.all false
set_option maxRecDepth 100000
set_option maxHeartbeats 2000000
/-! Fx13: methods of slot instances, own operators, len and items of own classes -/
namespace Fx
open PySem PySem.Spec PyProof.Rows L2
section
variable {X : Cx} {T : Tab} {F : Fr} {a b c e : Expr} {es : List Expr} {pos : Pos} {ta tb tc te : RE}
variable {B B' H H' : Hp} {σ : L2.St} {G G' : Lo} {v : V} {o : Opd} {W : WD}
/-! ### o.m(..) -/
@[simp ↓] def tMthD (c : Nat) (Sq : Spec) (W : WD) (t : RE) (r : RQ) : RE := fun G K => tFz t G fun d G1 => match d with
  | .slt c' fs => c' = c ∧ r G1 fun qs G2 => tSpec Sq W G2 (.imm (.slt c' fs) :: qs) K
  | _ => False
theorem pd_meth {m : Str} {g : Addr} {k : Nat} {Sq : Spec} {tr : RQ} {o : Expr} {apos : Pos} {pl : Sem Bool} (c : Nat) (he : PD X T F o te) (hc : SlX.SCls X.K (T.cl c)) (hm : Meth X.K (T.cl c) m g) (Fn : FnX X T k g Sq) (hr : RoomG k X.A) (hp : PassD X T F W) (ha : PDQ X T F (e :: es) tr)
    (hst : starEach (e :: es) X.env = (false, eval e X.env) :: starEach es X.env := by rfl) (hpl : (backTo pos (starEach es X.env)).any (·.1) = false := by rfl)
    (ht : eval (.Call (.Attribute o m apos) (e :: es) [] pos) X.env = (do
      let ov ← eval o X.env
      standAt apos.atName
      let (f, first) ← holding [ov] (getMethod ov m pl)
      callWith pos f first (backTo pos (starEach (e :: es) X.env)) (backToKw pos (keywordEach [] X.env))) := by rfl) :
    PD X T F (.Call (.Attribute o m apos) (e :: es) [] pos) (tMthD c Sq W te tr) := by
  refine ⟨fun hK hcm B H σ G K S h pins s I => ?_⟩
  refine PySem.W.methodCall_KW (pl := pl) (thn (run_fz he hK hcm S h pins s I) fun u s1 ⟨v, H1, I1, rx, B1, d, G1, S1, k1, w, q⟩ => ?_) ht
  split at q
  · rename_i c' fs
    obtain ⟨rfl, q⟩ := q
    obtain ⟨a, dx, vs, rfl, hs, l⟩ := slt_of (d := .non) S1 (show See T B1 H1 v (.slt c' fs) from w)
    obtain rfl : u = Value.ref a := rx
    refine SlX.getmethsl_ok I1 hs hc hm ?_
    refine PySem.W.callWith_K (first := [.ref a]) (h₀ := X.base) I.ok.mod.kin hm.kp (thn (ha.run hK hcm B1 H1 σ G1 _ S1 q pos pins s1 I1) fun us s2 ⟨vs, H2, I2, r, B2, qs, G2, S2, k2, h2, q2⟩ => ⟨I2.kIn, ?_⟩) hst hpl
    exact thn (run_fnX (us := .ref a :: us) (vs := .ref a :: vs) Fn hr (hp.at σ) I2 (.cons rfl r) (spec_sp S2 (.imm (w.mono k2.b) h2) q2)) fun u s3 ⟨v, H3, I3, rv, y⟩ => ⟨v, H3, I3, rv, Post.more (k1.trans k2) y⟩
  · exact q.elim
theorem pd_meth0 {m : Str} {g : Addr} {k : Nat} {Sq : Spec} {o : Expr} {apos : Pos} {pl : Sem Bool} (c : Nat) (he : PD X T F o te) (hc : SlX.SCls X.K (T.cl c)) (hm : Meth X.K (T.cl c) m g) (Fn : FnX X T k g Sq) (hr : RoomG k X.A) (hp : PassD X T F W)
    (ht : eval (.Call (.Attribute o m apos) [] [] pos) X.env = (do
      let ov ← eval o X.env
      standAt apos.atName
      let (f, first) ← holding [ov] (getMethod ov m pl)
      callWith pos f first (backTo pos (starEach [] X.env)) (backToKw pos (keywordEach [] X.env))) := by rfl) :
    PD X T F (.Call (.Attribute o m apos) [] [] pos) (tMthD c Sq W te tQNil) := by
  refine ⟨fun hK hcm B H σ G K S h pins s I => ?_⟩
  refine PySem.W.methodCall_KW (pl := pl) (thn (run_fz he hK hcm S h pins s I) fun u s1 ⟨v, H1, I1, rx, B1, d, G1, S1, k1, w, q⟩ => ?_) ht
  split at q
  · rename_i c' fs
    obtain ⟨rfl, q⟩ := q
    obtain ⟨a, dx, vs, rfl, hs, l⟩ := slt_of (d := .non) S1 (show See T B1 H1 v (.slt c' fs) from w)
    obtain rfl : u = Value.ref a := rx
    refine SlX.getmethsl_ok I1 hs hc hm ?_
    refine PySem.W.callWith_K0 (first := [.ref a]) I1.kIn hm.kp ?_
    exact thn (run_fnX (us := [.ref a]) (vs := [.ref a]) Fn hr (hp.at σ) I1 (.cons rfl .nil) (spec_sp S1 (.imm w .nil) q)) fun u s3 ⟨v, H3, I3, rv, y⟩ => ⟨v, H3, I3, rv, Post.more k1 y⟩
  · exact q.elim
/-- o.m(k = v, ..) -/
@[simp ↓] def tMthK (c : Nat) (Sq : Spec) (W : WD) (n : Nat) (ix : List Nat) (t : RE) (rk : RQ) : RE := fun G K => tFz t G fun d G1 => match d with
  | .slt c' fs => c' = c ∧ rk G1 fun qs G2 => qs.length = n ∧ tSpec Sq W G2 (.imm (.slt c' fs) :: pick ix qs) K
  | _ => False
theorem pd_methK {m : Str} {g : Addr} {k : Nat} {fd : FuncData} {ps ks : List Str} {ix : List Nat} {Sq : Spec} {kws : List Keyword} {tr : RQ} {o : Expr} {apos : Pos} {pl : Sem Bool} (c : Nat) (he : PD X T F o te) (hc : SlX.SCls X.K (T.cl c)) (hm : Meth X.K (T.cl c) m g) (Fn : FnKX X T k g fd ps Sq) (hb : KwB X.K fd ps 1 ks ix) (hr : RoomG k X.A) (hp : PassD X T F W) (ha : PDK X T F kws tr)
    (hall : (backToKw pos (keywordEach kws X.env)).all (·.1.isSome) = true := by rfl) (hks : (backToKw pos (keywordEach kws X.env)).filterMap (·.1) = ks := by rfl)
    (hpl : ((backTo pos (starEach [] X.env)).any (·.1) || (backToKw pos (keywordEach kws X.env)).any (·.1.isNone)) = false := by rfl)
    (ht : eval (.Call (.Attribute o m apos) [] kws pos) X.env = (do
      let ov ← eval o X.env
      standAt apos.atName
      let (f, first) ← holding [ov] (getMethod ov m pl)
      callWith pos f first (backTo pos (starEach [] X.env)) (backToKw pos (keywordEach kws X.env))) := by rfl) :
    PD X T F (.Call (.Attribute o m apos) [] kws pos) (tMthK c Sq W ks.length ix te tr) := by
  refine ⟨fun hK hcm B H σ G K S h pins s I => ?_⟩
  refine PySem.W.methodCall_KW (pl := pl) (thn (run_fz he hK hcm S h pins s I) fun u s1 ⟨v, H1, I1, rx, B1, d, G1, S1, k1, w, q⟩ => ?_) ht
  split at q
  · rename_i c' fs
    obtain ⟨rfl, q⟩ := q
    obtain ⟨a, dx, vs, rfl, hs, l⟩ := slt_of (d := .non) S1 (show See T B1 H1 v (.slt c' fs) from w)
    obtain rfl : u = Value.ref a := rx
    refine SlX.getmethsl_ok I1 hs hc hm ?_
    refine PySem.W.callWith_KW0 (first := [.ref a]) (h₀ := X.base) I.ok.mod.kin hm.kp hall ?_ hpl
    refine thn (ha.run hK hcm B1 H1 σ G1 _ S1 q pos pins s1 I1) fun ws s2 ⟨zs, H2, I2, r, B2, qs, G2, S2, k2, h2, l2, q2⟩ => ⟨I2.kIn, ?_⟩
    rw [hks]
    exact thn (run_fnK (us := [.ref a]) (vs := [.ref a]) Fn hr hb (hp.at σ) I2 (.cons rfl .nil) r rfl (h2.length.trans l2) (spec_sp S2 (.imm (w.mono k2.b) (h2.pick ix)) q2)) fun u s3 ⟨v, H3, I3, rv, y⟩ => ⟨v, H3, I3, rv, Post.more (k1.trans k2) y⟩
  · exact q.elim
/-! ### ~o, an own __invert__ -/
@[simp ↓] def tInvD (c : Nat) (Sq : Spec) (t : RE) : RE := fun G K => tFz t G fun d G1 => match d with
  | .slt c' fs => c' = c ∧ Sq [.imm (.slt c' fs)] (fun r _ => K r G1) (fun _ _ _ => False)
  | _ => False
theorem un_inv {C g : Addr} {k : Nat} {sp : Sp} (hs : PySem.W.findIn X.K (.ref C) "__invert__" = some (some (.ref g))) (hf : PySem.W.isFn X.K (.ref g) = true) (Fn : FnG X.prog X.w X.K X.mg X.base (L2N.CX X.prog X.w) k g sp) (hr : RoomG k X.A) :
    UnR X (unaryOp .Invert) (fun x H Q => ∃ a dx vs, x = .ref a ∧ SlX.Slt H a C dx vs ∧ sp [x] H Q (fun _ _ _ => False)) := by
  intro pins s σ H x v Q I rx h
  obtain ⟨a, dx, vs, rfl, ha, q⟩ := h
  obtain rfl : v = Value.ref a := rx
  obtain ⟨sl, od, _, J, _⟩ := SlX.slt_inst I ha
  obtain ⟨m, hF⟩ := I.fr
  exact PySem.W.ksp_inv hF I.ok.mod.kin J hs hf (call_G Fn hr I.env0 I (us := [.ref a]) (ws := [.ref a]) (.cons rfl .nil) q)
theorem pd_inv {g : Addr} {k : Nat} {Sq : Spec} (c : Nat) (hs : PySem.W.findIn X.K (.ref (T.cl c)) "__invert__" = some (some (.ref g))) (hf : PySem.W.isFn X.K (.ref g) = true) (Fn : FnX X T k g Sq) (hr : RoomG k X.A) (ha : PD X T F a ta) : PD X T F (.UnaryOp .Invert a pos) (tInvD c Sq ta) := by
  refine ⟨fun hK hc B H σ G K S h => tG_of (pe_un (un_inv hs hf Fn hr) (pe_G X a)) ?_⟩
  refine tG_mono (run_fz ha hK hc S h) fun v H1 ⟨B1, d, G1, S1, k1, w, q⟩ => ?_
  split at q
  · rename_i c' fs
    obtain ⟨rfl, q⟩ := q
    obtain ⟨a, dx, vs, rfl, hsl, l⟩ := slt_of (d := .non) S1 (show See T B1 H1 v (.slt c' fs) from w)
    refine ⟨a, dx, _, rfl, hsl, B1, _, [], _, _, S1.bh, S1.tb, .imm w .nil, List.nodup_nil, q, fun v B' H' outs o r hr2 k2 => ?_, fun c d dv B' H' outs r hx k => k⟩
    exact Post.more k1 (Post.called (is := []) (A1 := []) S1 trivial List.nodup_nil r hr2 (by unfold putB; exact k2))
  · exact q.elim
/-! ### x op y of one own class -/
@[simp ↓] def gOwn (c : Nat) (Sq : Spec) : G2 := fun G o p K => match o, p with
  | .imm (.slt c1 fs), .imm (.slt c2 gs) => c1 = c ∧ c2 = c ∧ Sq [.imm (.slt c1 fs), .imm (.slt c2 gs)] (fun r _ => K r G) (fun _ _ _ => False)
  | _, _ => False
theorem op_ownB {op : Operator} {C g : Addr} {k : Nat} {sp : Sp} (hc : PySem.W.selfFirst X.K C = true) (hs : PySem.W.findIn X.K (.ref C) (PySem.dunder op.info.2) = some (some (.ref g))) (hf : PySem.W.isFn X.K (.ref g) = true) (Fn : FnG X.prog X.w X.K X.mg X.base (L2N.CX X.prog X.w) k g sp) (hr : RoomG k X.A) :
    OpR X (binaryOp op) (fun x y H Q => ∃ a dx vs b dy ws, x = .ref a ∧ y = .ref b ∧ SlX.Slt H a C dx vs ∧ SlX.Slt H b C dy ws ∧ sp [x, y] H Q (fun _ _ _ => False)) := by
  intro pins s σ H x y v u Q I rx ry h
  obtain ⟨a, dx, vs, b, dy, ws, rfl, rfl, ha, hb, q⟩ := h
  obtain rfl : v = Value.ref a := rx
  obtain rfl : u = Value.ref b := ry
  obtain ⟨sl, od, _, J, _⟩ := SlX.slt_inst I ha
  obtain ⟨sl', od', _, J', _⟩ := SlX.slt_inst I hb
  obtain ⟨m, hF⟩ := I.fr
  refine PySem.W.binop_K hF I.ok.mod.kin J J'.type hc hs hf ?_
  refine wpAny_mono (call_G Fn hr I.env0 I (us := [.ref a, .ref b]) (ws := [.ref a, .ref b]) (.cons rfl (.cons rfl .nil)) q) (fun w s' z => ?_) fun _ _ x => x
  obtain ⟨z', H', I', rz, qz⟩ := z
  exact SlX.cmpback rz ⟨z', H', I', rz, qz⟩
theorem opd_own {op : Operator} {g : Addr} {k : Nat} {Sq : Spec} (c : Nat) (hc : PySem.W.selfFirst X.K (T.cl c) = true) (hs : PySem.W.findIn X.K (.ref (T.cl c)) (PySem.dunder op.info.2) = some (some (.ref g))) (hf : PySem.W.isFn X.K (.ref g) = true) (Fn : FnX X T k g Sq) (hr : RoomG k X.A) : OpD X T F (binaryOp op) (gOwn c Sq) := by
  intro hK hcm
  refine ⟨_, op_ownB hc hs hf Fn hr, fun B H σ G x y o p K Q S hx hy h hq => ?_⟩
  unfold gOwn at h
  split at h
  · rename_i c1 fs c2 gs
    obtain ⟨rfl, rfl, h⟩ := h
    obtain ⟨a, dx, vs, rfl, hsl, l⟩ := slt_of (d := .non) S (show See T B H x (.slt c2 fs) from hx)
    obtain ⟨b, dy, ws, rfl, hsl2, l2⟩ := slt_of (d := .non) S (show See T B H y (.slt c2 gs) from hy)
    refine ⟨a, dx, _, b, dy, _, rfl, rfl, hsl, hsl2, B, _, [], _, _, S.bh, S.tb, .imm hx (.imm hy .nil), List.nodup_nil, h, fun v B' H' outs o r hr2 k2 => ?_, fun c d dv B' H' outs r hx k => k⟩
    exact hq _ _ (Post.called (is := []) (A1 := []) S trivial List.nodup_nil r hr2 (by unfold putB; exact k2))
  · exact h.elim
/-! ### len(o) by an own __len__ -/
@[simp ↓] def gLenO (c : Nat) (Sq : Spec) : GC := fun G os K => match os with
  | [.imm (.slt c' fs)] => c' = c ∧ Sq [.imm (.slt c' fs)] (fun r _ => ∃ n : Nat, r = .imm (.int n) ∧ n < 2 ^ 63 ∧ K r G) (fun _ _ _ => False)
  | _ => False
theorem call_lenO {C g : Addr} {k : Nat} {sp : Sp} (hs : PySem.W.findIn X.K (.ref C) "__len__" = some (some (.ref g))) (hf : PySem.W.isFn X.K (.ref g) = true) (Fn : FnG X.prog X.w X.K X.mg X.base (L2N.CX X.prog X.w) k g sp) (hr : RoomG (k + 1) X.A) :
    CallR X (.builtin "len") (fun xs H Q => ∃ a dx vs, xs = [.ref a] ∧ SlX.Slt H a C dx vs ∧ sp [.ref a] H (fun v H' => ∃ n : Nat, v = .int n ∧ n < 2 ^ 63 ∧ Q v H') (fun _ _ _ => False)) := by
  intro pins s σ H xs us Q I r h
  obtain ⟨a, dx, vs, rfl, ha, q⟩ := h
  obtain ⟨u, rfl, ru⟩ := r.one
  obtain rfl : u = Value.ref a := ru
  obtain ⟨sl, od, _, J, _⟩ := SlX.slt_inst I ha
  obtain ⟨m, hF⟩ := I.fr
  refine PySem.W.len_K hF I.ok.mod.kin J hs hf ?_
  refine wpAny_mono (call_G Fn hr.in1 I.env0.in1 I (us := [.ref a]) (ws := [.ref a]) (.cons rfl .nil) q) (fun w s' z => ?_) fun _ _ x => x
  obtain ⟨z', H', I', rz, n, e, hn, qz⟩ := z
  subst e
  obtain ⟨t, rfl⟩ := (show ∃ t, w = Value.int (n : Int) t from rz)
  exact ⟨⟨by omega, by exact_mod_cast hn⟩, ⟨.int n, H', I'.tok _, ⟨_, rfl⟩, qz⟩⟩
theorem cd_lenO {g : Addr} {k : Nat} {Sq : Spec} (c : Nat) (hs : PySem.W.findIn X.K (.ref (T.cl c)) "__len__" = some (some (.ref g))) (hf : PySem.W.isFn X.K (.ref g) = true) (Fn : FnX X T k g Sq) (hr : RoomG (k + 1) X.A) : CallD X T F (.builtin "len") (gLenO c Sq) := by
  intro hK hcm
  refine ⟨_, call_lenO hs hf Fn hr, fun B H σ G vs os K Q S hos h hq => ?_⟩
  unfold gLenO at h
  split at h
  · rename_i c' fs
    obtain ⟨rfl, h⟩ := h
    cases hos with
    | cons h1 t =>
      cases t
      have w : Is T B _ (.slt c' fs) := h1
      obtain ⟨a, dx, ws, rfl, hsl, l⟩ := slt_of (d := .non) S (show See T B H _ (.slt c' fs) from w)
      refine ⟨a, dx, _, rfl, hsl, B, _, [], _, _, S.bh, S.tb, .imm w .nil, List.nodup_nil, h, fun v B' H' outs o r hr2 k2 => ?_, fun c d dv B' H' outs r hx k => k⟩
      obtain ⟨n, rfl, hn, k2⟩ := k2
      cases hr2
      exact ⟨n, rfl, hn, hq _ _ (Post.called (is := []) (A1 := []) (o := .imm (.int n)) S trivial List.nodup_nil r (.int _) (by unfold putB; exact k2))⟩
  · exact h.elim
/-! ### o[i] by an own __getitem__ -/
@[simp ↓] def tItmD (c : Nat) (Sq : Spec) (W : WD) (t u : RE) : RE := fun G K => tFz t G fun d G1 => match d with
  | .slt c' fs => c' = c ∧ tFz u G1 fun d2 G2 => Sq [.imm (.slt c' fs), .imm d2] (fun r _ => K r G2) (fun c d _ => W c d G2)
  | _ => False
end
end Fx
end
section
set_option Elab.async false
set_option linter.all false
set_option maxRecDepth 100000
set_option maxHeartbeats 2000000
/-! Fx14: dicts of the frame's own: stores, in; None in a row of data; set(a) == set(b) -/
namespace Fx
open PySem PySem.Spec PyProof.Rows L2
section
variable {X : Cx} {T : Tab} {F : Fr} {a b c e : Expr} {es : List Expr} {pos : Pos} {ta tb tc te : RE}
variable {B B' H H' : Hp} {σ : L2.St} {G G' : Lo} {v : V} {o : Opd} {W : WD}
/-! ### d[k] = e -/
@[simp ↓] def sSetK (i : Nat) (ti tv : RE) : RS := fun D G => tFz tv G fun d G1 => (ownW G1 i).isSome = true ∧ ti G1 fun o G2 => match cont G2 o, ownW G2 i with
  | some kd, some (.dct es) => match keyOfD kd with
    | some k => es.length < 1000 ∧ D.nx (setO G2 i (.dct (putD es k d)))
    | none => False
  | _, _ => False
theorem key_see {d : D} {k : Key} (S : Sta T F B H σ G) (h : OpdOk T F B H σ G v o) (e : cont G o = some d) (ek : keyOfD d = some k) : v = kV k := by
  have sy := S.see h e
  cases d with
  | str z => exact key_of (show Is T B v (.str z) from sy) ek
  | int z => exact key_of (show Is T B v (.int z) from sy) ek
  | _ => cases ek
theorem pds_setk {x : Str} {xp sp : Pos} {e2 : Expr} (hu : X.A.units + 1 < cLine) (i : Nat) (hi : PD X T F e2 tb) (hv : PD X T F e ta) (hN : X.N[i]? = some x := by rfl) (hvi : Vis X.env.scope x := by first | exact Or.inl rfl | exact Or.inr (Or.inl rfl) | exact Or.inr (Or.inr rfl)) (hd : (x == ("__debug__" : Str)) = false := by decide) (hcd : (x == ("__classdict__" : Str)) = false := by decide)
    (hs : swapsWith e (some (.Subscript (.Name x xp) e2 sp)) pos.line X.env = pure false := by rfl) : PDS X T F (.Assign [.Subscript (.Name x xp) e2 sp] e pos) (sSetK i tb ta) := by
  refine ⟨fun hK hc B H σ G D S h => tGS_of (ps_dput hu (pe_var (i := i) hN hvi hd hcd) (pe_G X e2) (pe_G X e) hs) ?_⟩
  refine tG_mono (run_fz hv hK hc S h) fun v H1 ⟨B1, d, G1, S1, k1, w1, q⟩ => ?_
  obtain ⟨w0, hw0⟩ := Option.isSome_iff_exists.mp q.1
  obtain ⟨a, ha, _⟩ := own_at S1 hw0
  refine ⟨.ref a, ha, tG_mono (hi.run hK hc B1 H1 σ G1 _ S1 q.2) fun u H2 ⟨B2, o, G2, S2, k2, w2, _, q2⟩ => ?_⟩
  dsimp only at q2
  split at q2
  · rename_i kd es e1 e2
    split at q2
    · rename_i k ek
      obtain ⟨hl, q2⟩ := q2
      obtain ⟨p, f1, f2, f3, kvs, f4, f5⟩ := own_at S2 e2
      rw [ha] at f1
      cases f1
      have ey := key_see S2 w2 e1 ek
      subst ey
      refine ⟨a, _, rfl, DPut.k f4 (by rw [isK_len f5]; exact Nat.lt_of_lt_of_le hl (by rw [sizeLine_eq]; decide)), ?_⟩
      have on : OwnIs T B2 (upd H2 a (.dK (putK kvs k v))) a (.dct (putD es k d)) := ⟨_, upd_same, isK_put f5 (w1.mono k2.b)⟩
      exact ⟨B2, _, S2.mut e2 f2 on, k1.b.trans k2.b, q2⟩
    · exact q2.elim
  · exact q2.elim
/-! ### k in d -/
def hasD (es : List (Key × D)) (k : Key) : Bool := es.any fun kv => decide (kv.1 = k)
@[simp ↓] def gInK : G2 := fun G o p K => match cont G o, cont G p with
  | some kd, some (.dct es) => match keyOfD kd with
    | some k => K (.imm (.bl (hasD es k))) G
    | none => False
  | _, _ => False
@[simp ↓] def gNotInK : G2 := fun G o p K => match cont G o, cont G p with
  | some kd, some (.dct es) => match keyOfD kd with
    | some k => K (.imm (.bl (!hasD es k))) G
    | none => False
  | _, _ => False
theorem or_inK (hu : X.A.units + 1 < cLine) : OpR X (compareOp .In) (fun y x H Q => ∃ a o, x = .ref a ∧ DGet H a y o ∧ Q (.bl o.isSome) H) := by
  intro pins s σ H y x u v Q I ry rx h
  obtain ⟨a, ov, rfl, g, q⟩ := h
  obtain rfl : v = Value.ref a := rx
  exact d_in hu I g ry fun s3 I3 => ⟨.bl ov.isSome, H, I3, rfl, q⟩
theorem or_notInK (hu : X.A.units + 1 < cLine) : OpR X (compareOp .NotIn) (fun y x H Q => ∃ a o, x = .ref a ∧ DGet H a y o ∧ Q (.bl (!o.isSome)) H) := by
  intro pins s σ H y x u v Q I ry rx h
  obtain ⟨a, ov, rfl, g, q⟩ := h
  obtain rfl : v = Value.ref a := rx
  exact d_notIn hu I g ry fun s3 I3 => ⟨.bl (!ov.isSome), H, I3, rfl, q⟩
theorem opd_inK (hu : X.A.units + 1 < cLine) : OpD X T F (compareOp .In) gInK := by
  intro hK hc
  refine ⟨_, or_inK hu, fun B H σ G x y o p K Q S hx hy h hq => ?_⟩
  unfold gInK at h
  split at h
  · rename_i kd es e1 e2
    split at h
    · rename_i k ek
      have ex := key_see S hx e1 ek
      subst ex
      obtain ⟨a, kvs, rfl, h1, l1⟩ := S.see hy e2
      refine ⟨a, _, rfl, dget_rd h1, ?_⟩
      have e : hasD es k = (valV kvs k).isSome := by
        unfold hasD
        rw [← isK_any l1 k]
        exact valV_any k kvs
      rw [e] at h
      exact hq _ _ (Post.imm S (.bl _) h)
    · exact h.elim
  · exact h.elim
theorem opd_notInK (hu : X.A.units + 1 < cLine) : OpD X T F (compareOp .NotIn) gNotInK := by
  intro hK hc
  refine ⟨_, or_notInK hu, fun B H σ G x y o p K Q S hx hy h hq => ?_⟩
  unfold gNotInK at h
  split at h
  · rename_i kd es e1 e2
    split at h
    · rename_i k ek
      have ex := key_see S hx e1 ek
      subst ex
      obtain ⟨a, kvs, rfl, h1, l1⟩ := S.see hy e2
      refine ⟨a, _, rfl, dget_rd h1, ?_⟩
      have e : hasD es k = (valV kvs k).isSome := by
        unfold hasD
        rw [← isK_any l1 k]
        exact valV_any k kvs
      rw [e] at h
      exact hq _ _ (Post.imm S (.bl _) h)
    · exact h.elim
  · exact h.elim
end
end Fx
end
section
set_option Elab.async false
set_option linter.all false
set_option maxRecDepth 100000
set_option maxHeartbeats 2000000
/-! Fx15: comprehensions of two clauses; a nested target -/
namespace Fx
open PySem PySem.Spec PyProof.Rows L2
section
variable {X : Cx} {T : Tab} {F : Fr} {a b c e : Expr} {es : List Expr} {pos : Pos} {ta tb tc te : RE} {tt tu : RT} {t u : RS} {tr : RO}
variable {B H : Hp} {σ : L2.St} {G : Lo} {v : V} {o : Opd}
/-! ### [elt for tg in iter for tg1 in iter1] -/
@[simp ↓] def lcIn (g1 : RG) (te : RE) (vs1 : List Nat) (K : List D → Lo → Prop) : List D → List D → Lo → Prop
  | [], acc, G => K acc G
  | d :: ds, acc, G => g1 d (wipeG G vs1) fun G1 => tFz te G1 fun y G2 => acc.length < sizeLine ∧ lcIn g1 te vs1 K ds (acc ++ [y]) (wipeG G2 vs1)
@[simp ↓] def lc2Go (g : RG) (wi1 : RI) (g1 : RG) (te : RE) (vs vs1 : List Nat) (K : Opd → Lo → Prop) : List D → List D → Lo → Prop
  | [], acc, G => K (.new (.lst acc)) G
  | d :: ds, acc, G => g d (wipeG G vs) fun G1 => wi1 G1 fun es G2 => lcIn g1 te vs1 (fun acc' G3 => lc2Go g wi1 g1 te vs vs1 K ds acc' (wipeG G3 vs)) es acc G2
@[simp ↓] def tLc2 (wi : RI) (g : RG) (wi1 : RI) (g1 : RG) (te : RE) (vs vs1 : List Nat) : RE := fun G K => wi G fun ds G1 => lc2Go g wi1 g1 te vs vs1 K ds [] G1
structure KpI (B H : Hp) (σ : L2.St) (G : Lo) (B' H' : Hp) : Prop where
  b : Same B B'
  h : ∀ a o, H a = some o → NT o → ¬ Ownd σ G a → H' a = some o
  n : ∀ a, H a ≠ none → B a = none → ¬ Ownd σ G a → B' a = none
  t : ∀ a, H a ≠ none → H' a ≠ none
def tBkI (X : Cx) (scope : Scope) (tg iter : Expr) : TI := fun σ H R => Blk X scope fun Y => tGI Y tg iter σ H R
theorem pi_Bk {scope : Scope} {tg iter : Expr} : Blk X scope fun Y => PI Y tg iter (tBkI X scope tg iter) := fun s H C cl fp => ⟨fun pins s1 σ H1 R I h => (pi_G _ tg iter).run pins s1 σ H1 R I (h s H C cl fp)⟩
theorem run_lc2 {tg iter tg1 iter1 elt : Expr} {scope : Scope} {wi wi1 : RI} {g g1 : RG} {vg vg1 : TG} {is is1 vs vs1 : List Nat} (hi : PDI X T F tg iter wi) (hg : Blk X scope fun Y => PDC Y T F tg g vg is) (hi1 : Blk X scope fun Y => PDI Y T F tg1 iter1 wi1) (hg1 : Blk X scope fun Y => PDC Y T F tg1 g1 vg1 is1)
    (he : Blk X scope fun Y => PD Y T F elt te) (hs : ∀ i ∈ is, i ∈ vs) (hs1 : ∀ i ∈ is1, i ∈ vs1) (hv1 : ∀ i ∈ vs1, i ∈ vs)
    (s0 : Shared) (hK : X.K = T.K) (hc : X.calm = true) (hN : σ.length = X.N.length) {K : Opd → Lo → Prop} {Q : VK} (S : Sta T F B H σ G) (h : tLc2 wi g wi1 g1 te vs vs1 G K) (hQ : ∀ v H', Post T F B H σ G K v H' → Q v H') :
    L2.tLc2 (tGI X tg iter) vg tYes (tBkI X scope tg1 iter1) vg1 tYes (tBk X scope elt) vs vs1 σ H Q := by
  refine tGI_mono (hi.run hK hc B H σ G _ S h) fun J H1 ⟨B1, ds, G1, S1, k1, it, q⟩ => fun Dl hD => ?_
  have f0 : F.H0 Dl = none := by
    cases e : F.H0 Dl with
    | none => rfl
    | some o => exact absurd hD (S1.alive (by rw [e]; exact fun z => nomatch z))
  refine ⟨fun i m H' => m = ds.length - i ∧ i ≤ ds.length ∧ ∃ B' Gi acc vacc, Sta T F B' H' σ Gi ∧ Kp B1 H1 σ G1 B' H' Gi ∧ H' Dl = some (.lst vacc) ∧ B' Dl = none ∧ IsL T B' vacc acc ∧ lc2Go g wi1 g1 te vs vs1 K (ds.drop i) acc Gi,
    ⟨_, rfl, Nat.zero_le _, B1, G1, [], [], S1.freshN hD, Kp.freshN hD, upd_same, S1.bh.free hD, .nil, q⟩, ?_⟩
  rintro i m H' ⟨rfl, hle, B', Gi, acc, vacc, S', k', hl, bl, la, q'⟩
  have nOw : ∀ {σ2 : L2.St} {G2 : Lo}, (∀ p, Ownd σ2 G2 p → Ownd σ Gi p) → ¬ Ownd σ2 G2 Dl := fun u z => S1.notOwn hD (k'.g _ (u _ z))
  by_cases hlt : i < ds.length
  · refine .inr ⟨it.go i B' H' k'.b S'.bh hlt, fun H2 => ∃ B' Gi acc vacc, Sta T F B' H2 σ Gi ∧ Kp B1 H1 σ G1 B' H2 Gi ∧ H2 Dl = some (.lst vacc) ∧ B' Dl = none ∧ IsL T B' vacc acc ∧ lc2Go g wi1 g1 te vs vs1 K (ds.drop (i + 1)) acc Gi,
      fun H2 z => ⟨ds.length - (i + 1), by omega, rfl, hlt, z⟩, fun x H2 y => ?_⟩
    have hd : ds[i]? = some ds[i] := List.getElem?_eq_getElem hlt
    obtain ⟨B2, S2, k2, i2⟩ := it.yld i B' H' F σ Gi x H2 ds[i] k'.b S' hd y
    rw [List.drop_eq_getElem_cons hlt] at q'
    have ow : OthS vs σ (wipe σ vs) := ⟨wipe_len vs σ, fun j hj => wipe_out vs σ j hj⟩
    have Sw := S2.wipeTo vs ow
    refine (hg s0 H 0 [] []).ok hK hc B2 H2 (wipe σ vs) _ x ds[i] _ _ (by rw [wipe_len]; exact hN) Sw i2 q' fun σ3 G3 S3 o3 w3 q3 => ?_
    have w03 : ∀ p, Ownd σ3 G3 p → Ownd σ Gi p := fun p z => ownd_wipe ow (w3 p z)
    have e3 : wipe σ3 vs = wipe σ vs := (wipe_eq o3 hs).trans (wipe_wipe vs σ)
    have back : OthS vs σ3 σ := ⟨by rw [o3.1, wipe_len], fun j hj => by rw [o3.2 j (fun z => hj (hs j z)), wipe_out vs σ j hj]⟩
    have hl2 : H2 Dl = some (.lst vacc) := k2.h _ _ hl (nt_lst _) (nOw fun _ z => z)
    have bl2 : B2 Dl = none := k2.n _ (by rw [hl]; exact fun z => nomatch z) bl (nOw fun _ z => z)
    have hN3 : σ3.length = X.N.length := by rw [o3.1, wipe_len]; exact hN
    refine ⟨e3, ?_⟩
    unfold tYes
    dsimp only
    rw [if_pos rfl]
    refine fun s1 H0 C cl fp => tGI_mono ((hi1 s1 H0 C cl fp).run hK hc B2 H2 σ3 G3 _ S3 q3) fun J1 H4 ⟨B4, es, G4, S4, k4, it1, q4⟩ => ?_
    have hl4 : H4 Dl = some (.lst vacc) := k4.h _ _ hl2 (nt_lst _) (nOw w03)
    have bl4 : B4 Dl = none := k4.n _ (by rw [hl2]; exact fun z => nomatch z) bl2 (nOw w03)
    have w04 : ∀ p, Ownd σ3 G4 p → Ownd σ Gi p := fun p z => w03 p (k4.g p z)
    have i0 : KpI B1 H1 σ G1 B4 H4 := ⟨k'.b.trans (k2.b.trans k4.b), fun a o e m n => k4.h _ _ (k2.h _ _ (k'.h _ _ e m n) m fun z => n (k'.g _ z)) m fun z => n (k'.g _ (w03 _ z)), fun a h1 h2 n => ?_, fun a h => k4.t _ (k2.t _ (k'.t _ h))⟩
    · refine ⟨fun j m H' => m = es.length - j ∧ j ≤ es.length ∧ ∃ B5 G5 acc5 vacc5, Sta T F B5 H' σ3 G5 ∧ KpI B1 H1 σ G1 B5 H' ∧ Same B4 B5 ∧ (∀ p, Ownd σ3 G5 p → Ownd σ Gi p) ∧ H' Dl = some (.lst vacc5) ∧ B5 Dl = none ∧ IsL T B5 vacc5 acc5 ∧
        lcIn g1 te vs1 (fun acc' G3 => lc2Go g wi1 g1 te vs vs1 K (ds.drop (i + 1)) acc' (wipeG G3 vs)) (es.drop j) acc5 G5, ⟨_, rfl, Nat.zero_le _, B4, G4, acc, vacc, S4, i0, Same.refl _, w04, hl4, bl4, la.mono (k2.b.trans k4.b), q4⟩, ?_⟩
      rintro j m H5 ⟨rfl, hle5, B5, G5, acc5, vacc5, S5, i5, e45, w5, hl5, bl5, la5, q5⟩
      by_cases hlt5 : j < es.length
      · refine .inr ⟨it1.go j B5 H5 e45 S5.bh hlt5, fun H6 => ∃ B5 G5 acc5 vacc5, Sta T F B5 H6 σ3 G5 ∧ KpI B1 H1 σ G1 B5 H6 ∧ Same B4 B5 ∧ (∀ p, Ownd σ3 G5 p → Ownd σ Gi p) ∧ H6 Dl = some (.lst vacc5) ∧ B5 Dl = none ∧ IsL T B5 vacc5 acc5 ∧
          lcIn g1 te vs1 (fun acc' G3 => lc2Go g wi1 g1 te vs vs1 K (ds.drop (i + 1)) acc' (wipeG G3 vs)) (es.drop (j + 1)) acc5 G5, fun H6 z => ⟨es.length - (j + 1), by omega, rfl, hlt5, z⟩, fun x5 H6 y5 => ?_⟩
        have hd5 : es[j]? = some es[j] := List.getElem?_eq_getElem hlt5
        obtain ⟨B6, S6, k6, j6⟩ := it1.yld j B5 H5 F σ3 G5 x5 H6 es[j] e45 S5 hd5 y5
        rw [List.drop_eq_getElem_cons hlt5] at q5
        have ow5 : OthS vs1 σ3 (wipe σ3 vs1) := ⟨wipe_len vs1 σ3, fun j hj => wipe_out vs1 σ3 j hj⟩
        have Sw5 := S6.wipeTo vs1 ow5
        refine (hg1 s0 H 0 [] []).ok hK hc B6 H6 (wipe σ3 vs1) _ x5 es[j] _ _ (by rw [wipe_len]; exact hN3) Sw5 j6 q5 fun σ7 G7 S7 o7 w7 q7 => ?_
        have w37 : ∀ p, Ownd σ7 G7 p → Ownd σ3 G5 p := fun p z => ownd_wipe ow5 (w7 p z)
        have e7 : wipe σ7 vs1 = wipe σ3 vs1 := (wipe_eq o7 hs1).trans (wipe_wipe vs1 σ3)
        have back7 : OthS vs1 σ7 σ3 := ⟨by rw [o7.1, wipe_len], fun j hj => by rw [o7.2 j (fun z => hj (hs1 j z)), wipe_out vs1 σ3 j hj]⟩
        refine ⟨e7, ?_⟩
        refine fun s2 H0' C' cl' fp' => tG_mono (run_fz (he s2 H0' C' cl' fp') hK hc S7 q7) fun y H8 ⟨B8, d8, G8, S8, k8, i8, hz, q8⟩ => ?_
        have kk : Kp B5 H5 σ3 G5 B8 H8 (wipeG G8 vs1) := k6.trans (k8.chg w37 fun p z => ownd_wipe back7 z)
        have no5 : ¬ Ownd σ3 G5 Dl := nOw w5
        have w38 : ∀ p, Ownd σ7 G8 p → Ownd σ3 G5 p := fun p z => w37 p (k8.g p z)
        have hl8 : H8 Dl = some (.lst vacc5) := kk.h _ _ hl5 (nt_lst _) no5
        have bl8 : B8 Dl = none := kk.n _ (by rw [hl5]; exact fun z => nomatch z) bl5 no5
        have n8 : ¬ Ownd σ7 G8 Dl := fun z => no5 (w38 _ z)
        refine ⟨vacc5, hl8, by rw [la5.length]; exact hz, B8, wipeG G8 vs1, acc5 ++ [d8], vacc5 ++ [y], (S8.other (u := .lst (vacc5 ++ [y])) bl8 f0 (some_nt hl8 (nt_lst _)) n8).wipeTo vs1 back7, ?_, e45.trans kk.b, fun p z => w5 p (kk.g p z), upd_same, bl8, (la5.mono kk.b).append (.cons i8 .nil), q8⟩
        have o5 : ∀ a, ¬ Ownd σ G1 a → ¬ Ownd σ3 G5 a := fun a n z => n (k'.g _ (w5 _ z))
        refine ⟨i5.b.trans kk.b, fun a o e m n => ?_, fun a h1 h2 n => ?_, fun a h => ?_⟩
        · rw [upd_ne (ne_of_none e hD)]
          exact kk.h _ _ (i5.h _ _ e m n) m (o5 a n)
        · exact kk.n _ (i5.t _ h1) (i5.n _ h1 h2 n) (o5 a n)
        · by_cases z : a = Dl
          · subst z
            rw [upd_same]
            exact fun z => nomatch z
          · rw [upd_ne z]
            exact kk.t _ (i5.t _ h)
      · have e5 : j = es.length := by omega
        subst e5
        rw [List.drop_length] at q5
        refine .inl ⟨it1.stop _ B5 H5 e45 S5.bh (Nat.le_refl _), B5, wipeG G5 vs, acc5, vacc5, S5.wipeTo vs back, ⟨i5.b, i5.h, i5.n, fun p z => k'.g _ (w5 _ (ownd_wipe back z)), i5.t⟩, hl5, bl5, la5, q5⟩
    · exact k4.n _ (k2.t _ (k'.t _ h1)) (k2.n _ (k'.t _ h1) (k'.n _ h1 h2 n) fun z => n (k'.g _ z)) fun z => n (k'.g _ (w03 _ z))
  · have e0 : i = ds.length := by omega
    subst e0
    rw [List.drop_length] at q'
    refine .inl ⟨it.stop _ B' H' k'.b S'.bh (Nat.le_refl _), hQ _ _ (Post.more k1 ⟨B', .new (.lst acc), Gi, S', k', ⟨Dl, rfl, bl, ⟨vacc, hl, la⟩, f0, nOw fun _ z => z⟩, fun p w _ e => ?_, q'⟩)⟩
    cases e
    exact hD
theorem pd_lc2 {tg iter tg1 iter1 elt : Expr} {scope : Scope} {own : List (Str × Nat)} {vs1 : List Nat} {wi wi1 : RI} {g g1 : RG} {vg vg1 : TG} {is is1 : List Nat} (hN : X.N.Nodup) (hi : PDI X T F tg iter wi) (ok : BlkOk X.N X.env.scope scope own) (hg : Blk X scope fun Y => PDC Y T F tg g vg is)
    (hi1 : Blk X scope fun Y => PDI Y T F tg1 iter1 wi1) (hg1 : Blk X scope fun Y => PDC Y T F tg1 g1 vg1 is1) (he : Blk X scope fun Y => PD Y T F elt te) (hs : ∀ i ∈ is, i ∈ own.map (·.2) := by decide) (hs1 : ∀ i ∈ is1, i ∈ vs1 := by decide) (hv1 : ∀ i ∈ vs1, i ∈ own.map (·.2) := by decide)
    (hf : ∀ x, foldedSetIterable iter X.env x = pure x := by intro _; rfl) (hf1 : ∀ env x, foldedSetIterable iter1 env x = pure x := by intro _ _; rfl) :
    PD X T F (.ListComp elt [⟨tg, iter, [], 0⟩, ⟨tg1, iter1, [], 0⟩] scope pos) (tLc2 wi g wi1 g1 te (own.map (·.2)) vs1) := by
  refine ⟨fun hK hc B H σ G K S h pins s I => ?_⟩
  refine (pe_lc2 hc hN (pi_G X tg iter) ok hv1 (fun s H C cl fp => (hg s H C cl fp).pg) (fun _ _ _ _ _ => pts_nil) pi_Bk (fun s H C cl fp => (hg1 s H C cl fp).pg) (fun _ _ _ _ _ => pts_nil) pe_Bk hf hf1).run pins s σ H _ I ?_
  exact run_lc2 hi hg hi1 hg1 he hs hs1 hv1 s hK hc I.len S h fun _ _ z => z
/-! ### for x, (y, z, ..) in .. -/
@[simp ↓] def gUn2 (i : Nat) (is : List Nat) : RG := fun d G K => match d with
  | .tup [d0, .tup ds] => match asg G i (.imm d0) with
    | some G1 => match asgs G1 is ds with
      | some G2 => K G2
      | none => False
    | none => False
  | _ => False
theorem pdg_un2 {tg : List Expr} {k k2 : Nat} {tpos tpos2 : Pos} {x : Str} {px : Pos} (i : Nat) (is : List Nat) (hN : X.N.Nodup) (hi : X.N[i]? = some x) (hx : Loc X.env.scope x) (hf : X.fn x = true ∨ X.env.scope.names.lookup x = some .local) (hg : PGs X tg (gNames is)) (hl : ∀ i ∈ is, i < X.N.length := by decide)
    (hn : (assignEach tg X.env).length = is.length := by rfl) (hst : (assignEach tg X.env).findIdx? (·.1) = none := by rfl)
    (hn2 : (assignEach [.Name x px, .Tuple tg k tpos] X.env).length = 2 := by rfl) (hst2 : (assignEach [.Name x px, .Tuple tg k tpos] X.env).findIdx? (·.1) = none := by rfl)
    (ha : (assignEach [.Name x px, .Tuple tg k tpos] X.env).map (·.2) = assign (.Name x px) X.env :: (assignEach [.Tuple tg k tpos] X.env).map (·.2) := by rfl) (ha2 : (assignEach [.Tuple tg k tpos] X.env).map (·.2) = assign (.Tuple tg k tpos) X.env :: (assignEach [] X.env).map (·.2) := by rfl) :
    PDG X T F (.Tuple [.Name x px, .Tuple tg k tpos] k2 tpos2) (gUn2 i is) := by
  refine ⟨fun hK hc B H σ G v d K S h q => tGG_of (pg_tup hc (pgs_cons (pg_name (i := i) hN hi hx hf) (pgs_cons (pg_tup hc hg hn hst) pgs_nil ha2) ha) hn2 hst2) fun len => ?_⟩
  unfold gUn2 at q
  split at q
  · rename_i d0 ds
    split at q
    · rename_i G1 e1
      split at q
      · rename_i G2 e2
        cases h with
        | tup h2 l =>
          cases l with
          | cons l0 l =>
            cases l with
            | cons l1 l =>
              cases l
              cases l1 with
              | tup h3 l3 =>
                have hi' : i < σ.length := by rw [len]; exact (List.getElem?_eq_some_iff.mp hi).1
                have S1 := asg_imm_ok S hi' l0 e1
                refine ⟨_, _, rfl, SqT.of (S.bh _ _ h2), rfl, _, _, rfl, _, _, rfl, ?_⟩
                refine ⟨_, _, rfl, SqT.of (S.bh _ _ h3), by rw [l3.length]; exact asgs_len e2, ?_⟩
                exact names_ok (fun j hj => by rw [List.length_set, len]; exact hl j hj) S1 l3 e2 fun σ' S' _ => ⟨rfl, G2, rfl, S', q⟩
      · exact q.elim
    · exact q.elim
  · exact q.elim
end
end Fx
end
section
set_option Elab.async false
set_option linter.all false
set_option maxRecDepth 100000
set_option maxHeartbeats 2000000
/-! Fx16: set(a) == set(b); x in a row of data; divmod -/
namespace Fx
open PySem PySem.Spec PyProof.Rows L2
section
variable {X : Cx}
theorem mix_flat {P : Program} {w : World} (k : Key) (a : Addr) : (mixKind P w).is k (.ref a) = false := by cases k <;> rfl
def rSetLT (P : Program) (w : World) (K : PySem.W.Frag) : List V → Hp → VK → Prop := fun xs H Q => ∃ (l : Addr) (ks : List Key), xs = [.ref l] ∧ (SqL K H l (ks.map kV) ∨ SqT K H l (ks.map kV)) ∧ ks.length + 1 < scanBound ∧ ∀ p, H p = none → Q (.ref p) (upd H p (SetK P w p (fun k => ks.any fun x => decide (x = k)) (distinct ks)))
theorem call_setLT (hc : X.calm = true) : CallR X (.type "set") (rSetLT X.prog X.w X.K) := by
  intro pins s σ H xs us Q I r h
  obtain ⟨l, ks, rfl, hs, hb, q⟩ := h
  rcases hs with hs | hs
  · exact call_setL hc pins s σ H _ us Q I r ⟨l, ks, rfl, hs, hb, q⟩
  · obtain ⟨u, rfl, ru⟩ := r.one
    cases (show u = Value.ref l from ru)
    obtain ⟨its, rv, hl, hz⟩ := I.tuple hs
    have el : ks.length = its.length := by
      rw [← rv.length, List.length_map]
    refine call_set_tupleK (knd := mixKind X.prog X.w) (xs := ks) (items := its.toArray) (I.ok.hd hc) hl (by rw [List.size_toArray]; exact el) (by rw [List.size_toArray, ← el]; exact hb) (fun i v e => ?_) fun h' tk hS hk => ?_
    · have e2 : its[i]? = some v := by simpa using e
      have hi : i < ks.length := by
        rw [el]
        exact (List.getElem?_eq_some_iff.mp e2).1
      have ek : ks[i]? = some ks[i] := List.getElem?_eq_getElem hi
      obtain ⟨u, u1, u2⟩ := rv.get (i := i) (x := kV ks[i]) (by rw [List.getElem?_map, ek]; rfl)
      rw [e2] at u1
      cases u1
      exact ⟨_, ek, kV_is u2, key_scan u2⟩
    · have et : ks.take its.toArray.size = ks := by rw [List.size_toArray, ← el, List.take_length]
      rw [et] at hS
      refine ⟨.ref _, upd H s.heap.objs.size (SetK X.prog X.w s.heap.objs.size (fun k => ks.any fun x => decide (x = k)) (distinct ks)), I.laid (t' := tk) (fun b u e => hk b u (Heap.lt_size e) e) (Nat.le_refl _) (setK_new hS), rfl, q _ (I.hok.fresh (Nat.le_refl _))⟩
def rEqSet (P : Program) (w : World) : R2 := fun x y H Q => ∃ a b S n S' m, x = .ref a ∧ y = .ref b ∧ H a = some (SetK P w a S n) ∧ H b = some (SetK P w b S' m) ∧ ∀ r : Bool, (r = true ↔ n = m ∧ ∀ k, S k = true → S' k = true) → Q (.bl r) H
theorem op_eqSet (hu : X.A.units < cLine) : OpR X (compareOp .Eq) (rEqSet X.prog X.w) := by
  intro pins s σ H x y v u Q I rx ry h
  obtain ⟨a, b, S, n, S', m, rfl, rfl, ha, hb, q⟩ := h
  obtain rfl : v = Value.ref a := rx
  obtain rfl : u = Value.ref b := ry
  show wpAny _ _ (richCompare .Eq (.ref a) (.ref b)) _ _ _
  exact eq_sets mix_flat (setK_get I ha) (setK_get I hb) hu fun r hr => ⟨.bl r, H, I, rfl, q r hr⟩
end
section
variable {X : Cx} {T : Tab} {F : Fr} {a b c e : Expr} {es : List Expr} {pos : Pos} {ta tb tc te : RE}
variable {B B' H H' : Hp} {σ : L2.St} {G G' : Lo} {v : V} {o : Opd} {W : WD}
@[simp ↓] def seqKs : Option D → Option (List Key)
  | some (.lst ds) => keysOf ds
  | some (.tup ds) => keysOf ds
  | _ => none
def eqSetB (ks ls : List Key) : Bool := decide (distinct ks = distinct ls) && ks.all fun k => ls.any fun j => decide (j = k)
@[simp ↓] def tEqSet (ta tb : RE) : RE := fun G K => ta G fun o G1 => match seqKs (cont G1 o) with
  | some ks => ks.length + 1 < scanBound ∧ tb G1 fun p G2 => match seqKs (cont G2 p) with
    | some ls => ls.length + 1 < scanBound ∧ K (.imm (.bl (eqSetB ks ls))) G2
    | none => False
  | none => False
theorem seq_see {ks : List Key} (hK : X.K = T.K) (S : Sta T F B H σ G) (h : OpdOk T F B H σ G v o) (e : seqKs (cont G o) = some ks) : ∃ l, v = .ref l ∧ (SqL X.K H l (ks.map kV) ∨ SqT X.K H l (ks.map kV)) := by
  cases ec : cont G o with
  | none =>
    rw [ec] at e
    cases e
  | some d =>
    rw [ec] at e
    have sy := S.see h ec
    cases d with
    | lst ds =>
      obtain ⟨a, vs, rfl, ha, l⟩ := sy
      exact ⟨a, rfl, .inl (by rw [← keys_vs l e]; exact SqL.of ha)⟩
    | tup ds =>
      obtain ⟨a, vs, rfl, ha, l⟩ := sy
      exact ⟨a, rfl, .inr (by rw [← keys_vs l e]; exact SqT.of (S.bh _ _ ha))⟩
    | _ => cases e
theorem pd_eqSet {x : Str} {p1 p2 : Pos} {pa pb : Pos} (hu : X.A.units < cLine) (ha : PD X T F a ta) (hb : PD X T F b tb) (hm : X.mg x = none) (hv : bootBuiltins x = some (.type "set") := by decide +kernel) (hgl : Gl X x := by rfl) (hn : x ≠ "__name__" := by decide) (hdb : (x == ("__debug__" : Str)) = false := by decide)
    (h3 : starEach (a :: []) X.env = (false, eval a X.env) :: starEach [] X.env := by rfl) (h4 : (backTo pa (starEach [] X.env)).any (·.1) = false := by rfl) (h5 : starEach (b :: []) X.env = (false, eval b X.env) :: starEach [] X.env := by rfl) (h6 : (backTo pb (starEach [] X.env)).any (·.1) = false := by rfl) :
    PD X T F (.Compare (.Call (.Name x p1) [a] [] pa) [.Eq] [.Call (.Name x p2) [b] [] pb] pos) (tEqSet ta tb) := by
  refine ⟨fun hK hc B H σ G K S h => tG_of (pe_cmpR (op_eqSet hu) (pe_callTy (call_setLT hc) hgl hm hv (pa_cons (pe_G X a) pa_nil h3) hn hdb h3 h4) (pe_callTy (call_setLT hc) hgl hm hv (pa_cons (pe_G X b) pa_nil h5) hn hdb h5 h6) (nomark _)) ?_⟩
  refine tG_mono (ha.run hK hc B H σ G _ S h) fun v H1 ⟨B1, o, G1, S1, k1, w, _, q⟩ => ?_
  dsimp only at q
  split at q
  · rename_i ks e1
    obtain ⟨l, rfl, hl⟩ := seq_see hK S1 w e1
    refine ⟨l, ks, rfl, hl, q.1, fun p hp => ?_⟩
    have S1' := S1.freshN (u := SetK X.prog X.w p (fun k => ks.any fun x => decide (x = k)) (distinct ks)) hp
    refine tG_mono (hb.run hK hc B1 _ σ G1 _ S1' q.2) fun v2 H2 ⟨B2, o2, G2, S2, k2, w2, _, q2⟩ => ?_
    dsimp only at q2
    split at q2
    · rename_i ls e2
      obtain ⟨l2, rfl, hl2⟩ := seq_see hK S2 w2 e2
      refine ⟨l2, ls, rfl, hl2, q2.1, fun p2 hp2 => ?_⟩
      have hp1 : H2 p = some (SetK X.prog X.w p (fun k => ks.any fun x => decide (x = k)) (distinct ks)) := k2.h _ _ upd_same (nt_ext _) (S1.notOwn hp)
      have ne : p ≠ p2 := fun z => by
        rw [z, hp2] at hp1
        cases hp1
      refine ⟨p, p2, _, _, _, _, rfl, rfl, by rw [upd_ne ne]; exact hp1, upd_same, fun r hr => ?_⟩
      have er : r = eqSetB ks ls := by
        unfold eqSetB
        rw [Bool.eq_iff_iff, hr, Bool.and_eq_true, decide_eq_true_eq, List.all_eq_true]
        refine and_congr Iff.rfl ⟨fun z k hk => z k (List.any_eq_true.mpr ⟨k, hk, by simp⟩), fun z k hk => ?_⟩
        obtain ⟨y, h1, h2⟩ := List.any_eq_true.mp hk
        have : y = k := by simpa using h2
        subst this
        exact z y h1
      subst er
      exact Post.more (k1.trans ((Kp.freshN hp).trans (k2.trans (Kp.freshN hp2)))) (Post.imm (S2.freshN hp2) (.bl _) q2.2)
    · exact q2.elim
  · exact q.elim
/-! ### x in a row of data -/
@[simp ↓] def inX (d d' : D) (K : Bool → Prop) : Prop := match d' with
  | .lst ds => ∃ p ps, toPy d = some p ∧ toPyL ds = some ps ∧ SeqAt.shaped p = true ∧ SeqAt.shaped (.list ps) = true ∧ K (ps.any fun z => PyData.eqv z p)
  | .tup ds => ∃ p ps, toPy d = some p ∧ toPyL ds = some ps ∧ SeqAt.shaped p = true ∧ SeqAt.shaped (.tuple ps) = true ∧ K (ps.any fun z => PyData.eqv z p)
  | _ => False
@[simp ↓] def gInX : G2 := fun G o p K => ∃ d d', cont G o = some d ∧ cont G p = some d' ∧ inX d d' fun b => K (.imm (.bl b)) G
def rInT (K : PySem.W.Frag) : R2 := fun x y H Q => ∃ d ds, Dp K H x d ∧ (Dp K H y (.list ds) ∧ SeqAt.shaped (.list ds) = true ∨ Dp K H y (.tuple ds) ∧ SeqAt.shaped (.tuple ds) = true) ∧ SeqAt.shaped d = true ∧ Q (.bl (ds.any fun z => PyData.eqv z d)) H
theorem op_inT (hu : X.A.units + 65 < cLine) : OpR X (compareOp .In) (rInT X.K) := by
  intro pins s σ H x y v u Q I rx ry h
  obtain ⟨d, ds, hd, he, sd, q⟩ := h
  obtain ⟨as, r1⟩ := Dp.reads I d x v hd rx
  rcases he with ⟨he, se⟩ | ⟨he, se⟩
  · obtain ⟨bs, r2⟩ := Dp.reads I (.list ds) y u he ry
    exact SeqAt.in_list_reads r2 r1 (SeqAt.canLay_of_shaped se) (SeqAt.canLay_of_shaped sd) (room_in_shaped sd hu) ⟨.bl _, H, I, rfl, q⟩
  · obtain ⟨bs, r2⟩ := Dp.reads I (.tuple ds) y u he ry
    exact SeqAt.in_tuple_reads r2 r1 (SeqAt.canLay_of_shaped se) (SeqAt.canLay_of_shaped sd) (room_in_shaped sd hu) ⟨.bl _, H, I, rfl, q⟩
theorem opd_inX (hu : X.A.units + 65 < cLine) : OpD X T F (compareOp .In) gInX := by
  intro hK hc
  refine ⟨_, op_inT hu, fun B H σ G x y o p K Q S hx hy h hq => ?_⟩
  obtain ⟨d, d', e1, e2, h⟩ := h
  have s1 := S.see hx e1
  have s2 := S.see hy e2
  unfold inX at h
  split at h
  · rename_i ds
    obtain ⟨p, ps, f1, f2, f3, f4, k⟩ := h
    refine ⟨p, ps, by rw [hK]; exact s1.dp S.bh f1, .inl ⟨by rw [hK]; exact s2.dp S.bh (by unfold toPy; rw [f2]), f4⟩, f3, hq _ _ (Post.imm S (.bl _) k)⟩
  · rename_i ds
    obtain ⟨p, ps, f1, f2, f3, f4, k⟩ := h
    refine ⟨p, ps, by rw [hK]; exact s1.dp S.bh f1, .inr ⟨by rw [hK]; exact s2.dp S.bh (by unfold toPy; rw [f2]), f4⟩, f3, hq _ _ (Post.imm S (.bl _) k)⟩
  · exact h.elim
/-! ### divmod -/
@[simp ↓] def gDivmod : GC := fun G os K => match os with
  | [o, p] => match cont G o, cont G p with
    | some (.int i), some (.int j) => CDiv i j ∧ K (.imm (.tup [.int (i / j), .int (i % j)])) G
    | _, _ => False
  | _ => False
theorem cd_divmod : CallD X T F (.builtin "divmod") gDivmod := by
  intro hK hc
  refine ⟨_, call_divmod, fun B H σ G vs os K Q S hos h hq => ?_⟩
  unfold gDivmod at h
  split at h
  · rename_i o p
    cases hos with
    | cons h1 t =>
      cases t with
      | cons h2 t =>
        cases t
        split at h
        · rename_i i j e1 e2
          cases see_int S h1 e1
          cases see_int S h2 e2
          refine ⟨i, j, rfl, h.1, fun p hp => hq _ _ (Post.new S hp (.tup upd_same (.cons (.int _) (.cons (.int _) .nil))) h.2)⟩
        · exact h.elim
  · exact h.elim
end
end Fx
end
section
set_option Elab.async false
set_option linter.all false
set_option maxRecDepth 100000
set_option maxHeartbeats 2000000
/-! Fx17: promises: of defs that are given less, of any room -/
namespace Fx
open PySem PySem.Spec PyProof.Rows L2
theorem FnGO.mono {P : Program} {w : World} {K : PySem.W.Frag} {mg : Str → Option Value} {base : Heap} {CX : CXT} {j k : Nat} {f : Addr} {fd : FuncData} {ps : List Str} {sp : Sp} (Fn : FnGO P w K mg base CX j f fd ps sp) (h : j ≤ k) : FnGO P w K mg base CX k f fd ps sp :=
  ⟨Fn.len, fun A outer s H args us vs Q E hr => Fn.run A outer s H args us vs Q E (hr.mono h)⟩
theorem fn_never {P : Program} {w : World} {K : PySem.W.Frag} {mg : Str → Option Value} {base : Heap} {CX : CXT} {k : Nat} {f : Addr} {T : Tab} {Sq : Spec} (h : ∀ as Kn Kx, ¬ Sq as Kn Kx) : FnG P w K mg base CX k f (spOf T Sq) :=
  fun A outer s H us vs Q E hr e0 r ⟨_, _, _, _, _, _, _, _, _, q, _⟩ => absurd q (h _ _ _)
/-- the last parameters are the defaults ds -/
def dflS (ds : List D) (Sq : Spec) : Spec := fun as Kn Kx => Sq (as ++ ds.map Arg.imm) Kn Kx
theorem argsOk_imm {T : Tab} {B H : Hp} : ∀ {vs : List V} {ds : List D}, IsL T B vs ds → ArgsOk T B H vs (ds.map Arg.imm) []
  | _, _, .nil => .nil
  | _, _, .cons h t => .imm h (argsOk_imm t)
theorem argsOk_app {T : Tab} {B H : Hp} {vs : List V} {as : List Arg} {A0 : List Addr} (h : ArgsOk T B H vs as A0) {ws : List V} {ds : List D} (t : IsL T B ws ds) : ArgsOk T B H (vs ++ ws) (as ++ ds.map Arg.imm) A0 := by
  induction h with
  | nil => exact argsOk_imm t
  | imm h _ ih => exact .imm h ih
  | own b h _ ih => exact .own b h ih
theorem FnGO.posD {P : Program} {w : World} {K : PySem.W.Frag} {mg : Str → Option Value} {base : Heap} {CX : CXT} {k : Nat} {f : Addr} {fd : FuncData} {ps : List Str} {T : Tab} {Sq : Spec} {dvs : List V} {dds : List D} {dsv : List Value} (Fn : FnGO P w K mg base CX k f fd ps (spOf T Sq)) (hb : Binds K fd ps dsv) (hd : Vals dvs dsv) (hv : ∀ B, IsL T B dvs dds) :
    FnG P w K mg base CX k f (spOf T (dflS dds Sq)) := by
  intro A outer s H us vs Q E hr e0 r ⟨B, as, A0, Kn, Kx, h1, ht, h2, h3, h4, h5⟩
  have hs : spOf T Sq (vs ++ dvs) H Q E := ⟨B, as ++ dds.map Arg.imm, A0, Kn, Kx, h1, ht, argsOk_app h2 (hv B), h3, h4, h5⟩
  have r2 : Vals (vs ++ dvs) (us ++ dsv) := r.append hd
  have hl : (us ++ dsv).length = ps.length := by rw [← r2.length]; exact Fn.len _ _ _ _ hs
  have q := hb s us (e0.mod.kin.keeps fun b o e => (e0.bs b o e).1) hl
  exact Fn.run A outer s H ⟨us, []⟩ (us ++ dsv) (vs ++ dvs) Q E hr e0 q r2 hs
end Fx
end
section
set_option Elab.async false
set_option linter.all false
set_option maxRecDepth 100000
set_option maxHeartbeats 2000000
/-! Fx18: t[::-1] of tuples; dict(pairs); d.setdefault -/
namespace Fx
open PySem PySem.Spec PyProof.Rows L2
section
variable {prog : Program} {w : World} {A : Around} {E : Value → Shared → Prop} {s : Shared}
theorem adjust_rev (n : Nat) : Builtin.Slice.sliceAdjust none none (-1) (n : Int) = ((n : Int) - 1, -1) := by
  unfold Builtin.Slice.sliceAdjust
  rfl
theorem places_rev (n : Nat) : Builtin.Slice.slicePlaces ((n : Int) - 1) (-1) (-1) = n := by
  unfold Builtin.Slice.slicePlaces
  have h1 : ¬ ((-1 : Int) > 0) := by omega
  simp only [h1, if_false]
  by_cases h : (n : Int) - 1 > -1
  · simp only [h, if_true]
    have e : ((n : Int) - 1 - -1 - 1) / (- -1) = (n : Int) - 1 := by
      rw [show (- -1 : Int) = 1 by decide, Int.ediv_one]
      omega
    rw [e]
    omega
  · simp only [h, if_false]
    omega
theorem sliceApplied_rev {sl : Addr} {vs : Value} {n : Nat} {Q : Int × Int × Nat → Shared → Prop} (hs : s.heap.IsSliceOf sl .none .none vs) (ps : IsPart vs (some (-1))) (h : Q ((n : Int) - 1, -1, n) s) : wpAny (model prog w) A (Builtin.Slice.sliceApplied (.ref sl) (pure (n : Int))) Q E s := by
  obtain ⟨os, hos, hcs, hds⟩ := id hs
  unfold Builtin.Slice.sliceApplied Builtin.Slice.sliceFields
  refine wpAny_bind (wpAny_bind (wpAny_field hos hds (x := .none) rfl (wpAny_bind (wpAny_field hos hds (x := .none) rfl (wpAny_bind (wpAny_field hos hds (x := vs) rfl (wpAny_pure ?_)))))))
  refine wpAny_bind (HT.slicePart_ ps ?_)
  show wpAny _ _ (if ((-1 : Int) == 0) = true then _ else _) _ _ s
  rw [if_neg (by decide)]
  refine wpAny_bind (HT.slicePart_ .none (wpAny_bind (HT.slicePart_ .none (wpAny_bind (wpAny_pure ?_)))))
  show wpAny _ _ (match Builtin.Slice.sliceAdjust none none (-1) (n : Int) with | (lo, hi) => pure (lo, (-1 : Int), Builtin.Slice.slicePlaces lo hi (-1))) _ _ s
  rw [adjust_rev n]
  show wpAny _ _ (pure ((n : Int) - 1, (-1 : Int), Builtin.Slice.slicePlaces ((n : Int) - 1) (-1) (-1))) _ _ s
  rw [places_rev]
  exact wpAny_pure h
theorem fm_congr {α β : Type} {f g : α → Option β} : ∀ {l : List α}, (∀ x ∈ l, f x = g x) → l.filterMap f = l.filterMap g
  | [], _ => rfl
  | x :: l, h => by
    have h0 := h x List.mem_cons_self
    have ih := fm_congr (f := f) (g := g) (l := l) fun y hy => h y (List.mem_cons_of_mem _ hy)
    rw [List.filterMap_cons, List.filterMap_cons, h0, ih]
theorem pick_rev (xs : Array Value) : ((List.range xs.size).filterMap fun (k : Nat) => xs[(((xs.size : Int) - 1) + (k : Int) * (-1)).toNat]?).toArray = xs.toList.reverse.toArray := by
  have h := PySem.W.krv_pick xs
  unfold PySem.slicePick at h
  rw [PySem.W.krv_bounds] at h
  have h2 : ((PySem.sliceRange ((xs.size : Int) - 1) (-1) (-1)).filterMap (xs[·]?)).toArray = xs.toList.reverse.toArray := h
  rw [PySem.W.krv_sliceRange, List.filterMap_map] at h2
  rw [← h2]
  refine congrArg List.toArray (fm_congr fun k hk => ?_)
  have hk := List.mem_range.mp hk
  have e : (((xs.size : Int) - 1) + (k : Int) * (-1)).toNat = xs.size - 1 - k := by omega
  rw [e]
  rfl
theorem getItem_tuple_rev {t sl : Addr} {items : Array Value} {vs : Value} {Q : Value → Shared → Prop} (ht : IsTup s.heap t items) (hs : s.heap.IsSliceOf sl .none .none vs) (ps : IsPart vs (some (-1)))
    (h : Q (.ref s.heap.objs.size) { s with heap := s.heap.push { cls := .type "tuple", data := .seq items.toList.reverse.toArray } })
    (hsz : items.size ≤ sizeLine) : wpAny (model prog w) A (getItem (.ref t) (.ref sl)) Q E s := by
  have htake : sizeOk (.seq items.toList.reverse.toArray) := by
    show items.toList.reverse.toArray.size ≤ sizeLine
    rw [List.size_toArray, List.length_reverse, Array.length_toList]
    exact hsz
  obtain ⟨os, hos, hcs, hds⟩ := id hs
  have hTs : s.TypeIs (.ref sl) "slice" := ⟨os, hos, hcs⟩
  unfold getItem
  try with_reducible refine wpAny_holding ?_
  first | refine wpAny_bind (wpAny_pure ?_) | skip
  refine wpAny_bind (wpAny_sequenceKey ht.typeIs (by decide) ?_)
  refine wpAny_bind (wpAny_callSpecial?_slot (name := Str.ofString "__getitem__") ht.typeIs PyProof.Rows.slot_tuple_getitem
    (wpAny_call_entry PyProof.Rows.slot_tuple_getitem ht.typeIs entry_tuple_getitem ?_ (args_tuple_getitem _ _)))
  show wpAny _ _ (Builtin.Tuple.tupleItemsOf (.ref t) >>= _) _ _ s
  refine wpAny_bind (tupleItemsOf_ ht ?_)
  refine wpAny_bind (wpAny_typeOf hTs ?_)
  rw [if_pos (by decide)]
  refine wpAny_bind (sliceApplied_rev hs ps ?_)
  have hno : ¬ ((((items.size : Int) - 1) == 0 && (-1 : Int) == 1 && items.size == items.size) = true) := by
    intro q
    rw [Bool.and_eq_true, Bool.and_eq_true] at q
    exact absurd q.1.2 (by decide)
  show wpAny _ _ (if (((items.size : Int) - 1) == 0 && (-1 : Int) == 1 && items.size == items.size) = true then _ else _) _ _ s
  rw [if_neg hno, pick_rev]
  first
    | exact wpAny_bind (m := Builtin.Tuple.tupleExact _) (wpAny_newObj_type (wpAny_pure ⟨_, rfl, wpAny_pure h⟩) htake)
    | exact wpAny_bind (m := Builtin.Tuple.tupleExact _) (wpAny_newObj_type (wpAny_bind (wpAny_pure (wpAny_pure ⟨_, rfl, wpAny_pure h⟩))) htake)
    | exact wpAny_bind (wpAny_bind (m := Builtin.Tuple.tupleExact _) (wpAny_newObj_type (wpAny_pure (wpAny_pure ⟨_, rfl, wpAny_pure h⟩)) htake))
    | exact wpAny_bind (wpAny_bind (m := Builtin.Tuple.tupleExact _) (wpAny_newObj_type (wpAny_pure ⟨_, rfl, wpAny_pure h⟩) htake))
end
section
variable {X : Cx} {T : Tab} {F : Fr} {a b c e : Expr} {es : List Expr} {pos : Pos} {ta tb tc te : RE}
variable {B B' H H' : Hp} {σ : L2.St} {G G' : Lo} {v : V} {o : Opd} {W : WD}
def tRevT (K : PySem.W.Frag) (te : TE) : TE := fun σ H Q => te σ H fun x H1 => ∃ a xs, x = .ref a ∧ SqT K H1 a xs ∧ ∀ p, H1 p = none → Q (.ref p) (upd H1 p (.tup xs.reverse))
theorem pe_revT {e : Expr} {te : TE} {k : Nat} {p1 p2 p3 pos : Pos} (he : PE X e te) : PE X (.Subscript e (.Slice none none (some (.UnaryOp .USub (.Constant (.int 1) k p1) p2)) p3) pos) (tRevT X.K te) := by
  refine ⟨fun pins s σ H Q I h => ?_⟩
  refine Subscript_ (thn (he.run pins s σ H _ I h) fun v s1 ⟨x, H1, I1, r1, q1⟩ => ?_)
  obtain ⟨a, xs, ex, hx, q⟩ := q1
  subst ex
  cases r1
  have hst : PO X (some (.UnaryOp .USub (.Constant (.int 1) k p1) p2)) (tPart (tUn (rU fun i => .int (-i)) (L2.tC (.int 1)))) := po_some (pe_un un_neg pe_int)
  refine wpAny_Slice (thn (po_none.run pins s1 σ H1 (fun o H2 => o = none ∧ H2 = H1) I1 ⟨rfl, rfl⟩) fun vl s2 ⟨l, H2, I2, pl, el, e2⟩ => ?_)
  subst el e2
  refine thn (po_none.run pins s2 σ H2 (fun o H3 => o = none ∧ H3 = H2) I2 ⟨rfl, rfl⟩) fun vu s3 ⟨u, H3, I3, pu, eu, e3⟩ => ?_
  subst eu e3
  refine thn (hst.run pins s3 σ H3 (fun o H4 => o = some (-1) ∧ H4 = H3) I3 ⟨1, rfl, -1, rfl, rfl, rfl⟩) fun vs s4 ⟨o, H4, I4, ps, eo, e4⟩ => ?_
  subst eo e4
  have el : vl = .none := by cases pl; rfl
  have eu : vu = .none := by cases pu; rfl
  subst el eu
  have I5 : Inv X pins σ H4 { s4 with heap := s4.heap.push { cls := .type "slice", data := .fields #[.none, .none, vs] } } := I4.kept (t' := s4.toks) fun b ob q => Heap.get?_push_of_some _ q
  obtain ⟨its, r, ht, hz⟩ := I5.tuple hx
  have hlen := r.length
  show wpAny (model X.prog X.w) X.A (subscriptTail e (.Slice none none (some (.UnaryOp .USub (.Constant (.int 1) k p1) p2)) p3) (.ref a) (.ref s4.heap.objs.size)) (EP X pins σ Q) X.xe { s4 with heap := s4.heap.push { cls := .type "slice", data := .fields #[.none, .none, vs] } }
  refine tail_any (ops := [.ref a, .ref s4.heap.objs.size]) ht.typeIs (PyProof.Rows.slot_tuple_getitem.lookup) ?_ (by with_unfolding_all rfl)
  refine getItem_tuple_rev ht (Heap.IsSliceOf.new _ .none .none vs) ps ?_ (by rw [List.size_toArray]; omega)
  refine ⟨.ref _, _, I5.laid (t' := s4.toks) (o := .tup xs.reverse) (fun b ob q => Heap.get?_push_of_some _ q) (Nat.le_refl _) ?_, rfl, q _ (I5.hok.fresh (Nat.le_refl _))⟩
  exact ⟨by rw [List.length_reverse]; exact hz, _, r.reverse, IsTup.new _ _⟩
/-- t[::-1] -/
@[simp ↓] def tRev (ta : RE) : RE := fun G K => ta G fun o G1 => match cont G1 o with
  | some (.tup ds) => K (.imm (.tup ds.reverse)) G1
  | _ => False
theorem pd_revT {k : Nat} {p1 p2 p3 : Pos} (ha : PD X T F a ta) : PD X T F (.Subscript a (.Slice none none (some (.UnaryOp .USub (.Constant (.int 1) k p1) p2)) p3) pos) (tRev ta) := by
  refine ⟨fun hK hc B H σ G K S h => tG_of (pe_revT (pe_G X a)) ?_⟩
  refine tG_mono (ha.run hK hc B H σ G _ S h) fun x H1 ⟨B1, o, G1, S1, k1, w1, _, q⟩ => ?_
  dsimp only at q
  split at q
  · rename_i ds e1
    obtain ⟨a', vs, rfl, ha', l⟩ := S1.see w1 e1
    exact ⟨a', vs, rfl, SqT.of (S1.bh _ _ ha'), fun p hp => Post.more k1 (Post.new S1 hp (.tup upd_same (l.rev.mono (same_upd (S1.bh.free hp)))) q)⟩
  · exact q.elim
/-! ### dict(pairs) -/
@[simp ↓] def pairsD : List D → Option (List (Key × D))
  | [] => some []
  | .tup [kd, d] :: r => match keyOfD kd, pairsD r with
    | some k, some es => some ((k, d) :: es)
    | _, _ => none
  | _ => none
@[simp ↓] def fDictP (d : D) (K : Opd → Prop) : Prop := match d with
  | .lst ds => match pairsD ds with
    | some es => K (.new (.dct (mergeD [] es)))
    | none => False
  | _ => False
theorem pairsD_ok {K : PySem.W.Frag} (bh : Same B H) : ∀ {vs : List V} {ds : List D} {es : List (Key × D)}, IsL T B vs ds → pairsD ds = some es →
    ∃ (ps : List Addr) (kvs : List (Key × V)), vs = ps.map V.ref ∧ Paired (fun p kv => SqT K H p [kV kv.1, kv.2]) ps kvs ∧ IsK T B kvs es
  | _, _, es, .nil, e => by
    cases e
    exact ⟨[], [], rfl, .nil, .nil⟩
  | _, _, es, .cons (v := v) (d := d) (vs := vs) (ds := r) h t, e => by
    unfold pairsD at e
    split at e
    · rename_i e0; cases e0
    · rename_i kd d' r' e0
      cases e0
      split at e
      · rename_i k es' ek er
        cases e
        obtain ⟨ps, kvs, rfl, hp, hi⟩ := pairsD_ok bh t er
        cases h with
        | tup ha l =>
          rename_i a ws
          cases l with
          | cons hk l =>
            cases l with
            | cons hd l =>
              cases l
              have ek' := key_of hk ek
              subst ek'
              exact ⟨a :: ps, (k, _) :: kvs, rfl, .cons (SqT.of (bh _ _ ha)) hp, .cons hd hi⟩
      · cases e
    · cases e
theorem cd_dictP : CallD X T F (.type "dict") (g1 fDictP) := by
  refine calld_1 (fun _ hc => call_dictP hc) fun B H σ G v o d K Q hK S h s _ q k => ?_
  unfold fDictP at q
  split at q
  · split at q
    · rename_i es ee
      obtain ⟨a, vs, rfl, ha, l⟩ := s
      obtain ⟨ps, kvs, rfl, hp, hi⟩ := pairsD_ok (K := X.K) S.bh l ee
      exact ⟨a, ps, kvs, rfl, SqL.of ha, hp, fun p hq => k _ _ (Post.newD S hq (isK_merge hi .nil) q)⟩
    · exact q.elim
  · exact q.elim
/-! ### d.setdefault(k, e) -/
@[simp ↓] def tSetd (i : Nat) (tk td : RE) : RE := fun G K => (match ownW G i with | some (.dct _) => True | _ => False) ∧ tFz tk G fun kd G1 => tFz td G1 fun d G2 => match keyOfD kd, ownW G2 i with
  | some k, some (.dct es) => es.length < 1000 ∧ (match getD' es k with
    | some d' => K (.imm d') G2
    | none => K (.imm d) (setO G2 i (.dct (putD es k d))))
  | _, _ => False
theorem isK_none {kvs : List (Key × V)} {es : List (Key × D)} {k : Key} (h : IsK T B kvs es) (e : valV kvs k = none) : getD' es k = none := by
  cases eg : getD' es k with
  | none => rfl
  | some d =>
    obtain ⟨v, h1, _⟩ := isK_get h eg
    rw [e] at h1
    cases h1
theorem isK_some {kvs : List (Key × V)} {es : List (Key × D)} {k : Key} {v : V} (h : IsK T B kvs es) (e : valV kvs k = some v) : ∃ d, getD' es k = some d ∧ Is T B v d := by
  cases eg : getD' es k with
  | some d =>
    obtain ⟨v', h1, h2⟩ := isK_get h eg
    rw [e] at h1
    cases h1
    exact ⟨d, rfl, h2⟩
  | none =>
    exfalso
    have z : (kvs.any fun kv => decide (kv.1 = k)) = true := by rw [valV_any, e]; rfl
    rw [isK_any h k] at z
    unfold getD' at eg
    rw [Option.map_eq_none_iff, List.find?_eq_none] at eg
    obtain ⟨x, hx, hz⟩ := List.any_eq_true.mp z
    exact eg x hx hz
theorem pd_setd {x : Str} {p apos : Pos} {f : Expr} (i : Nat) (hk : PD X T F e ta) (hf : PD X T F f tb) (m : M2 X (.Name x p) "setdefault" apos e f pos) (hN : X.N[i]? = some x := by rfl) (hv : Vis X.env.scope x := by first | exact Or.inl rfl | exact Or.inr (Or.inl rfl) | exact Or.inr (Or.inr rfl)) (hd : (x == ("__debug__" : Str)) = false := by decide) (hcd : (x == ("__classdict__" : Str)) = false := by decide) :
    PD X T F (.Call (.Attribute (.Name x p) "setdefault" apos) [e, f] [] pos) (tSetd i ta tb) := by
  refine ⟨fun hK hc B H σ G K S h => tG_of (pe_dsetd (pe_var (i := i) hN hv hd hcd) (pe_G X e) (pe_G X f) m) ?_⟩
  obtain ⟨h0, h⟩ := h
  cases hw0 : ownW G i with
  | none => rw [hw0] at h0; exact h0.elim
  | some w0 =>
  rw [hw0] at h0
  cases w0 with
  | lst _ => exact h0.elim
  | obj _ _ => exact h0.elim
  | dct es0 =>
  obtain ⟨p0, f1, f2, f3, kvs0, f4, f5⟩ := own_at S hw0
  refine ⟨.ref p0, f1, p0, rfl, .inl ⟨kvs0, .inl f4⟩, tG_mono (run_fz hk hK hc S h) fun y H1 ⟨B1, kd, G1, S1, k1, w1, q⟩ => ?_⟩
  refine tG_mono (run_fz hf hK hc S1 q) fun z H2 ⟨B2, d, G2, S2, k2, w2, q2⟩ => ?_
  split at q2
  · rename_i k es ek e2
    obtain ⟨hl, q2⟩ := q2
    obtain ⟨p, g1, g2, g3, kvs, g4, g5⟩ := own_at S2 e2
    have ep : p0 = p := by
      rw [f1] at g1
      cases g1
      rfl
    subst ep
    have kk := k1.trans k2
    refine ⟨kvs, k, g4, key_of w1 ek, by rw [isK_len g5]; exact Nat.lt_of_lt_of_le hl (by rw [sizeLine_eq]; decide), fun v hv => ?_, fun hn => ?_⟩
    · obtain ⟨d', ed, hd'⟩ := isK_some g5 hv
      rw [ed] at q2
      exact Post.more kk (Post.imm S2 hd' q2)
    · rw [isK_none g5 hn] at q2
      have on : OwnIs T B2 (upd H2 p0 (.dK (putK kvs k z))) p0 (.dct (putD es k d)) := ⟨_, upd_same, isK_put g5 w2⟩
      exact ⟨B2, .imm d, _, S2.mut e2 g2 on, kk.trans (Kp.mut g2), w2, Nw.imm, q2⟩
  · exact q2.elim
/-- {} -/
@[simp ↓] def tDct0 : RE := fun G K => K (.new (.dct [])) G
theorem pd_dct0 : PD X T F (.Dict [] [] pos) tDct0 := ⟨fun hK hc B H σ G K S q => tG_of pe_dnewK fun p hp => Post.newD S hp .nil q⟩
end
theorem RoomG.u65 {k : Nat} {A : Around} (r : RoomG k A) : A.units + 65 < cLine := by
  have := r.rm.un
  omega
end Fx
end
section
set_option Elab.async false
set_option linter.all false
set_option maxRecDepth 100000
set_option maxHeartbeats 2000000
/-! Fx19: str.replace of written texts, behind a token: `for row in t.split(sep): found.append(f(row.replace(..).replace(..).split(" ")))` -/
namespace Fx
open PySem PySem.Spec PyProof.Rows L2
section
variable {X : Cx} {T : Tab} {F : Fr} {a b c e : Expr} {es : List Expr} {pos : Pos} {ta tb tc te : RE}
variable {B B' H H' : Hp} {σ : L2.St} {G G' : Lo} {v : V} {o : Opd} {W : WD}
theorem thnk {α : Type} {t : Sem α} {Q Q' : α → Shared → Prop} {M : Model} {A : Around} {E : Value → Shared → Prop} {s : Shared} {n : Nat} (hn : n ≤ s.toks) (h : wpAny M A t Q E s) (hQ : ∀ a s, n ≤ s.toks → Q a s → Q' a s) : wpAny M A t Q' E s :=
  wpAny_mono (PySem.wpAny_toks_of hn h) (fun a s' x => hQ a s' x.1 x.2) (fun _ _ x => x.2)
/-- one token is out -/
def tG1 (X : Cx) (e : Expr) : TE := fun σ H Q => ∀ (pins : List (Addr × Obj)) (s : Shared), 1 ≤ s.toks → Inv X pins σ H s → wpAny (model X.prog X.w) X.A (eval e X.env) (EP X pins σ Q) X.xe s
theorem pet_G (X : Cx) (e : Expr) : PET X e (tG1 X e) := fun pins s σ H Q h0 I h => h pins s h0 I
theorem tG1_of {t : TE} {Q : VK} (h : PET X e t) (q : t σ H Q) : tG1 X e σ H Q := fun pins s h0 I => h pins s σ H Q h0 I q
theorem tG1_mono {Q Q' : VK} (h : tG1 X e σ H Q) (k : ∀ v H', Q v H' → Q' v H') : tG1 X e σ H Q' := fun pins s h0 I => thn (h pins s h0 I) fun v s1 ⟨x, H1, I1, r, q⟩ => ⟨x, H1, I1, r, k _ _ q⟩
structure PD1 (X : Cx) (T : Tab) (F : Fr) (e : Expr) (t : RE) : Prop where
  run : X.K = T.K → X.calm = true → ∀ (B H : Hp) (σ : L2.St) (G : Lo) (K : Opd → Lo → Prop), Sta T F B H σ G → t G K → tG1 X e σ H (Post T F B H σ G K)
theorem PD.t1 (h : PD X T F e te) : PD1 X T F e te := ⟨fun hK hc B H σ G K S q pins s _ I => h.run hK hc B H σ G K S q pins s I⟩
theorem run_fz1 (ha : PD1 X T F e te) (hK : X.K = T.K) (hc : X.calm = true) {K : D → Lo → Prop} (S : Sta T F B H σ G) (h : tFz te G K) :
    tG1 X e σ H fun v H' => ∃ B' d G', Sta T F B' H' σ G' ∧ Kp B H σ G B' H' G' ∧ Is T B' v d ∧ K d G' := by
  refine tG1_mono (ha.run hK hc B H σ G _ S h) fun v H1 ⟨B1, o, G1, S1, k1, h1, n1, q⟩ => ?_
  dsimp only at q
  cases e1 : frz1 G1 o with
  | none =>
    rw [e1] at q
    exact q.elim
  | some r =>
    rw [e1] at q
    obtain ⟨d, G2⟩ := r
    obtain ⟨B2, S2, k2, i2⟩ := frz_ok k1 S1 h1 n1 e1
    exact ⟨B2, d, G2, S2, k2, i2, q⟩
/-! ### replace -/
@[simp ↓] def tRepl (y z : Str) (ta : RE) : RE := fun G K => ta G fun o G1 => match cont G1 o with
  | some (.str x) => x.length + (x.length + 1) * z.length ≤ 16777216 ∧ K (.imm (.str (Txt.replace x y z))) G1
  | _ => False
theorem pd1_repl {y z : Str} {j k : Nat} {c0 c1 apos : Pos} (ha : PD1 X T F a ta) (hyz : (y == z) = false := by decide)
    (hst : starEach [.Constant (.str y) j c0, .Constant (.str z) k c1] X.env = [(false, eval (.Constant (.str y) j c0) X.env), (false, eval (.Constant (.str z) k c1) X.env)] := by rfl)
    (hbase : attributeBase a "replace" X.env (eval a X.env) = eval a X.env := by rfl) (hline : (apos.endLine == pos.line) = true := by rfl) :
    PD1 X T F (.Call (.Attribute a "replace" apos) [.Constant (.str y) j c0, .Constant (.str z) k c1] [] pos) (tRepl y z ta) := by
  refine ⟨fun hK hc B H σ G K S h => tG1_of (CwR.pet_replT (pet_G X a) hyz hst hbase hline) ?_⟩
  refine tG1_mono (ha.run hK hc B H σ G _ S h) fun v H1 ⟨B1, o, G1, S1, k1, w1, _, q⟩ => ?_
  dsimp only at q
  split at q
  · rename_i x e1
    exact ⟨x, see_str S1 w1 e1, q.1, Post.more k1 (Post.imm S1 (.str _) q.2)⟩
  · exact q.elim
/-! ### split -/
theorem pet_split {o e : Expr} {to te : TE} {apos pos : Pos} (ho : PET X o to) (he : PE X e te)
    (hs : starEach [e] X.env = [(false, eval e X.env)]) (hbase : attributeBase o "split" X.env (eval o X.env) = eval o X.env) (hline : (apos.endLine == pos.line) = true) :
    PET X (.Call (.Attribute o "split" apos) [e] [] pos) (tM1 (fun x xs H Q => ∃ a b, x = .str a ∧ xs = [.str b] ∧ (b.length == 0) = false ∧ a.length + 2 ≤ sizeLine ∧ rNewStrs (Txt.split a b) H Q) to te) := by
  intro pins s σ H Q h0 I h
  refine PySem.Call_method1 hbase hs hline (thn (ho pins s σ H _ h0 I h) fun v s1 ⟨x, H1, I1, r1, q1⟩ => ?_)
  obtain ⟨⟨a, rfl⟩, q1⟩ := q1
  obtain ⟨t, rfl⟩ := _root_.id r1
  refine ⟨"str", _, PySem.F.plainAttrs_str, PySem.F.slot_str_split, PySem.F.type_str_split, typeIs_str _ _ _, (fun _ e => nomatch e), Calls.callWith_builtin rfl (Calls.evalArgs_plain (Calls.spliced_cons ?_))⟩
  exact thn (he.run pins s1 σ H1 _ I1 q1) fun u s2 ⟨y, H2, I2, r2, q2⟩ => Calls.spliced_nil (mt_split pins s2 σ H2 _ [y] _ [u] Q I2 r1 (.cons r2 .nil) q2)
theorem pd1_split {apos : Pos} (ha : PD1 X T F a ta) (hb : PD X T F b tb) (hs : starEach [b] X.env = [(false, eval b X.env)] := by rfl) (hbase : attributeBase a "split" X.env (eval a X.env) = eval a X.env := by rfl) (hline : (apos.endLine == pos.line) = true := by rfl) :
    PD1 X T F (.Call (.Attribute a "split" apos) [b] [] pos) (tMt mSplit ta tb) := by
  refine ⟨fun hK hc B H σ G K S h => tG1_of (pet_split (pet_G X a) (pe_G X b) hs hbase hline) ?_⟩
  refine tG1_mono (ha.run hK hc B H σ G _ S h) fun v H1 ⟨B1, o, G1, S1, k1, h1, _, z1⟩ => ?_
  dsimp only at z1
  split at z1
  · rename_i x e1
    refine ⟨⟨x, see_str S1 h1 e1⟩, tG_mono (hb.run hK hc B1 H1 σ G1 _ S1 z1) fun u H2 ⟨B2, p, G2, S2, k2, h2, _, z2⟩ => ?_⟩
    dsimp only at z2
    split at z2
    · rename_i d e2
      unfold mSplit at z2
      split at z2
      · rename_i y
        have ev := see_str S1 h1 e1
        have ey := see_str S2 h2 e2
        subst ev ey
        exact ⟨x, _, rfl, rfl, z2.1, z2.2.1, fun p hp => Post.more (k1.trans k2) (Post.newL S2 hp (isL_strs _) z2.2.2)⟩
      · exact z2.elim
    · exact z2.elim
  · exact z1.elim
/-! ### f(e) -/
theorem pd1_call {Sq : Spec} {k : Nat} {f : Addr} {x : Str} {p : Pos} (Fn : FnX X T k f Sq) (hr : RoomG k X.A) (hm : X.mg x = some (.ref f)) (hk : PySem.W.keepIn X.K (.ref f) = true) (hp : PassD X T F W) (ha : PD1 X T F e te) (hg : Gl X x := by rfl)
    (hdb : (x == ("__debug__" : Str)) = false := by decide) (he : starEach [e] X.env = (false, eval e X.env) :: starEach [] X.env := by rfl) (hpl : (backTo pos (starEach [] X.env)).any (·.1) = false := by rfl) : PD1 X T F (.Call (.Name x p) [e] [] pos) (tCallD Sq W (tQF te tQNil)) := by
  refine ⟨fun hK hc B H σ G K S h pins s h0 I => ?_⟩
  refine wpAny_Call_Name_kw (ld_glob I hg hm ?_ hdb)
  have h' : tFz te G fun d G1 => tSpec Sq W G1 [.imm d] K := h
  have q0 : tCons (tG1 X e) tNil σ H (PostQ T F B H σ G fun qs G1 => tSpec Sq W G1 qs K) := tG1_mono (run_fz1 ha hK hc S h') fun v H1 ⟨B1, d, G1, S1, k1, i1, q⟩ => ⟨B1, [.imm d], G1, S1, k1, .imm i1 .nil, q⟩
  refine PySem.W.callWith_K (h₀ := X.base) I.ok.mod.kin hk (thn (pat_cons (pet_G X e) pat_nil he pos pins s σ H _ h0 I q0) fun us s1 ⟨vs, H1, I1, r, B1, qs, G1, S1, k1, h1, q⟩ => ⟨I1.kIn, ?_⟩) he hpl
  exact thn (run_fnX Fn hr (hp.at σ) I1 r (spec_sp S1 h1 q)) fun u s2 ⟨v, H2, I2, rv, y⟩ => ⟨v, H2, I2, rv, Post.more k1 y⟩
/-! ### found.append(e) -/
theorem pd1_append {x : Str} {p apos : Pos} (i : Nat) (ha : PD1 X T F e te) (hN : X.N[i]? = some x := by rfl) (hv : Vis X.env.scope x := by first | exact Or.inl rfl | exact Or.inr (Or.inl rfl) | exact Or.inr (Or.inr rfl)) (hd : (x == ("__debug__" : Str)) = false := by decide) (hcd : (x == ("__classdict__" : Str)) = false := by decide)
    (hbase : attributeBase (.Name x p) "append" X.env (eval (.Name x p) X.env) = eval (.Name x p) X.env := by rfl) (hse : starEach (e :: []) X.env = (false, eval e X.env) :: starEach [] X.env := by rfl)
    (hfew : ((backTo pos (starEach (e :: []) X.env)).all (fun x => !x.1) && (backToKw pos (keywordEach [] X.env)).all (fun x => x.1.isSome) && decide ((e :: []).length + ([] : List Keyword).length + (if ([] : List Keyword).isEmpty then 0 else 1) < 30)) = true := by rfl)
    (hline : (apos.endLine == pos.line) = true := by rfl) (hplain : (backTo pos (starEach [] X.env)).any (·.1) = false := by rfl) : PD1 X T F (.Call (.Attribute (.Name x p) "append" apos) [e] [] pos) (tOw i wAppend te) := by
  refine ⟨fun hK hc B H σ G K S h pins s h0 I => ?_⟩
  unfold tOw at h
  split at h
  · rename_i ds0 e0
    obtain ⟨p0, f1, f2, f3, vs0, f4, _⟩ := own_at S e0
    refine wpAny_Call_method_late hbase hfew hline rfl (thnk h0 ((pe_var (i := i) hN hv hd hcd).run pins s σ H (fun v H1 => v = .ref p0 ∧ H1 = H) I ⟨.ref p0, f1, rfl, rfl⟩) fun v s1 t1 ⟨x', H1, I1, r1, ex, eH⟩ => ?_)
    subst ex eH
    obtain ⟨h1, h2⟩ := tyV_is (T := "list") I1 r1 (.inl ⟨rfl, _, SqL.of f4⟩)
    refine ⟨"list", _, PySem.F.plainAttrs_list, PySem.F.slot_list_append, PySem.F.type_list_append, h1, h2, ?_⟩
    have q0 : tCons (tG1 X e) tNil σ H1 (fun vs H' => ∃ v, vs = [v] ∧ ∃ B' d G', Sta T F B' H' σ G' ∧ Kp B H1 σ G B' H' G' ∧ Is T B' v d ∧ (match ownW G' i with
        | some (Own.lst ds) => wAppend ds d fun o ds' => K o (setO G' i (Own.lst ds'))
        | _ => False)) := tG1_mono (run_fz1 ha hK hc S h) fun v H1 z => ⟨v, rfl, z⟩
    have hA := pat_cons (pet_G X e) pat_nil hse pos pins s1 σ H1 _ t1 I1 q0
    rw [hse] at hA ⊢
    refine Calls.callWith_builtin (by show (false || (backTo pos (starEach [] X.env)).any (·.1)) = false; rw [hplain] <;> rfl) (Calls.evalArgs_plain ?_)
    refine thn hA fun us s2 ⟨vs, H2, I2, r2, q2⟩ => ?_
    obtain ⟨v, rfl, B2, d, G2, S2, k2, i2, q2⟩ := q2
    split at q2
    · rename_i ds e1
      obtain ⟨p1, g1, g2, g3, ws, g4, g5⟩ := own_at S2 e1
      have e5 : p0 = p1 := by
        rw [f1] at g1
        cases g1
        rfl
      subst e5
      refine mt_append pins s2 σ H2 _ _ _ us _ I2 r1 r2 ⟨p0, ws, v, rfl, rfl, g4, by rw [g5.length]; exact q2.1, ?_⟩
      exact ⟨B2, .imm .non, _, S2.mut (w' := .lst (ds ++ [d])) e1 g2 ⟨_, upd_same, g5.append (.cons i2 .nil)⟩, k2.trans (Kp.mut g2), .non, Nw.imm, q2.2⟩
    · exact q2.elim
  · exact h.elim
/-! ### statements -/
def tB1 (X : Cx) (st : List Stmt) : TS := fun D σ H => ∀ (pins : List (Addr × Obj)) (s : Shared), 1 ≤ s.toks → Inv X pins σ H s → wpAny (model X.prog X.w) X.A (execs st X.env) (SP X pins D) X.xe s
theorem tB1_mono {st : List Stmt} {D D' : Ends} (h : tB1 X st D σ H) (h1 : ∀ σ H, D.nx σ H → D'.nx σ H) (h2 : ∀ v H, D.rt v H → D'.rt v H) (h3 : ∀ σ H, D.bk σ H → D'.bk σ H) (h4 : ∀ σ H, D.ct σ H → D'.ct σ H) : tB1 X st D' σ H := fun pins s h0 I =>
  thn (h pins s h0 I) fun f s1 q => Fx.SP.mono q h1 h2 h3 h4
structure PDB1 (X : Cx) (T : Tab) (F : Fr) (st : List Stmt) (t : RS) : Prop where
  run : X.K = T.K → X.calm = true → ∀ (B H : Hp) (σ : L2.St) (G : Lo) (D : En), Sta T F B H σ G → t D G → tB1 X st (toE T F B D) σ H
theorem pdb1_expr (he : PD1 X T F e te) (hs : swapsWith e none pos.line X.env = pure false := by rfl) : PDB1 X T F [.Expr e pos] (sDrop te) := by
  refine ⟨fun hK hc B H σ G D S h pins s h0 I => ?_⟩
  have st : PST X (.Expr e pos) (tDrop (tG1 X e)) := fun pins s σ H D h0 I h => wpAny_Expr_any (thn (h pins s h0 I) fun v s1 ⟨x, H1, I1, r1, q1⟩ => ⟨σ, H1, I1, q1⟩) I.quiet hs
  exact CwR.psst_one st pins s σ H _ h0 I (tG1_mono (he.run hK hc B H σ G _ S h) fun v H1 ⟨B1, o, G1, S1, k1, _, _, q⟩ => ⟨B1, G1, S1, k1.b, q⟩)
/-! ### an iterable behind which a token is out -/
structure PDk (X : Cx) (T : Tab) (F : Fr) (e : Expr) (t : RE) : Prop where
  run : X.K = T.K → X.calm = true → ∀ (B H : Hp) (σ : L2.St) (G : Lo) (K : Opd → Lo → Prop), Sta T F B H σ G → t G K → ∀ (pins : List (Addr × Obj)) (s : Shared), Inv X pins σ H s →
    wpAny (model X.prog X.w) X.A (eval e X.env) (fun v s1 => 1 ≤ s1.toks ∧ EP X pins σ (Post T F B H σ G K) v s1) X.xe s
theorem pdk_split {y : Str} {j : Nat} {c0 apos : Pos} (ha : PD X T F a ta) (hs : starEach [.Constant (.str y) j c0] X.env = [(false, eval (.Constant (.str y) j c0) X.env)] := by rfl) (hbase : attributeBase a "split" X.env (eval a X.env) = eval a X.env := by rfl) (hline : (apos.endLine == pos.line) = true := by rfl) :
    PDk X T F (.Call (.Attribute a "split" apos) [.Constant (.str y) j c0] [] pos) (tMt mSplit ta (Fx.tC (.str y))) := by
  refine ⟨fun hK hc B H σ G K S h pins s I => ?_⟩
  refine PySem.Call_method1 hbase hs hline (thn ((ha.run hK hc B H σ G _ S h) pins s I) fun v s1 ⟨x, H1, I1, r1, B1, o, G1, S1, k1, h1, _, z1⟩ => ?_)
  dsimp only at z1
  split at z1
  · rename_i x0 e1
    have ev := see_str S1 h1 e1
    subst ev
    obtain ⟨t, rfl⟩ := _root_.id r1
    have z2 : (y.length == 0) = false ∧ x0.length + 2 ≤ sizeLine ∧ K (.new (.lst ((Txt.split x0 y).map .str))) G1 := z1
    refine ⟨"str", _, PySem.F.plainAttrs_str, PySem.F.slot_str_split, PySem.F.type_str_split, typeIs_str _ _ _, (fun _ e => nomatch e), Calls.callWith_builtin rfl (Calls.evalArgs_plain (Calls.spliced_cons (Calls.Constant_str (Calls.spliced_nil ?_))))⟩
    have h2 := mt_split pins { s1 with toks := s1.toks + 1 } σ H1 (.str x0) [.str y] (.str x0 t) [.str y s1.toks] (Post T F B H σ G K) (I1.tok _) ⟨t, rfl⟩ (.cons ⟨_, rfl⟩ .nil) ⟨x0, y, rfl, rfl, z2.1, z2.2.1, fun p hp => Post.more k1 (Post.newL S1 hp (isL_strs _) z2.2.2)⟩
    exact wpAny_mono (PySem.wpAny_toks_of (n := 1) (by show 1 ≤ s1.toks + 1; omega) h2) (fun a s' x => x) (fun _ _ x => x.2)
  · exact z1.elim
def PostI1 (T : Tab) (F : Fr) (B H : Hp) (σ : L2.St) (G : Lo) (K : List D → Lo → Prop) : It → Hp → Prop := PostI T F B H σ G K
structure PDIk (X : Cx) (T : Tab) (F : Fr) (tg iter : Expr) (wi : RI) : Prop where
  run : X.K = T.K → X.calm = true → ∀ (B H : Hp) (σ : L2.St) (G : Lo) (K : List D → Lo → Prop), Sta T F B H σ G → wi G K → ∀ (pins : List (Addr × Obj)) (s : Shared), Inv X pins σ H s →
    wpAny (model X.prog X.w) X.A (eval iter X.env) (fun v s1 => 1 ≤ s1.toks ∧ wpAny (model X.prog X.w) X.A (pyIter v) (PIE X pins σ tg (PostI T F B H σ G K)) X.xe s1) X.xe s
theorem pdik_list {tg : Expr} (he : PDk X T F e te) : PDIk X T F tg e (iL te) := by
  refine ⟨fun hK hc B H σ G K S h pins s I => ?_⟩
  refine thn (he.run hK hc B H σ G _ S h pins s I) fun v s1 ⟨h1, x, H1, I1, r1, B1, o, G1, S1, k1, w1, n1, q⟩ => ⟨h1, ?_⟩
  dsimp only at q
  cases e1 : frz1 G1 o with
  | none =>
    rw [e1] at q
    exact q.elim
  | some r =>
    rw [e1] at q
    obtain ⟨d, G2⟩ := r
    obtain ⟨B2, S2, k2, i2⟩ := frz_ok k1 S1 w1 n1 e1
    dsimp only at q
    split at q
    · cases i2 with
      | lst h2 l =>
        have hq : SqL X.K H1 _ _ := SqL.of (S2.bh _ _ h2)
        cases r1
        obtain ⟨its, rv, p, hz⟩ := I1.list hq
        refine wpAny_pyIter_list p.isList ?_
        refine ⟨s1.heap.objs.size, [s1.heap.objs.size], _, _, H1, rfl, I1.kept (t' := s1.toks) fun b o e => Heap.get?_push_of_some _ e, turn_list _ _, ⟨_, Heap.get?_push_size _ rfl, rfl, rfl⟩, fun b hb => ?_, ⟨B2, _, G2, S2, k2, by rw [hK]; exact ito_list h2 l, q⟩⟩
        have e : b = s1.heap.objs.size := by simpa using hb
        subst e
        exact I1.fpOk (Nat.le_refl _) (I1.hok.fresh (Nat.le_refl _))
    · exact q.elim
/-! ### for -/
theorem ps_for1 {tg iter : Expr} {body : List Stmt} {g : TG} {tb : TS} {pos : Pos} {σ : L2.St} {D : Ends} {pins : List (Addr × Obj)} {s : Shared} (hp : PassesOwn (model X.prog X.w) X.A X.env X.xe) (hc : X.calm = true)
    (hi : wpAny (model X.prog X.w) X.A (eval iter X.env) (fun v s1 => 1 ≤ s1.toks ∧ wpAny (model X.prog X.w) X.A (pyIter v) (PIE X pins σ tg (fun J H1 => tFor (fun _ _ R => R J H1) g tb D σ H1)) X.xe s1) X.xe s)
    (hg : PG X tg g) (hb : PSsT X body tb) (hs : ∀ x, foldedSetIterable iter X.env x = pure x := by intro _; rfl) : wpAny (model X.prog X.w) X.A (exec (.For tg iter body [] pos) X.env) (SP X pins D) X.xe s := by
  refine wpAny_For (thn hi fun v s1 ⟨h0, h1⟩ => thnk h0 h1 fun itv s2 t2 h2 => ?_) hs
  obtain ⟨it, fp, tn, J, H2, e, I2, T, st2, f2, W, ⟨m0, w0⟩, turn⟩ := h2
  subst e
  have stat : ∀ {H' : Hp}, (∀ b ∈ fp, H' b = none) → ∀ b ∈ fp, FpOk X pins H' b := fun hn b hb => ⟨hn b hb, (f2 b hb).2⟩
  refine codeAny_forLoop_any (fun n s' => 1 ≤ s'.toks ∧ ∃ i σ' H', Inv X pins σ' H' s' ∧ tn i s'.heap ∧ (∀ b ∈ fp, H' b = none) ∧ W i n σ' H') ?_ m0 ⟨t2, 0, σ, H2, I2, st2, fun b hb => (f2 b hb).1, w0⟩
  rintro n s3 ⟨t3, i, σ3, H3, I3, st3, fr3, w3⟩
  rcases turn i n σ3 H3 w3 with ⟨stop, qn⟩ | ⟨go, N, hN, step⟩
  · refine wpAny_passesOwn hp (thn (T.done X rfl rfl rfl hc i pins s3 σ3 H3 X.xe I3 (stat fr3) st3 stop) fun r s4 ⟨hr, I4⟩ => ?_)
    subst hr
    exact wpAny_execs_nil ⟨σ3, H3, I4, qn⟩
  · refine wpAny_passesOwn hp (thnk t3 (T.item X rfl rfl rfl hc i pins s3 σ3 H3 X.xe I3 (stat fr3) st3 go) fun r s4 t4 ⟨u, hr, h4⟩ => ?_)
    subst hr
    refine wpAny_passesOwn hp (thnk t4 h4 fun _ s5 t5 ⟨x, H5, I5, r5, y5, st5, fr5⟩ => ?_)
    have I5' := I5.pinned (stat fr5) (T.obj _ _ st5)
    refine wpAny_passesOwn hp (thnk t5 (hg.run _ s5 σ3 H5 x u _ I5' r5 (step x H5 y5)) fun _ s6 t6 ⟨σ6, H6, I6, q6⟩ => ?_)
    refine wpAny_passesOwn hp (thnk t6 (hb _ s6 σ6 H6 _ t6 I6 q6) fun f s7 t7 q7 => ?_)
    have again : ∀ {σ7 : L2.St} {H7 : Hp}, Inv X (pins ++ pinsAt fp s5.heap) σ7 H7 s7 → N σ7 H7 → ∃ m, m < n ∧ 1 ≤ s7.toks ∧ ∃ i σ' H', Inv X pins σ' H' s7 ∧ tn i s7.heap ∧ (∀ b ∈ fp, H' b = none) ∧ W i m σ' H' := fun {σ7 H7} I7 n7 => by
      obtain ⟨m', hm, w7⟩ := hN σ7 H7 n7
      refine ⟨m', hm, t7, i + 1, σ7, H7, I7.unpinned, T.keep _ _ _ st5 fun b hb o e => (I7.pin (b, o) (List.mem_append_right _ (List.mem_append_right _ (mem_pinsAt hb e)))).1, fun b hb => ?_, w7⟩
      obtain ⟨o, e, d⟩ := T.obj _ _ st5 b hb
      exact (I7.pin (b, o) (List.mem_append_right _ (List.mem_append_right _ (mem_pinsAt hb e)))).2.1
    cases f with
    | next => obtain ⟨σ7, H7, I7, n7⟩ := q7; exact again I7 n7
    | cont => obtain ⟨σ7, H7, I7, n7⟩ := q7; exact again I7 n7
    | brk => obtain ⟨σ7, H7, I7, q7⟩ := q7; exact ⟨σ7, H7, I7.unpinned, q7⟩
    | ret v => obtain ⟨x7, σ7, H7, I7, r7, q7⟩ := q7; exact ⟨x7, σ7, H7, I7.unpinned, r7, q7⟩
theorem pds_for1 {tg iter : Expr} {body : List Stmt} {wi : RI} {g : RG} {t : RS} (hp : PassesOwn (model X.prog X.w) X.A X.env X.xe) (hi : PDIk X T F tg iter wi) (hg : PDG X T F tg g) (hb : PDB1 X T F body t) (hs : ∀ x, foldedSetIterable iter X.env x = pure x := by intro _; rfl) :
    PDS X T F (.For tg iter body [] pos) (sFor wi g t) := by
  refine ⟨fun hK hc B H σ G D S h pins s I => ?_⟩
  refine ps_for1 (tb := tB1 X body) hp hc (thn (hi.run hK hc B H σ G _ S h pins s I) fun v s1 ⟨t1, h1⟩ => ⟨t1, thn h1 fun itv s2 ⟨it0, fp, tn, J, H1, e, I2, Tn, st, f, q⟩ => ⟨it0, fp, tn, J, H1, e, I2, Tn, st, f, ?_⟩⟩) (pg_G X tg) (fun pins s σ H D h0 I h => h pins s h0 I) hs
  obtain ⟨B1, ds, G1, S1, k1, it, q⟩ := q
  refine ⟨fun i m σ' H' => i ≤ ds.length ∧ m = ds.length - i ∧ ∃ B' G', Sta T F B' H' σ' G' ∧ Same B1 B' ∧ forGo g t D (ds.drop i) G', ⟨_, Nat.zero_le _, rfl, B1, G1, S1, Same.refl _, q⟩, ?_⟩
  rintro i m σ' H' ⟨hle, rfl, B', G', S', e', q'⟩
  by_cases hlt : i < ds.length
  · refine .inr ⟨it.go i B' H' e' S'.bh hlt, fun σ2 H2 => ∃ B2 G2, Sta T F B2 H2 σ2 G2 ∧ Same B1 B2 ∧ forGo g t D (ds.drop (i + 1)) G2, fun σ2 H2 ⟨B2, G2, S2, e2, q2⟩ => ⟨ds.length - (i + 1), by omega, hlt, rfl, B2, G2, S2, e2, q2⟩, fun x H2 y => ?_⟩
    have hd : ds[i]? = some ds[i] := List.getElem?_eq_getElem hlt
    obtain ⟨B2, S2, k2, i2⟩ := it.yld i B' H' F σ' G' x H2 ds[i] e' S' hd y
    rw [List.drop_eq_getElem_cons hlt] at q'
    have r := hg.run hK hc B2 H2 σ' G' x ds[i] _ S2 i2 q'
    intro pins s u I ru
    refine thn (r pins s u I ru) fun _ s1 ⟨σ3, H3, I3, G3, eH, S3, q3⟩ => ⟨σ3, H3, I3, ?_⟩
    subst eH
    refine tB1_mono (hb.run hK hc B2 H3 σ3 G3 _ S3 q3) (fun σ4 H4 z => ?_) (fun v H4 z => ?_) (fun σ4 H4 z => ?_) (fun σ4 H4 z => ?_)
    · obtain ⟨B4, G4, S4, e4, z⟩ := z
      exact ⟨B4, G4, S4, (e'.trans k2.b).trans e4, z⟩
    · exact Rt.more (((k1.b).trans e').trans k2.b) z
    · exact Nx.more (((k1.b).trans e').trans k2.b) z
    · obtain ⟨B4, G4, S4, e4, z⟩ := z
      exact ⟨B4, G4, S4, (e'.trans k2.b).trans e4, z⟩
  · have e0 : i = ds.length := by omega
    subst e0
    rw [List.drop_length] at q'
    exact .inl ⟨it.stop _ B' H' e' S'.bh (Nat.le_refl _), ⟨B', G', S', k1.b.trans e', q'⟩⟩
/-- ("x", e, ..): behind the text a token is out -/
theorem pdl_s1 {x : Str} {j : Nat} {c0 : Pos} {tr : RL} (ha : PD1 X T F e te) (hr : PDL X T F es tr) (h0 : starEach (.Constant (.str x) j c0 :: e :: es) X.env = (false, eval (.Constant (.str x) j c0) X.env) :: starEach (e :: es) X.env := by rfl) (hs : starEach (e :: es) X.env = (false, eval e X.env) :: starEach es X.env := by rfl) :
    PDL X T F (.Constant (.str x) j c0 :: e :: es) (tLCons (Fx.tC (.str x)) (tLCons te tr)) := by
  refine ⟨fun hK hc B H σ G K S h pos pins s I => ?_⟩
  have h' : tFz te G fun d G1 => tr G1 fun ds G2 => K (.str x :: d :: ds) G2 := h
  rw [h0]
  show wpAny _ _ (spliced ((false, eval (.Constant (.str x) j c0) X.env) :: backTo pos (starEach (e :: es) X.env))) _ _ s
  refine Calls.spliced_cons (Calls.Constant_str ?_)
  have q0 : tCons (tG1 X e) (tGA X es) σ H (fun vs H' => ∃ B' ds G', Sta T F B' H' σ G' ∧ Kp B H σ G B' H' G' ∧ IsL T B' vs ds ∧ K (.str x :: ds) G') := by
    refine tG1_mono (run_fz1 ha hK hc S h') fun v H1 ⟨B1, d, G1, S1, k1, i1, q⟩ => ?_
    refine tGA_mono (hr.run hK hc B1 H1 σ G1 _ S1 q) fun vs H2 ⟨B2, ds, G2, S2, k2, i2, q2⟩ => ?_
    exact ⟨B2, d :: ds, G2, S2, k1.trans k2, .cons (i1.mono k2.b) i2, q2⟩
  refine thn (pat_cons (pet_G X e) (fun pos pins s σ H Q _ I h => h pos pins s I) hs pos pins { s with toks := s.toks + 1 } σ H _ (by show 1 ≤ s.toks + 1; omega) (I.tok _) q0) fun us s2 ⟨vs, H2, I2, r2, B2, ds, G2, S2, k2, i2, q2⟩ => ?_
  exact ⟨.str x :: vs, H2, I2, .cons ⟨_, rfl⟩ r2, B2, .str x :: ds, G2, S2, k2, .cons (.str x) i2, q2⟩
/-! ### f(e), e a new list that f may change -/
@[simp ↓] def tCallN (Sq : Spec) (W : WD) (te : RE) : RE := fun G K => te G fun o G1 => match o with
  | .new w => Sq [.own w] (fun o _ => K o G1) (fun c d _ => W c d G1)
  | _ => False
theorem new_sta {B1 H1 : Hp} {G1 : Lo} {p : Addr} {outs : List Own} (S1 : Sta T F B1 H1 σ G1) (no : ¬ Ownd σ G1 p) (fp : F.H0 p = none) (r : Aft T B1 H1 [p] B' H' outs) : Sta T F B' H' σ G1 := by
  refine ⟨r.bh, fun a o e => r.b _ _ (S1.b0 a o e), fun a o e m n => r.h a o (S1.h0 a o e m n) m fun z => ?_, fun a h => r.t a (S1.a0 a h), fun a h1 h2 => r.n a (S1.alive h1) (S1.nb a h1 h2), S1.len, fun j s e => ?_, S1.dj, fun a h => r.t a (S1.al a h), r.tb⟩
  · have e1 : a = p := by simpa using z
    rw [e1, fp] at e
    cases e
  · have q := S1.sl j s e
    have key : ∀ q', OwnAt σ G1 j q' → H' q' = H1 q' ∧ B' q' = none := fun q' hq => by
      obtain ⟨b1, b2, _⟩ := own_slot S1 hq
      refine ⟨?_, r.n q' b2 b1⟩
      cases eh : H1 q' with
      | none => exact absurd eh b2
      | some o => exact r.h q' o eh (own_nt S1 hq eh) fun z => no (by
          have e1 : q' = p := by simpa using z
          rw [← e1]
          exact ⟨j, hq⟩)
    cases s with
    | no => exact trivial
    | imm d =>
      obtain ⟨u, e1, e2⟩ := q
      exact ⟨u, e1, e2.mono r.b⟩
    | own w =>
      obtain ⟨a, e1, e2, e3, e4⟩ := q
      obtain ⟨k1, k2⟩ := key a ⟨join_some e1, w, .inl e⟩
      exact ⟨a, e1, k2, e3.mono r.b k1, e4⟩
    | par k w =>
      obtain ⟨a, e1, e2, e3, e4⟩ := q
      obtain ⟨k1, k2⟩ := key a ⟨join_some e1, w, .inr ⟨k, e⟩⟩
      exact ⟨a, e1, k2, e3.mono r.b k1, e4⟩
theorem new_called {B1 H1 : Hp} {G1 : Lo} {p : Addr} {outs : List Own} {K : Opd → Lo → Prop} (S1 : Sta T F B1 H1 σ G1) (k1 : Kp B H σ G B1 H1 G1) (hp : H p = none) (no : ¬ Ownd σ G1 p) (fp : F.H0 p = none) (r : Aft T B1 H1 [p] B' H' outs) (hr : ResOk T H1 B' H' v o) (k : K o G1) : Post T F B H σ G K v H' := by
  have S2 := new_sta S1 no fp r
  have k2 : Kp B H σ G B' H' G1 := by
    refine ⟨k1.b.trans r.b, fun a o e m na => r.h a o (k1.h a o e m na) m fun z => ?_, fun a h1 h2 na => r.n a (k1.t a h1) (k1.n a h1 h2 na), k1.g, fun a h => r.t a (k1.t a h)⟩
    have e1 : a = p := by simpa using z
    rw [e1, hp] at e
    cases e
  cases o with
  | imm d => exact ⟨B', .imm d, _, S2, k2, hr, Nw.imm, k⟩
  | own i => exact hr.elim
  | new w =>
    obtain ⟨q, e1, e2, e3, e4⟩ := hr
    have n0 := S1.notOwn e4
    refine ⟨B', .new w, _, S2, k2, ⟨q, e1, e2, e3, ?_, n0⟩, fun q' w' _ e => ?_, k⟩
    · cases e : F.H0 q with
      | none => rfl
      | some u => exact absurd e4 (S1.alive (by rw [e]; exact fun z => nomatch z))
    · rw [e1] at e
      cases e
      cases eh : H q with
      | none => rfl
      | some u => exact absurd e4 (k1.t q (by rw [eh]; exact fun z => nomatch z))
theorem pd1_callN {Sq : Spec} {k : Nat} {f : Addr} {x : Str} {p : Pos} (Fn : FnX X T k f Sq) (hr : RoomG k X.A) (hm : X.mg x = some (.ref f)) (hk : PySem.W.keepIn X.K (.ref f) = true) (hp : PassD X T F W) (ha : PD1 X T F e te) (hg : Gl X x := by rfl)
    (hdb : (x == ("__debug__" : Str)) = false := by decide) (he : starEach [e] X.env = (false, eval e X.env) :: starEach [] X.env := by rfl) (hpl : (backTo pos (starEach [] X.env)).any (·.1) = false := by rfl) : PD1 X T F (.Call (.Name x p) [e] [] pos) (tCallN Sq W te) := by
  refine ⟨fun hK hc B H σ G K S h pins s h0 I => ?_⟩
  refine wpAny_Call_Name_kw (ld_glob I hg hm ?_ hdb)
  have q0 : tCons (tG1 X e) tNil σ H (fun vs H' => ∃ v, vs = [v] ∧ Post T F B H σ G (fun o G1 => match o with
      | .new w => Sq [.own w] (fun o _ => K o G1) (fun c d _ => W c d G1)
      | _ => False) v H') := tG1_mono (ha.run hK hc B H σ G _ S h) fun v H1 z => ⟨v, rfl, z⟩
  refine PySem.W.callWith_K (h₀ := X.base) I.ok.mod.kin hk (thn (pat_cons (pet_G X e) pat_nil he pos pins s σ H _ h0 I q0) fun us s1 ⟨vs, H1, I1, r, v, ev, B1, o, G1, S1, k1, w1, n1, q⟩ => ⟨I1.kIn, ?_⟩) he hpl
  subst ev
  cases o with
  | imm d => exact q.elim
  | own i => exact q.elim
  | new w =>
    obtain ⟨a, rfl, b1, oi, f1, no⟩ := w1
    have hn : H a = none := n1 a w rfl rfl
    have sp : spOf T Sq [.ref a] H1 (Post T F B H σ G K) (EX T F W σ) := by
      refine ⟨B1, [.own w], [a], _, _, S1.bh, S1.tb, .own b1 oi .nil, by simp, q, fun v B' H' outs o r hr k => new_called S1 k1 hn no f1 r hr k, fun c d dv B' H' outs r hx k => ?_⟩
      exact ⟨B', _, c, dv, rfl, hx, new_sta S1 no f1 r, k⟩
    exact run_fnX Fn hr (hp.at σ) I1 r sp
/-- a, b, .. = a list -/
@[simp ↓] def sUnpL (is : List Nat) (t : RE) : RS := fun D G => t G fun o G1 => match cont G1 o with
  | some (.lst ds) => match asgs G1 is ds with
    | some G2 => D.nx G2
    | none => False
  | _ => False
theorem pds_unpL {tg : List Expr} {k : Nat} {tpos : Pos} (is : List Nat) (he : PD X T F e te) (hg : PGs X tg (gNames is)) (hl : ∀ i ∈ is, i < X.N.length := by decide) (hn : (assignEach tg X.env).length = is.length := by rfl) (hst : (assignEach tg X.env).findIdx? (·.1) = none := by rfl)
    (hs : swapsWithSole [.Tuple tg k tpos] e pos.line X.env = pure false := by rfl) (hw : swappedStores [.Tuple tg k tpos] e X.env = pure none := by rfl) (h1 : (assignEach [.Tuple tg k tpos] X.env).map (·.2) = [assign (.Tuple tg k tpos) X.env] := by rfl) :
    PDS X T F (.Assign [.Tuple tg k tpos] e pos) (sUnpL is te) := by
  refine ⟨fun hK hc B H σ G D S h pins s I => ?_⟩
  refine tGS_of (ps_asg (pe_G X e) (pg_lst hc hg hn hst) hs hw h1) ?_ pins s I
  refine tG_mono (he.run hK hc B H σ G _ S h) fun v H1 ⟨B1, o, G1, S1, k1, w, _, q⟩ => ?_
  dsimp only at q
  split at q
  · rename_i ds e1
    obtain ⟨a, vs, rfl, ha, l⟩ := S1.see w e1
    split at q
    · rename_i G2 e2
      refine ⟨a, vs, rfl, SqL.of ha, by rw [l.length]; exact asgs_len e2, ?_⟩
      exact names_ok (fun i hi => by rw [I.len]; exact hl i hi) S1 l e2 fun σ' S' _ => ⟨B1, G2, S', k1.b, q⟩
    · exact q.elim
  · exact q.elim
end
end Fx
end
section
set_option Elab.async false
set_option linter.all false
set_option maxRecDepth 100000
set_option maxHeartbeats 2000000
/-! Fx20: {**a, **b} -/
namespace Fx
open PySem PySem.Spec PyProof.Rows L2
open PySem.Sem (wp)
section
variable {prog : Program} {w : World} {K : Type} [DecidableEq K] {knd : KeyKind prog w K} {A : Around} {E : Value → Shared → Prop} {s : Shared}
theorem wpAny_dictPut_pairs {d : Addr} {kvs : List (K × Value)} {k : K} {key v : Value} {Q : Unit → Shared → Prop} (hkey : knd.is k key = true) (hm : s.heap.DictOf knd d kvs)
    (hQ : ∀ h', h'.DictOf knd d (stored kvs k v) → Heap.SameBut d s.heap h' → Q () { s with heap := h' }) (hsz : kvs.length ≤ sizeLine) :
    wpAny (model prog w) A (dictPut d (knd.hash k) key v) Q E s := by
  obtain ⟨o, es, ep, ho, hc, hd, hk, hp, hn⟩ := hm
  have hes : es.size ≤ sizeLine := by
    have e1 := hp.length
    have e2 : es.toList.length = es.size := by simp
    omega
  unfold dictPut
  refine wpAny_bind (wpAny_dictFind_of hkey ho hd hk ?_)
  have hidx : (es.findIdx? fun e => knd.is k e.key) = kvs.findIdx? fun kv => decide (kv.1 = k) := by
    rw [← hp.findIdx k]
    obtain ⟨l⟩ := es
    simp
  cases hi : es.findIdx? fun e => knd.is k e.key with
  | some i =>
    refine wpAny_updateDict ho hd (hQ _ ⟨_, _, ep, Heap.get?_update_self _ ho (Obj.isFreed_of_dict (Obj.data_mapDict hd _)),
      hc.mapDict _, Obj.data_mapDict hd _, hk.modify _ _, ?_, ?_⟩ (Heap.SameBut.update ..))
    · rw [stored, if_pos (any_of_findIdx_some (hidx ▸ hi))]
      have hl : (es.toList.findIdx? fun e => knd.is k e.key) = some i := by
        rw [← hi]
        obtain ⟨l⟩ := es
        simp
      have := hp.modify hn hl v
      obtain ⟨l⟩ := es
      simpa using this
    · rw [stored, if_pos (any_of_findIdx_some (hidx ▸ hi)), keys_map_store]
      exact hn
  | none =>
    have hnot : k ∉ kvs.map (·.1) := not_mem_of_findIdx_none (hidx ▸ hi)
    have hany : ¬ (kvs.any fun kv => decide (kv.1 = k)) = true := by
      rw [List.any_eq_true]
      rintro ⟨kv, hkv, he⟩
      exact hnot (List.mem_map.mpr ⟨kv, hkv, of_decide_eq_true he⟩)
    refine wpAny_updateDictKeys (hz := hes) ho hd (hQ _ ⟨_, _, ep + 1, Heap.get?_update_self _ ho (Obj.isFreed_of_dict (Obj.data_mapDictKeys hd _)),
      hc.mapDictKeys _, Obj.data_mapDictKeys hd _, hk.push hkey _, ?_, ?_⟩ (Heap.SameBut.update ..))
    · rw [stored, if_neg hany]
      have := hp.append hkey (knd.hash k) v
      obtain ⟨l⟩ := es
      simpa using this
    · rw [stored, if_neg hany, List.map_append, List.nodup_append]
      refine ⟨hn, by simp, ?_⟩
      intro a ha b hb
      simp only [List.map_cons, List.map_nil, List.mem_singleton] at hb
      subst hb
      exact fun e => hnot (e ▸ ha)
theorem slot_dict_iter : typeLookup (.type "dict") "__iter__" = pure (some (.builtin "dict.__iter__")) := by
  rw [typeLookup_type, builtinLookup_eq_fast]
  kernel_rfl
theorem wpAny_mergeMapping {d o : Addr} {kvs more : List (K × Value)} {Q : Unit → Shared → Prop} (hr : ∀ k a, knd.is k (.ref a) = false) (hdo : d ≠ o) (hoS : (o == sysModules) = false)
    (hd : s.heap.DictOf knd d kvs) (ho : s.heap.DictOf knd o more)
    (hQ : ∀ h', h'.DictOf knd d (merged kvs more) → Heap.SameBut d s.heap h' → Q () { s with heap := h' }) (hsz : kvs.length + more.length ≤ sizeLine) :
    wpAny (model prog w) A (mergeMapping d (.ref o) false) Q E s := by
  obtain ⟨od, esd, epd, hod, hcd, hdd, hkd, hpd, hnd⟩ := id hd
  obtain ⟨oo, eso, epo, hoo, hco, hdo', hko, hpo, hno⟩ := id ho
  have hlen : more.length = eso.size := by rw [← hpo.length]; simp
  unfold mergeMapping
  refine wpAny_bind (wpAny_isInstance ho.typeIs isSubtype_dict_dict ?_)
  dsimp only
  rw [if_pos rfl]
  refine wpAny_bind (wpAny_specialOf ho.typeIs slot_dict_iter (wpAny_bind (wpAny_pure ?_)))
  have e0 : (some (Value.builtin "dict.__iter__") == some (Value.builtin "dict.__iter__")) = true := by simp
  rw [e0]
  dsimp only
  rw [if_neg (by rw [hoS]; exact Bool.false_ne_true)]
  refine wpAny_bind (wpAny_dictEntries hod hdd ?_)
  generalize hT : (do
      let l ← dictEntries o
      let epoch ← dictEpoch o
      forIn (List.range l.size) PUnit.unit fun i (_ : PUnit) => (do
        let l' ← dictEntries o
        match l'[i]? with
          | some e => do
            holding [e.key, e.val]
              (if false = true then do
                let f ← dictFind d e.key e.hash
                if f.isSome = true then do
                    rule "dict.merge.duplicate-key"
                    let x ← newExc (Value.type "KeyError") [e.key]
                    raiseNew x
                    dictPut d e.hash e.key e.val
                  else dictPut d e.hash e.key e.val
              else dictPut d e.hash e.key e.val)
            let ep' ← dictEpoch o
            if (ep' != epoch) = true then do
                (unsupported "dict.changed-during-merge" : Sem PUnit)
                pure (ForInStep.yield PUnit.unit)
              else pure (ForInStep.yield PUnit.unit)
          | _ => do
            (unsupported "dict.changed-during-merge" : Sem PUnit)
            pure (ForInStep.yield PUnit.unit) : Sem (ForInStep PUnit))
      pure () : Sem Unit) = T0
  have tail : wpAny (model prog w) A T0 Q E s := by
    rw [← hT]
    refine wpAny_bind (wpAny_dictEntries hoo hdo' ?_)
    refine wpAny_bind (wpAny_dictEpoch hoo hdo' ?_)
    refine wpAny_bind ?_
    rw [List.range_eq_range']
    refine wpAny_forIn_list _
      (fun rest _ s' => ∃ h' i, s' = { s with heap := h' } ∧ rest = List.range' i (eso.size - i) ∧ i ≤ eso.size ∧ h'.DictOf knd d (merged kvs (more.take i)) ∧ h'.get? o = some oo ∧ Heap.SameBut d s.heap h')
      _ ?_ ?_ _ _ ⟨s.heap, 0, rfl, by simp, Nat.zero_le _, by simpa [merged] using hd, hoo, Heap.SameBut.refl _ _⟩
    · rintro x rest b s' ⟨h', i, rfl, hr2, hi, hd', hoo', hs'⟩
      have hlt : i < eso.size := by
        rcases Nat.lt_or_ge i eso.size with h | h
        · exact h
        · rw [Nat.sub_eq_zero_of_le h] at hr2
          simp at hr2
      obtain ⟨rfl, hrest⟩ : x = i ∧ rest = List.range' (i + 1) (eso.size - (i + 1)) := by
        have e : eso.size - i = (eso.size - (i + 1)) + 1 := by omega
        rw [e, List.range'_succ] at hr2
        injection hr2 with h1 h2
        exact ⟨h1, h2⟩
      refine wpAny_bind (wpAny_dictEntries hoo' hdo' ?_)
      rw [Array.getElem?_eq_getElem hlt]
      obtain ⟨kv, hkv⟩ : ∃ kv, more[x]? = some kv := ⟨more[x]'(by rw [hlen]; exact hlt), List.getElem?_eq_getElem _⟩
      obtain ⟨k, v⟩ := kv
      obtain ⟨hkey, hval⟩ := hpo.get? (e := eso[x]) (by simp [hlt]) hkv
      obtain ⟨k', hkey', hhash⟩ := hko eso[x] (Array.getElem_mem hlt)
      obtain rfl : k' = k := knd.inj _ _ _ hkey' hkey
      dsimp only
      rw [if_neg (by decide), hhash, hval]
      have hmx : (merged kvs (more.take x)).length ≤ sizeLine := by
        have e1 := merged_length_le kvs (more.take x)
        have e2 : (more.take x).length ≤ more.length := by rw [List.length_take]; omega
        omega
      refine wpAny_bind (wpAny_holding (wpAny_dictPut_pairs hkey hd' (fun h'' hd'' hs'' => ?_) hmx))
      have hoo'' : h''.get? o = some oo := (hs''.2 o (Ne.symm hdo)).trans hoo'
      refine wpAny_bind (wpAny_dictEpoch hoo'' hdo' ?_)
      rw [if_neg (by simp)]
      exact wpAny_pure ⟨h'', x + 1, rfl, hrest, hlt, by rw [merged_take_succ kvs more x (k', v) hkv]; exact hd'', hoo'', hs'.trans hs''⟩
    · rintro b s' ⟨h', i, rfl, hr2, hi, hd', hoo', hs'⟩
      have hin : i = eso.size := by
        rcases Nat.lt_or_ge i eso.size with h | h
        · have e : eso.size - i = (eso.size - (i + 1)) + 1 := by omega
          rw [e, List.range'_succ] at hr2
          exact nomatch hr2
        · exact Nat.le_antisymm hi h
      refine wpAny_pure (hQ h' ?_ hs')
      rw [hin, ← hlen, List.take_length] at hd'
      exact hd'
  by_cases hemp : esd.isEmpty = true
  · rw [if_pos hemp]
    refine wpAny_bind (wpAny_dictEntries hoo hdo' ?_)
    refine wpAny_bind (PySem.MeetsSeq2.wpAny_forIn_array _ (fun rest _ s' => s' = s ∧ ∀ e ∈ rest, e ∈ eso) _ ?_ ?_ _ _ ⟨rfl, fun e he => Array.mem_toList_iff.mp he⟩)
    · rintro e rest b s' ⟨rfl, hm⟩
      obtain ⟨k, hkey, _⟩ := hko e (hm e List.mem_cons_self)
      have fin : wpAny (model prog w) A (pure (ForInStep.yield PUnit.unit)) (fun r s'' => match r with | .yield b' => s'' = s' ∧ ∀ e ∈ rest, e ∈ eso | .done b' => False) E s' := wpAny_pure ⟨rfl, fun e he => hm e (List.mem_cons_of_mem _ he)⟩
      cases ek : e.key with
      | ref a =>
        rw [ek, hr k a] at hkey
        cases hkey
      | _ => exact fin
    rintro b s' ⟨rfl, _⟩
    exact tail
  · rw [if_neg hemp]
    exact tail
end
section
variable {X : Cx} {T : Tab} {F : Fr} {a b c e : Expr} {pos : Pos} {ta tb : TE}
def tStar2 (ta tb : TE) : TE := fun σ H Q => ∀ p, H p = none → ta σ (upd H p (.dK [])) fun x H1 => ∃ a kvs, x = .ref a ∧ H1 p = some (.dK []) ∧ Rd H1 a (.dK kvs) ∧ a ≠ p ∧ kvs.length ≤ 1000 ∧
  tb σ (upd H1 p (.dK (mergeK [] kvs))) fun y H2 => ∃ b more, y = .ref b ∧ H2 p = some (.dK (mergeK [] kvs)) ∧ Rd H2 b (.dK more) ∧ b ≠ p ∧ more.length ≤ 1000 ∧ Q (.ref p) (upd H2 p (.dK (mergeK (mergeK [] kvs) more)))
theorem d_merge {pins : List (Addr × Obj)} {σ : L2.St} {H : Hp} {s : Shared} {p o : Addr} {kvs more : List (Key × V)} {E : Value → Shared → Prop} {Q : Unit → Shared → Prop} (I : Inv X pins σ H s) (hp : H p = some (.dK kvs)) (ho : Rd H o (.dK more)) (ne : o ≠ p) (h1 : kvs.length ≤ 1000000) (h2 : more.length ≤ 1000000)
    (h : ∀ s', Inv X pins σ (upd H p (.dK (mergeK kvs more))) s' → Q () s') : wpAny (model X.prog X.w) X.A (mergeMapping p (.ref o) false) Q E s := by
  have sz : sizeLine = 16777216 := sizeLine_eq
  obtain ⟨z, hd, vs, rel, dd⟩ := dk_of I.hok hp
  obtain ⟨z2, hd2, vs2, rel2, dd2⟩ := dk_rd I.hok ho
  have hl := length_mergeK more kvs
  refine wpAny_mergeMapping (knd := mixKind X.prog X.w) (fun k a => mix_flat k a) (Ne.symm ne) hd2 dd dd2 (fun h' dd' hs => h _ ?_) (by rw [← rel.length, ← rel2.length]; omega)
  have he : ∃ q, h'.get? p = some q := let ⟨q, _, _, hq, _⟩ := dd'; ⟨q, hq⟩
  refine d_write I (by rw [hp]; exact True.intro) hs he (dk_new (by omega) hd (rel2.merge rel) dd')
theorem pe_star2 (ha : PE X a ta) (hb : PE X b tb) : PE X (.Dict [none, none] [a, b] pos) (tStar2 ta tb) := by
  refine ⟨fun pins s σ H Q I q => ?_⟩
  rw [arm_eval_Dict]
  refine wpAny_bind (wpAny_standAt ?_)
  show wpAny _ _ (dictDisplay [(none, do let x ← eval a X.env; standAt pos; pure x), (none, do let x ← eval b X.env; standAt pos; pure x)]) _ _ _
  unfold dictDisplay
  simp only [List.forIn_cons, List.forIn_nil, List.isEmpty_nil, if_true, bind_assoc, pure_bind]
  have hn := I.hok.fresh (Nat.le_refl s.heap.objs.size)
  refine wpAny_bind (wpAny_alloc ?_)
  have I1 := I.laid (a := s.heap.objs.size) (o := .dK []) (h' := s.heap.push { cls := .type "dict", data := .dict #[] }) (t' := s.toks) (fun _ _ q => Heap.get?_push_of_some _ q) (Nat.le_refl _) (dk_empty s.heap I.big)
  refine wpAny_bind (wpAny_holding (wpAny_bind (thn (ha.run pins _ σ _ _ I1 (q _ hn)) fun v1 s2 ⟨x, H1, I2, r1, q1⟩ => wpAny_bind (wpAny_standAt (wpAny_pure ?_)))))
  obtain ⟨o1, kvs, rfl, hp1, ho1, ne1, l1, q1⟩ := q1
  cases r1
  refine wpAny_bind (wpAny_onRaise (wpAny_tryCatch (wpAny_onRaise (wpAny_holding (d_merge I2 hp1 ho1 ne1 (by simp) (by omega) fun s3 I3 => ?_)))))
  refine wpAny_bind (wpAny_holding (wpAny_bind (thn (hb.run pins _ σ _ _ I3 q1) fun v2 s4 ⟨y, H2, I4, r2, q2⟩ => wpAny_bind (wpAny_standAt (wpAny_pure ?_)))))
  obtain ⟨o2, more, rfl, hp2, ho2, ne2, l2, q2⟩ := q2
  cases r2
  have lm := length_mergeK kvs []
  refine wpAny_bind (wpAny_onRaise (wpAny_tryCatch (wpAny_onRaise (wpAny_holding (d_merge I4 hp2 ho2 ne2 (by rw [List.length_nil] at lm; omega) (by omega) fun s5 I5 => ?_)))))
  exact wpAny_pure ⟨.ref s.heap.objs.size, _, I5, rfl, q2⟩
end
section
variable {X : Cx} {T : Tab} {F : Fr} {a b c e : Expr} {pos : Pos} {ta tb : RE}
variable {B B' B1 H H' H1 : Hp} {σ : L2.St} {G G' G1 : Lo} {v : V} {o : Opd}
theorem Kp.alter {p : Addr} {u : HO} (k : Kp B H σ G B1 H1 G1) (hp : H p = none) : Kp B H σ G B1 (upd H1 p u) G1 := by
  refine ⟨k.b, fun a o e m na => ?_, k.n, k.g, fun a ha => ?_⟩
  · rw [upd_ne (ne_of_none e hp)]
    exact k.h a o e m na
  · by_cases z : a = p
    · exact absurd hp (by rw [← z]; exact ha)
    · rw [upd_ne z]
      exact k.t a ha
theorem opd_nep {p : Addr} {es : List (Key × D)} (S : Sta T F B H σ G) (w : OpdOk T F B H σ G v o) (c : cont G o = some (.dct es)) (bp : B p = none) (np : ¬ Ownd σ G p) (nw : ∀ x, o = .new x → v ≠ .ref p) : v ≠ .ref p := by
  cases o with
  | imm d =>
    have c : some d = some (D.dct es) := c
    cases c
    have w : Is T B v (.dct es) := w
    cases w with
    | dct h l =>
      intro z
      cases z
      rcases h with h | ⟨_, h⟩ <;> (rw [bp] at h; cases h)
  | own i =>
    have w : σ[i]? = some (some v) := w
    intro z
    subst z
    cases eg : G[i]? with
    | none =>
      have c : (match G[i]? with | some (.own w) => w.d | some (.par _ w) => w.d | some (.imm d) => some d | _ => none) = some (D.dct es) := c
      rw [eg] at c
      cases c
    | some sl =>
      cases sl with
      | no =>
        have c : (match G[i]? with | some (.own w) => w.d | some (.par _ w) => w.d | some (.imm d) => some d | _ => none) = some (D.dct es) := c
        rw [eg] at c
        cases c
      | own ow => exact np ⟨i, w, ow, .inl eg⟩
      | par j ow => exact np ⟨i, w, ow, .inr ⟨j, eg⟩⟩
      | imm d =>
        obtain ⟨u, h1, h2⟩ := S.sl i _ eg
        rw [w] at h1
        cases h1
        have c : (match G[i]? with | some (.own w) => w.d | some (.par _ w) => w.d | some (.imm d) => some d | _ => none) = some (D.dct es) := c
        rw [eg] at c
        cases c
        cases h2 with
        | dct h l =>
          rcases h with h | ⟨_, h⟩ <;> (rw [bp] at h; cases h)
  | new x => exact nw x rfl
@[simp ↓] def tSt2 (ta tb : RE) : RE := fun G K => ta G fun o G1 => match cont G1 o with
  | some (.dct es) => es.length ≤ 1000 ∧ tb G1 fun o2 G2 => match cont G2 o2 with
    | some (.dct more) => more.length ≤ 1000 ∧ K (.new (.dct (mergeD (mergeD [] es) more))) G2
    | _ => False
  | _ => False
theorem tStar2_G {Q : VK} (q : tStar2 (tG X a) (tG X b) σ H Q) : tG X (.Dict [none, none] [a, b] pos) σ H Q := tG_of (pe_star2 (pe_G X a) (pe_G X b)) q
theorem pd_star2 (ha : PD X T F a ta) (hb : PD X T F b tb) : PD X T F (.Dict [none, none] [a, b] pos) (tSt2 ta tb) := by
  refine ⟨fun hK hc B H σ G K S q => tStar2_G fun p hp => ?_⟩
  have no := S.notOwn hp
  have f : F.H0 p = none := by
    cases e : F.H0 p with
    | none => rfl
    | some o => exact absurd hp (S.alive (by rw [e]; exact fun z => nomatch z))
  refine tG_mono (ha.run hK hc B _ σ G _ (S.freshN (u := .dK []) hp) q) fun v H1 ⟨B1, o, G1, S1, k1, w1, nw1, q1⟩ => ?_
  have e1 : H1 p = some (.dK []) := k1.h p _ upd_same (nt_dK _) no
  have b1 : B1 p = none := k1.n p (by rw [upd_same]; exact fun z => nomatch z) (S.bh.free hp) no
  have n1 : ¬ Ownd σ G1 p := fun z => no (k1.g _ z)
  dsimp only at q1
  split at q1
  · rename_i es c1
    obtain ⟨l1, q1⟩ := q1
    have ne1 : v ≠ .ref p := opd_nep S1 w1 c1 b1 n1 fun x ex ev => by
      have := nw1 p x ex ev
      rw [upd_same] at this
      cases this
    obtain ⟨a1, kvs, rfl, ha1, i1⟩ := S1.see w1 c1
    refine ⟨a1, kvs, rfl, e1, ha1, fun z => ne1 (by rw [z]), by rw [isK_len i1]; exact l1, ?_⟩
    have S1' := S1.alter (u := .dK (mergeK [] kvs)) b1 f (some_nt e1 (nt_dK _)) n1
    refine tG_mono (hb.run hK hc B1 _ σ G1 _ S1' q1) fun v2 H2 ⟨B2, o2, G2, S2, k2, w2, nw2, q2⟩ => ?_
    have e2 : H2 p = some (.dK (mergeK [] kvs)) := k2.h p _ upd_same (nt_dK _) n1
    have b2 : B2 p = none := k2.n p (by rw [upd_same]; exact fun z => nomatch z) b1 n1
    have n2 : ¬ Ownd σ G2 p := fun z => n1 (k2.g _ z)
    dsimp only at q2
    split at q2
    · rename_i more c2
      obtain ⟨l2, q2⟩ := q2
      have ne2 : v2 ≠ .ref p := opd_nep S2 w2 c2 b2 n2 fun x ex ev => by
        have := nw2 p x ex ev
        rw [upd_same] at this
        cases this
      obtain ⟨a2, more', rfl, ha2, i2⟩ := S2.see w2 c2
      refine ⟨a2, more', rfl, e2, ha2, fun z => ne2 (by rw [z]), by rw [isK_len i2]; exact l2, ?_⟩
      have i3 := isK_merge (i2) (isK_merge (i1.mono k2.b) (.nil (T := T) (B := B2)))
      have kk := (((Kp.freshN (B := B) (σ := σ) (G := G) (u := .dK []) hp).trans k1).alter (u := .dK (mergeK [] kvs)) hp).trans k2
      have on : OwnIs T B2 (upd H2 p (.dK (mergeK (mergeK [] kvs) more'))) p (.dct (mergeD (mergeD [] es) more)) := ⟨_, upd_same, i3⟩
      exact ⟨B2, .new (.dct (mergeD (mergeD [] es) more)), G2, S2.alter b2 f (some_nt e2 (nt_dK _)) n2, kk.alter hp, ⟨p, rfl, b2, on, f, n2⟩, fun p' w _ e => by cases e; exact hp, q2⟩
    · exact q2.elim
  · exact q1.elim
end
end Fx
end
section
set_option Elab.async false
set_option linter.all false
set_option maxRecDepth 100000
set_option maxHeartbeats 2000000
/-! Fx21: {k: v for target in iter if ..}; for k, v in d.items(); e is True -/
namespace Fx
open PySem PySem.Spec PyProof.Rows L2
section
variable {X : Cx} {T : Tab} {F : Fr} {a b c e : Expr} {es : List Expr} {pos : Pos} {ta tb tc tk te : RE} {tt : RT}
variable {B B' B1 H H' H1 : Hp} {σ : L2.St} {G G' G1 : Lo} {v : V} {o : Opd}
@[simp ↓] def dcGo (g : RG) (tt : RT) (tk te : RE) (vs : List Nat) (K : Opd → Lo → Prop) : List D → List (Key × D) → Lo → Prop
  | [], acc, G => K (.new (.dct acc)) G
  | d :: ds, acc, G => g d (wipeG G vs) fun G1 => tt G1 fun b G2 => if b = true then tFz tk G2 fun kd G3 => tFz te G3 fun y G4 => match keyOfD kd with
    | some k => acc.length < sizeLine ∧ dcGo g tt tk te vs K ds (putD acc k y) (wipeG G4 vs)
    | none => False
    else dcGo g tt tk te vs K ds acc (wipeG G2 vs)
@[simp ↓] def tDc (wi : RI) (g : RG) (tt : RT) (tk te : RE) (vs : List Nat) : RE := fun G K => wi G fun ds G1 => dcGo g tt tk te vs K ds [] G1
theorem run_dc0 {tg iter kx elt : Expr} {ifs : List Expr} {scope : Scope} {g : RG} {vg : TG} {is vs : List Nat} (hg : Blk X scope fun Y => PDC Y T F tg g vg is) (ht : Blk X scope fun Y => PDTs Y T F ifs tt) (hk : Blk X scope fun Y => PD Y T F kx tk) (he : Blk X scope fun Y => PD Y T F elt te) (hs : ∀ i ∈ is, i ∈ vs)
    (s0 : Shared) (hK : X.K = T.K) (hc : X.calm = true) (hN : σ.length = X.N.length) {K : Opd → Lo → Prop} {Q : VK} (S : Sta T F B H σ G) (h : tGI X tg iter σ H (PostI T F B H σ G fun ds G1 => dcGo g tt tk te vs K ds [] G1)) (hQ : ∀ v H', Post T F B H σ G K v H' → Q v H') :
    L2.tDc (tGI X tg iter) vg (tBkT X scope ifs) (tBk X scope kx) (tBk X scope elt) vs σ H Q := by
  refine tGI_mono h fun J H1 ⟨B1, ds, G1, S1, k1, it, q⟩ => fun Dl hD => ?_
  have f0 : F.H0 Dl = none := by
    cases e : F.H0 Dl with
    | none => rfl
    | some o => exact absurd hD (S1.alive (by rw [e]; exact fun z => nomatch z))
  refine ⟨fun i m H' => m = ds.length - i ∧ i ≤ ds.length ∧ ∃ B' Gi acc vacc, Sta T F B' H' σ Gi ∧ Kp B1 H1 σ G1 B' H' Gi ∧ H' Dl = some (.dK vacc) ∧ B' Dl = none ∧ IsK T B' vacc acc ∧ dcGo g tt tk te vs K (ds.drop i) acc Gi,
    ⟨_, rfl, Nat.zero_le _, B1, G1, [], [], S1.freshN hD, Kp.freshN hD, upd_same, S1.bh.free hD, .nil, q⟩, ?_⟩
  rintro i m H' ⟨rfl, hle, B', Gi, acc, vacc, S', k', hl, bl, la, q'⟩
  have nOw : ∀ {σ2 : L2.St} {G2 : Lo}, (∀ p, Ownd σ2 G2 p → Ownd σ Gi p) → ¬ Ownd σ2 G2 Dl := fun u z => S1.notOwn hD (k'.g _ (u _ z))
  by_cases hlt : i < ds.length
  · refine .inr ⟨it.go i B' H' k'.b S'.bh hlt, fun H2 => ∃ B' Gi acc vacc, Sta T F B' H2 σ Gi ∧ Kp B1 H1 σ G1 B' H2 Gi ∧ H2 Dl = some (.dK vacc) ∧ B' Dl = none ∧ IsK T B' vacc acc ∧ dcGo g tt tk te vs K (ds.drop (i + 1)) acc Gi,
      fun H2 z => ⟨ds.length - (i + 1), by omega, rfl, hlt, z⟩, fun x H2 y => ?_⟩
    have hd : ds[i]? = some ds[i] := List.getElem?_eq_getElem hlt
    obtain ⟨B2, S2, k2, i2⟩ := it.yld i B' H' F σ Gi x H2 ds[i] k'.b S' hd y
    rw [List.drop_eq_getElem_cons hlt] at q'
    have ow : OthS vs σ (wipe σ vs) := ⟨wipe_len vs σ, fun j hj => wipe_out vs σ j hj⟩
    have Sw := S2.wipeTo vs ow
    refine (hg s0 H 0 [] []).ok hK hc B2 H2 (wipe σ vs) _ x ds[i] _ _ (by rw [wipe_len]; exact hN) Sw i2 q' fun σ3 G3 S3 o3 w3 q3 => ?_
    have w03 : ∀ p, Ownd σ3 G3 p → Ownd σ Gi p := fun p z => ownd_wipe ow (w3 p z)
    have e3 : wipe σ3 vs = wipe σ vs := (wipe_eq o3 hs).trans (wipe_wipe vs σ)
    have back : OthS vs σ3 σ := ⟨by rw [o3.1, wipe_len], fun j hj => by rw [o3.2 j (fun z => hj (hs j z)), wipe_out vs σ j hj]⟩
    have hl2 : H2 Dl = some (.dK vacc) := k2.h _ _ hl (nt_dK _) (nOw fun _ z => z)
    have bl2 : B2 Dl = none := k2.n _ (by rw [hl]; exact fun z => nomatch z) bl (nOw fun _ z => z)
    refine ⟨e3, fun s1 H0 C cl fp => tGTs_mono ((ht s1 H0 C cl fp).run hK hc B2 H2 σ3 G3 _ S3 q3) fun b H4 ⟨B4, G4, S4, k4, q4⟩ => ?_⟩
    have hl4 : H4 Dl = some (.dK vacc) := k4.h _ _ hl2 (nt_dK _) (nOw w03)
    have bl4 : B4 Dl = none := k4.n _ (by rw [hl2]; exact fun z => nomatch z) bl2 (nOw w03)
    have w04 : ∀ p, Ownd σ3 G4 p → Ownd σ Gi p := fun p z => w03 p (k4.g p z)
    have k04 : Kp B' H' σ Gi B4 H4 (wipeG G4 vs) := k2.trans (k4.chg w03 fun p z => ownd_wipe back z)
    cases b with
    | true =>
      rw [if_pos rfl] at q4 ⊢
      refine fun s2 H0' C' cl' fp' => tG_mono (run_fz (hk s2 H0' C' cl' fp') hK hc S4 q4) fun yk H5 ⟨B5, d5, G5, S5, k5, i5, q5⟩ => ?_
      have hl5 : H5 Dl = some (.dK vacc) := k5.h _ _ hl4 (nt_dK _) (nOw w04)
      have bl5 : B5 Dl = none := k5.n _ (by rw [hl4]; exact fun z => nomatch z) bl4 (nOw w04)
      have w05 : ∀ p, Ownd σ3 G5 p → Ownd σ Gi p := fun p z => w04 p (k5.g p z)
      refine fun s3 H0' C' cl' fp' => tG_mono (run_fz (he s3 H0' C' cl' fp') hK hc S5 q5) fun y H6 ⟨B6, d6, G6, S6, k6, i6, q6⟩ => ?_
      have hl6 : H6 Dl = some (.dK vacc) := k6.h _ _ hl5 (nt_dK _) (nOw w05)
      have bl6 : B6 Dl = none := k6.n _ (by rw [hl5]; exact fun z => nomatch z) bl5 (nOw w05)
      have w06 : ∀ p, Ownd σ3 G6 p → Ownd σ Gi p := fun p z => w05 p (k6.g p z)
      have k06 : Kp B' H' σ Gi B6 H6 (wipeG G6 vs) := k2.trans (((k4.trans k5).trans k6).chg w03 fun p z => ownd_wipe back z)
      cases ek : keyOfD d5 with
      | none =>
        rw [ek] at q6
        exact q6.elim
      | some k =>
        rw [ek] at q6
        obtain ⟨hz, q6⟩ := q6
        have lk := isK_put (k := k) (la.mono (k2.b.trans (k4.b.trans (k5.b.trans k6.b)))) i6
        refine ⟨vacc, k, key_of i5 ek, hl6, by rw [isK_len la]; exact hz, B6, wipeG G6 vs, putD acc k d6, putK vacc k y, (S6.other (u := .dK (putK vacc k y)) bl6 f0 (some_nt hl6 (nt_dK _)) (nOw w06)).wipeTo vs back, ?_, upd_same, bl6, lk, q6⟩
        have k7 := k'.trans k06
        exact ⟨k7.b, fun a o e m n => by rw [upd_ne (ne_of_none e hD)]; exact k7.h a o e m n, k7.n, k7.g, fun a hh => by
          by_cases z : a = Dl
          · subst z
            rw [upd_same]
            exact fun z => nomatch z
          · rw [upd_ne z]
            exact k7.t a hh⟩
    | false =>
      rw [if_neg Bool.false_ne_true] at q4 ⊢
      exact ⟨B4, wipeG G4 vs, acc, vacc, S4.wipeTo vs back, k'.trans k04, hl4, bl4, la.mono (k2.b.trans k4.b), q4⟩
  · have e0 : i = ds.length := by omega
    subst e0
    rw [List.drop_length] at q'
    refine .inl ⟨it.stop _ B' H' k'.b S'.bh (Nat.le_refl _), hQ _ _ (Post.more k1 ⟨B', .new (.dct acc), Gi, S', k', ⟨Dl, rfl, bl, ⟨vacc, hl, la⟩, f0, nOw fun _ z => z⟩, fun p w _ e => ?_, q'⟩)⟩
    cases e
    exact hD
theorem run_dc {tg iter kx elt : Expr} {ifs : List Expr} {scope : Scope} {wi : RI} {g : RG} {vg : TG} {is vs : List Nat} (hi : PDI X T F tg iter wi) (hg : Blk X scope fun Y => PDC Y T F tg g vg is) (ht : Blk X scope fun Y => PDTs Y T F ifs tt) (hk : Blk X scope fun Y => PD Y T F kx tk) (he : Blk X scope fun Y => PD Y T F elt te) (hs : ∀ i ∈ is, i ∈ vs)
    (s0 : Shared) (hK : X.K = T.K) (hc : X.calm = true) (hN : σ.length = X.N.length) {K : Opd → Lo → Prop} {Q : VK} (S : Sta T F B H σ G) (h : tDc wi g tt tk te vs G K) (hQ : ∀ v H', Post T F B H σ G K v H' → Q v H') :
    L2.tDc (tGI X tg iter) vg (tBkT X scope ifs) (tBk X scope kx) (tBk X scope elt) vs σ H Q :=
  run_dc0 hg ht hk he hs s0 hK hc hN S (hi.run hK hc B H σ G _ S h) hQ
theorem pd_dcomp {tg iter kx elt : Expr} {ifs : List Expr} {scope : Scope} {own : List (Str × Nat)} {wi : RI} {g : RG} {vg : TG} {is : List Nat} (hN : X.N.Nodup) (hi : PDI X T F tg iter wi) (ok : BlkOk X.N X.env.scope scope own) (hg : Blk X scope fun Y => PDC Y T F tg g vg is)
    (ht : Blk X scope fun Y => PDTs Y T F ifs tt) (hk : Blk X scope fun Y => PD Y T F kx tk) (he : Blk X scope fun Y => PD Y T F elt te) (hs : ∀ i ∈ is, i ∈ own.map (·.2) := by decide) (hf : ∀ x, foldedSetIterable iter X.env x = pure x := by intro _; rfl) :
    PD X T F (.DictComp kx elt [⟨tg, iter, ifs, 0⟩] scope pos) (tDc wi g tt tk te (own.map (·.2))) := by
  refine ⟨fun hK hc B H σ G K S h pins s I => ?_⟩
  refine (pe_dc hc hN (pi_G X tg iter) ok (fun s H C cl fp => (hg s H C cl fp).pg) pts_Bk pe_Bk pe_Bk hf).run pins s σ H _ I ?_
  exact run_dc hi hg ht hk he hs s hK hc I.len S h fun _ _ z => z
theorem sw_trueD {kx elt : Expr} {gs : List Comprehension} {scope : Scope} {pos py : Pos} {y : Str} {l : Nat} {env : Env} (hk : env.scope.kind = .function) (hy : env.scope.names.lookup y = some .local) (hl : (py.line == pos.line) = true)
    (ha : (scope.names.any fun (n, k) => n == y && (k == .local || k == .cell)) = false) : swapsWith (.DictComp kx elt gs scope pos) (some (.Name y py)) l env = pure true := by
  have ky : env.kindOf y = some .local := hy
  have hb : env.blockKind = .function := by unfold Env.blockKind; rw [hk]; rfl
  unfold swapsWith
  simp only [hb, ky, ha, Expr.pos, hl]
  rfl
theorem ps_setDc {i : Nat} {y : Str} {py : Pos} {kx elt tg iter : Expr} {ifs : List Expr} {scope : Scope} {own : List (Str × Nat)} {pos spos : Pos} {wi : TI} {g : TG} {tt : TT} {tk te : TE} (hc : X.calm = true) (hN : X.N.Nodup) (hy : X.N[i]? = some y) (hyl : X.env.scope.names.lookup y = some .local)
    (hsw : swapsWith (.DictComp kx elt [⟨tg, iter, ifs, 0⟩] scope pos) (some (.Name y py)) spos.line X.env = pure true) (hi : PI X tg iter wi) (ok : BlkOk X.N X.env.scope scope own)
    (hg : ∀ (s : Shared) (H : Hp) (C : Addr) (cl : List (Str × Addr)) (fp : List Addr), PG (X.blk s H scope (compEnvC scope cl C X.env) fp) tg g) (ht : ∀ (s : Shared) (H : Hp) (C : Addr) (cl : List (Str × Addr)) (fp : List Addr), PTs (X.blk s H scope (compEnvC scope cl C X.env) fp) ifs tt)
    (hk : ∀ (s : Shared) (H : Hp) (C : Addr) (cl : List (Str × Addr)) (fp : List Addr), PE (X.blk s H scope (compEnvC scope cl C X.env) fp) kx tk)
    (he : ∀ (s : Shared) (H : Hp) (C : Addr) (cl : List (Str × Addr)) (fp : List Addr), PE (X.blk s H scope (compEnvC scope cl C X.env) fp) elt te) (hs : ∀ x, foldedSetIterable iter X.env x = pure x := by intro _; rfl) :
    PS X (.Assign [.Name y py] (.DictComp kx elt [⟨tg, iter, ifs, 0⟩] scope pos) spos) (tAsg (L2.tDc wi g tt tk te (own.map (·.2))) (gName i)) := by
  refine ⟨fun pins s σ H D I h => ?_⟩
  rw [exec_Assign_Name_used _ _ _ _ hsw]
  refine wpAny_bind (wpAny_standAt (wpAny_bind ?_))
  show wpAny _ X.A (do let _ ← comprehension (.DictComp kx elt [⟨tg, iter, ifs, 0⟩] scope pos) scope X.env (firstIterPos [⟨tg, iter, ifs, 0⟩] pos) newDict false (eval iter X.env) (some (assign (.Name y py) X.env))) _ _ s
  have h : L2.tDc wi g tt tk te (own.map (·.2)) σ H (fun x H1 => gName i x σ H1 D.nx) := h
  refine wpAny_bind (thn (dc_core (Qf := fun _ s' => SP X pins D .next s') hc hN I hi ok hg ht hk he hs h fun L C s' m H' I' q hn f => ?_) fun _ s' hq => wpAny_pure (wpAny_pure hq))
  show wpAny _ _ (assign (.Name y py) X.env (.ref L)) _ _ _
  refine wpAny_assign_Name (store_ok2 (v := V.ref L) I' hN hy (.inl hyl) rfl (fun s2 I2 ⟨a, sb, ha⟩ => ?_) (.inr hyl))
  obtain ⟨f0, f1, f2, f3, f4, f5⟩ := f
  have haC : C ≠ a := by
    rcases ha with z | z
    · rw [z]; exact f1
    · exact fun e => f4 y a z e.symm
  refine ⟨m, hn.sameBut sb haC, fun h3 sb3 => ?_⟩
  exact ⟨_, H', I2.turned (t' := s2.toks) (fun b o hb e => (sb3.2 b hb).trans e) f0 f1 f3 f4 f5, q⟩
theorem pds_setDc (i : Nat) {y : Str} {py spos : Pos} {tg iter kx elt : Expr} {ifs : List Expr} {scope : Scope} {own : List (Str × Nat)} {wi : RI} {g : RG} {vg : TG} {is : List Nat} (hN : X.N.Nodup) (hi : PDI X T F tg iter wi) (ok : BlkOk X.N X.env.scope scope own) (hg : Blk X scope fun Y => PDC Y T F tg g vg is)
    (ht : Blk X scope fun Y => PDTs Y T F ifs tt) (hk : Blk X scope fun Y => PD Y T F kx tk) (he : Blk X scope fun Y => PD Y T F elt te) (hy : X.N[i]? = some y := by rfl) (hyl : X.env.scope.names.lookup y = some .local := by rfl)
    (hsw : swapsWith (.DictComp kx elt [⟨tg, iter, ifs, 0⟩] scope pos) (some (.Name y py)) spos.line X.env = pure true := by exact sw_trueD rfl rfl rfl (by decide +kernel)) (hs : ∀ i ∈ is, i ∈ own.map (·.2) := by decide) (hf : ∀ x, foldedSetIterable iter X.env x = pure x := by intro _; rfl) :
    PDS X T F (.Assign [.Name y py] (.DictComp kx elt [⟨tg, iter, ifs, 0⟩] scope pos) spos) (sSet i (tDc wi g tt tk te (own.map (·.2)))) := by
  refine ⟨fun hK hc B H σ G D S h pins s I => ?_⟩
  have hl : i < σ.length := by
    rw [I.len]
    exact (List.getElem?_eq_some_iff.mp hy).1
  refine (ps_setDc hc hN hy hyl hsw (pi_G X tg iter) ok (fun s H C cl fp => (hg s H C cl fp).pg) pts_Bk pe_Bk pe_Bk hf).run pins s σ H _ I ?_
  show L2.tDc (tGI X tg iter) vg (tBkT X scope ifs) (tBk X scope kx) (tBk X scope elt) (own.map (·.2)) σ H fun x H1 => gName i x σ H1 (toE T F B D).nx
  refine run_dc hi hg ht hk he hs s hK hc I.len S h fun v H1 ⟨B1, o, G1, S1, k1, w, _, q⟩ => ?_
  dsimp only at q
  cases e1 : asg G1 i o with
  | none =>
    rw [e1] at q
    exact q.elim
  | some G2 =>
    rw [e1] at q
    obtain ⟨B2, S2, e2⟩ := asg_ok S1 hl w e1
    exact ⟨B2, G2, S2, k1.b.trans e2, q⟩
/-! ### is True -/
@[simp ↓] def gIsB : G2 := fun G o p K => match cont G o, cont G p with
  | some (.bl a), some (.bl b) => K (.imm (.bl (decide (a = b)))) G
  | _, _ => False
@[simp ↓] def gNotB : G2 := fun G o p K => match cont G o, cont G p with
  | some (.bl a), some (.bl b) => K (.imm (.bl (!decide (a = b)))) G
  | _, _ => False
theorem opd_isB : OpD X T F (compareOp .Is) gIsB := by
  intro hK hc
  refine ⟨_, op_isBl, fun B H σ G x y o p K Q S hx hy h hq => ?_⟩
  unfold gIsB at h
  split at h
  · rename_i e1 e2
    exact ⟨_, _, see_bl S hx e1, see_bl S hy e2, hq _ _ (Post.imm S (.bl _) h)⟩
  · exact h.elim
theorem opd_notB : OpD X T F (compareOp .IsNot) gNotB := by
  intro hK hc
  refine ⟨_, op_notBl, fun B H σ G x y o p K Q S hx hy h hq => ?_⟩
  unfold gNotB at h
  split at h
  · rename_i e1 e2
    exact ⟨_, _, see_bl S hx e1, see_bl S hy e2, hq _ _ (Post.imm S (.bl _) h)⟩
  · exact h.elim
/-- f([new list]), f changing it -/
theorem pd_callN {Sq : Spec} {k : Nat} {f : Addr} {x : Str} {p : Pos} {W : WD} (Fn : FnX X T k f Sq) (hr : RoomG k X.A) (hm : X.mg x = some (.ref f)) (hk : PySem.W.keepIn X.K (.ref f) = true) (hp : PassD X T F W) (ha : PD X T F e te) (hg : Gl X x := by rfl)
    (hdb : (x == ("__debug__" : Str)) = false := by decide) (he : starEach [e] X.env = (false, eval e X.env) :: starEach [] X.env := by rfl) (hpl : (backTo pos (starEach [] X.env)).any (·.1) = false := by rfl) : PD X T F (.Call (.Name x p) [e] [] pos) (tCallN Sq W te) := by
  refine ⟨fun hK hc B H σ G K S h pins s I => ?_⟩
  refine wpAny_Call_Name_kw (ld_glob I hg hm ?_ hdb)
  have q0 : tCons (tG X e) tNil σ H (fun vs H' => ∃ v, vs = [v] ∧ Post T F B H σ G (fun o G1 => match o with
      | .new w => Sq [.own w] (fun o _ => K o G1) (fun c d _ => W c d G1)
      | _ => False) v H') := tG_mono (ha.run hK hc B H σ G _ S h) fun v H1 z => ⟨v, rfl, z⟩
  refine PySem.W.callWith_K (h₀ := X.base) I.ok.mod.kin hk (thn ((pa_cons (pe_G X e) pa_nil he).run pos pins s σ H _ I q0) fun us s1 ⟨vs, H1, I1, r, v, ev, B1, o, G1, S1, k1, w1, n1, q⟩ => ⟨I1.kIn, ?_⟩) he hpl
  subst ev
  cases o with
  | imm d => exact q.elim
  | own i => exact q.elim
  | new w =>
    obtain ⟨a, rfl, b1, oi, f1, no⟩ := w1
    have hn : H a = none := n1 a w rfl rfl
    have sp : spOf T Sq [.ref a] H1 (Post T F B H σ G K) (EX T F W σ) := by
      refine ⟨B1, [.own w], [a], _, _, S1.bh, S1.tb, .own b1 oi .nil, by simp, q, fun v B' H' outs o r hr k => new_called S1 k1 hn no f1 r hr k, fun c d dv B' H' outs r hx k => ?_⟩
      exact ⟨B', _, c, dv, rfl, hx, new_sta S1 no f1 r, k⟩
    exact run_fnX Fn hr (hp.at σ) I1 r sp
end
end Fx
end
section
set_option Elab.async false
set_option linter.all false
set_option maxRecDepth 100000
set_option maxHeartbeats 2000000
/-! Fx22: for k, v in d.items(), d a datum, locked while the loop runs -/
namespace Fx
open PySem PySem.Spec PyProof.Rows L2
/-! ### data without dicts -/
mutual
@[simp ↓] def flN : D → Bool
  | .tup ds => flNL ds
  | .lst ds => flNL ds
  | .slt _ fs => flNL fs
  | .dct _ => false
  | .ins _ _ => false
  | .exc _ d => flN d
  | _ => true
@[simp ↓] def flNL : List D → Bool
  | [] => true
  | d :: ds => flN d && flNL ds
end
@[simp ↓] def flNK : List (Key × D) → Bool
  | [] => true
  | (_, d) :: es => flN d && flNK es
@[simp ↓] def flO : List (Option D) → Bool
  | [] => true
  | some d :: fs => flN d && flO fs
  | none :: fs => flO fs
@[simp ↓] def flW : Own → Bool
  | .lst ds => flNL ds
  | .dct es => flNK es
  | .obj _ fs => flO fs
@[simp ↓] def flS : Slot → Bool
  | .no => true
  | .imm d => flN d
  | .own w => flW w
  | .par _ w => flW w
@[simp ↓] def flG : Lo → Bool
  | [] => true
  | s :: G => flS s && flG G
theorem flG_get : ∀ {G : Lo} {i : Nat} {s : Slot}, flG G = true → G[i]? = some s → flS s = true
  | [], _, _, _, h => by simp at h
  | t :: G, i, s, h, e => by
    have h : (flS t && flG G) = true := h
    rw [Bool.and_eq_true] at h
    cases i with
    | zero =>
      have e : t = s := by simpa using e
      rw [← e]
      exact h.1
    | succ i => exact flG_get h.2 (by simpa using e)
/-- what may be otherwise at dd: a dict, locked or not -/
structure Mv (B B' : Hp) (dd : Addr) : Prop where
  at_ : ∀ u, B dd = some u → ∃ kvs, u = .dK kvs ∨ ∃ o, u = .frz o (.dK kvs)
  ne : ∀ a, a ≠ dd → B' a = B a
  to : ∀ kvs, Rd B dd (.dK kvs) → Rd B' dd (.dK kvs)
section
variable {T : Tab} {B B' : Hp} {dd : Addr}
theorem Mv.keep (m : Mv B B' dd) {a : Addr} {u : HO} (h : B a = some u) (h1 : ∀ kvs, u ≠ .dK kvs) (h2 : ∀ o kvs, u ≠ .frz o (.dK kvs)) : B' a = some u := by
  by_cases z : a = dd
  · subst z
    obtain ⟨kvs, e | ⟨o, e⟩⟩ := m.at_ u h
    · exact (h1 kvs e).elim
    · exact (h2 o kvs e).elim
  · rw [m.ne a z]
    exact h
theorem Mv.sql (m : Mv B B' dd) {K : PySem.W.Frag} {a : Addr} {xs : List V} (h : SqL K B a xs) : SqL K B' a xs := by
  rcases h with (h | ⟨o, h⟩) | h
  · exact .inl (.inl (m.keep h (fun _ z => nomatch z) fun _ _ z => nomatch z))
  · exact .inl (.inr ⟨o, m.keep h (fun _ z => nomatch z) fun _ _ z => nomatch z⟩)
  · exact .inr h
theorem Mv.rd (m : Mv B B' dd) {a : Addr} {kvs : List (Key × V)} (h : Rd B a (.dK kvs)) : Rd B' a (.dK kvs) := by
  by_cases z : a = dd
  · subst z
    exact m.to _ h
  · rcases h with h | ⟨o, h⟩
    · exact .inl (by rw [m.ne a z]; exact h)
    · exact .inr ⟨o, by rw [m.ne a z]; exact h⟩
mutual
theorem Is.mvU (m : Mv B B' dd) : ∀ {v : V} {d : D}, Is T B v d → Is T B' v d
  | _, _, .non => .non
  | _, _, .bl b => .bl b
  | _, _, .int i => .int i
  | _, _, .str x => .str x
  | _, _, .tup h l => .tup (m.keep h (fun _ z => nomatch z) fun _ _ z => nomatch z) (IsL.mvU m l)
  | _, _, .lst h l => .lst (m.keep h (fun _ z => nomatch z) fun _ _ z => nomatch z) (IsL.mvU m l)
  | _, _, .scr h => .scr (m.sql h)
  | _, _, .dct h l => .dct (m.rd h) (IsK.mvU m l)
  | _, _, .slt h hd l => .slt (m.keep h (fun _ z => nomatch z) fun _ _ z => nomatch z) (m.keep hd (fun _ z => nomatch z) fun _ _ z => nomatch z) (IsL.mvU m l)
  | _, _, .ins h => .ins (m.keep h (fun _ z => nomatch z) fun _ _ z => nomatch z)
  | _, _, .cls c => .cls c
  | _, _, .ty n => .ty n
  | _, _, .exc h hd l => .exc (m.keep h (fun _ z => nomatch z) fun _ _ z => nomatch z) (m.keep hd (fun _ z => nomatch z) fun _ _ z => nomatch z) (Is.mvU m l)
theorem IsL.mvU (m : Mv B B' dd) : ∀ {vs : List V} {ds : List D}, IsL T B vs ds → IsL T B' vs ds
  | _, _, .nil => .nil
  | _, _, .cons h t => .cons (Is.mvU m h) (IsL.mvU m t)
theorem IsK.mvU (m : Mv B B' dd) : ∀ {vs : List (Key × V)} {ds : List (Key × D)}, IsK T B vs ds → IsK T B' vs ds
  | _, _, .nil => .nil
  | _, _, .cons h t => .cons (Is.mvU m h) (IsK.mvU m t)
theorem IsF.mvU (m : Mv B B' dd) : ∀ {vs : List (Str × V)} {ds : List (Str × D)}, IsF T B vs ds → IsF T B' vs ds
  | _, _, .nil => .nil
  | _, _, .cons h t => .cons (Is.mvU m h) (IsF.mvU m t)
end
theorem OwnIs.mv (m : Mv B B' dd) {H H' : Hp} {p : Addr} {w : Own} (h : OwnIs T B H p w) (hp : H' p = H p) : OwnIs T B' H' p w := by
  cases w with
  | lst ds =>
    obtain ⟨vs, a, b⟩ := h
    exact ⟨vs, by rw [hp]; exact a, b.mvU m⟩
  | dct es =>
    obtain ⟨vs, a, b⟩ := h
    exact ⟨vs, by rw [hp]; exact a, b.mvU m⟩
  | obj c fs =>
    obtain ⟨dx, vs, a, b, l, q⟩ := h
    refine ⟨dx, vs, by rw [hp]; exact a, m.keep b (fun _ z => nomatch z) (fun _ _ z => nomatch z), l, fun i d e => ?_⟩
    obtain ⟨v, k1, k2⟩ := q i d e
    exact ⟨v, k1, k2.mvU m⟩
end
def delAt (B : Hp) (d : Addr) : Hp := fun a => if a = d then none else B a
theorem delAt_ne {B : Hp} {a d : Addr} (h : a ≠ d) : delAt B d a = B a := if_neg h
theorem delAt_some {B : Hp} {a d : Addr} {o : HO} (h : delAt B d a = some o) : a ≠ d ∧ B a = some o := by
  unfold delAt at h
  split at h
  · cases h
  · rename_i z
    exact ⟨z, h⟩
section
variable {T : Tab} {F : Fr} {B B2 H H2 : Hp} {σ σ0 : L2.St} {G G0 : Lo} {d : Addr} {od : Obj} {kvs : List (Key × V)} {v : V} {o : Opd}
abbrev lkF (F : Fr) (d : Addr) : Fr := ⟨delAt F.B0 d, delAt F.H0 d, F.A0⟩
theorem mv_lock (hd : B d = some (.dK kvs)) : Mv B (upd B d (.frz od (.dK kvs))) d := ⟨fun u e => ⟨kvs, .inl (by rw [hd] at e; cases e; rfl)⟩, fun a h => upd_ne h, fun k q => by
  rcases q with q | ⟨_, q⟩
  · rw [hd] at q
    cases q
    exact .inr ⟨od, upd_same⟩
  · rw [hd] at q
    cases q⟩
theorem mv_unlock (hd : B2 d = some (.frz od (.dK kvs))) : Mv B2 (upd B2 d (.dK kvs)) d := ⟨fun u e => ⟨kvs, .inr ⟨od, by rw [hd] at e; cases e; rfl⟩⟩, fun a h => upd_ne h, fun k q => by
  rcases q with q | ⟨_, q⟩
  · rw [hd] at q
    cases q
  · rw [hd] at q
    cases q
    exact .inl upd_same⟩
theorem Sta.lock (S : Sta T F B H σ G) (hd : B d = some (.dK kvs)) : Sta T (lkF F d) (upd B d (.frz od (.dK kvs))) (upd H d (.frz od (.dK kvs))) σ G := by
  have m := mv_lock (od := od) hd
  refine ⟨fun a u e => ?_, fun a u e => ?_, fun a u e m' n => ?_, fun a ha => ?_, fun a h1 h2 => ?_, S.len, fun i s e => ?_, S.dj, fun a h => there_upd (S.al a fun q => h (by
    show delAt F.H0 d a = none
    unfold delAt
    split
    · rfl
    · exact q)), S.tb.swap hd (fun _ z => nomatch z)⟩
  · by_cases z : a = d
    · subst z
      rw [upd_same] at e ⊢
      exact e
    · rw [upd_ne z] at e ⊢
      exact S.bh a u e
  · obtain ⟨z, e⟩ := delAt_some e
    rw [upd_ne z]
    exact S.b0 a u e
  · obtain ⟨z, e⟩ := delAt_some e
    rw [upd_ne z]
    exact S.h0 a u e m' n
  · by_cases z : a = d
    · subst z
      rw [upd_same]
      exact fun z => nomatch z
    · rw [upd_ne z]
      exact S.a0 a ha
  · have z : a ≠ d := fun z => h1 (by show delAt F.H0 d a = none; unfold delAt; rw [if_pos z])
    have h1 : F.H0 a ≠ none := fun q => h1 (by show delAt F.H0 d a = none; rw [delAt_ne z]; exact q)
    have h2 : F.B0 a = none := by
      have h2 : delAt F.B0 d a = none := h2
      rwa [delAt_ne z] at h2
    rw [upd_ne z]
    exact S.nb a h1 h2
  · have q := S.sl i s e
    have ap : ∀ {p : Addr}, B p = none → p ≠ d := fun bp z => by rw [z, hd] at bp; cases bp
    have h0 : ∀ {p : Addr}, F.H0 p = none → (lkF F d).H0 p = none := fun {p} q => by
      show delAt F.H0 d p = none
      unfold delAt
      split
      · rfl
      · exact q
    cases s with
    | no => exact trivial
    | imm x =>
      obtain ⟨u, a, b⟩ := q
      exact ⟨u, a, b.mvU m⟩
    | own w =>
      obtain ⟨p, a, b, c, e⟩ := q
      exact ⟨p, a, by rw [upd_ne (ap b)]; exact b, c.mv m (upd_ne (ap b)), h0 e⟩
    | par j w =>
      obtain ⟨p, a, b, c, e⟩ := q
      exact ⟨p, a, by rw [upd_ne (ap b)]; exact b, c.mv m (upd_ne (ap b)), e⟩
theorem own_un (S : Sta T (lkF F d) B2 H2 σ G) (e : B2 d = some (.frz od (.dK kvs))) {p : Addr} {w : Own} (b : B2 p = none) (c : OwnIs T B2 H2 p w) : upd B2 d (.dK kvs) p = none ∧ OwnIs T (upd B2 d (.dK kvs)) (upd H2 d (.dK kvs)) p w ∧ ((lkF F d).H0 p = none → F.H0 p = none) := by
  have ap : p ≠ d := fun z => by rw [z, e] at b; cases b
  refine ⟨by rw [upd_ne ap]; exact b, c.mv (mv_unlock e) (upd_ne ap), fun q => ?_⟩
  have q : delAt F.H0 d p = none := q
  rwa [delAt_ne ap] at q
theorem Sta.unlock (S0 : Sta T F B H σ0 G0) (hd : B d = some (.dK kvs)) (S : Sta T (lkF F d) B2 H2 σ G) (e : B2 d = some (.frz od (.dK kvs))) : Sta T F (upd B2 d (.dK kvs)) (upd H2 d (.dK kvs)) σ G := by
  refine ⟨fun a u q => ?_, fun a u q => ?_, fun a u q m' n => ?_, fun a ha => ?_, fun a h1 h2 => ?_, S.len, fun i s q => ?_, S.dj, fun a h => ?al, S.tb.swap e (fun _ z => nomatch z)⟩
  case al =>
    by_cases z : a = d
    · rw [z, upd_same]
      exact fun z => nomatch z
    · rw [upd_ne z]
      exact S.al a (by show delAt F.H0 d a ≠ none; rw [delAt_ne z]; exact h)
  · by_cases z : a = d
    · subst z
      rw [upd_same] at q ⊢
      exact q
    · rw [upd_ne z] at q ⊢
      exact S.bh a u q
  · by_cases z : a = d
    · subst z
      have := S0.b0 _ _ q
      rw [hd] at this
      cases this
      exact upd_same
    · rw [upd_ne z]
      exact S.b0 a u (by show delAt F.B0 d a = some u; rw [delAt_ne z]; exact q)
  · by_cases z : a = d
    · subst z
      have h1 := S0.h0 _ _ q m' n
      have h2 := S0.bh _ _ hd
      rw [h2] at h1
      cases h1
      exact upd_same
    · rw [upd_ne z]
      exact S.h0 a u (by show delAt F.H0 d a = some u; rw [delAt_ne z]; exact q) m' n
  · by_cases z : a = d
    · subst z
      rw [upd_same]
      exact fun z => nomatch z
    · rw [upd_ne z]
      exact S.a0 a ha
  · have z : a ≠ d := fun z => by
      have := S0.nb a h1 h2
      rw [z, hd] at this
      cases this
    rw [upd_ne z]
    exact S.nb a (by show delAt F.H0 d a ≠ none; rw [delAt_ne z]; exact h1) (by show delAt F.B0 d a = none; rw [delAt_ne z]; exact h2)
  · have r := S.sl i s q
    cases s with
    | no => exact trivial
    | imm x =>
      obtain ⟨u, a, b⟩ := r
      exact ⟨u, a, b.mvU (mv_unlock e)⟩
    | own w =>
      obtain ⟨p, a, b, c, h⟩ := r
      obtain ⟨k1, k2, k3⟩ := own_un S e b c
      exact ⟨p, a, k1, k2, k3 h⟩
    | par j w =>
      obtain ⟨p, a, b, c, h⟩ := r
      obtain ⟨k1, k2, k3⟩ := own_un S e b c
      exact ⟨p, a, k1, k2, h⟩
theorem OpdOk.unlock (S : Sta T (lkF F d) B2 H2 σ G) (e : B2 d = some (.frz od (.dK kvs))) (h : OpdOk T (lkF F d) B2 H2 σ G v o) : OpdOk T F (upd B2 d (.dK kvs)) (upd H2 d (.dK kvs)) σ G v o := by
  cases o with
  | imm x => exact Is.mvU (mv_unlock e) h
  | own i => exact h
  | new w =>
    obtain ⟨p, a, b, c, f, n⟩ := h
    obtain ⟨k1, k2, k3⟩ := own_un S e b c
    exact ⟨p, a, k1, k2, k3 f, n⟩
end
def kD : Key → D
  | .inl i => .int i
  | .inr x => .str x
theorem is_kD {T : Tab} {B : Hp} (k : Key) : Is T B (kV k) (kD k) := by
  cases k with
  | inl i => exact .int i
  | inr x => exact .str x
def itD (e : Key × D) : D := .tup [kD e.1, e.2]
theorem isK_at {T : Tab} {B : Hp} {kvs : List (Key × V)} {es : List (Key × D)} (h : IsK T B kvs es) : ∀ (i : Nat) (k : Key) (v : V), kvs[i]? = some (k, v) → ∃ d, es[i]? = some (k, d) ∧ Is T B v d := by
  refine IsK.ind (motive := fun kvs es => ∀ (i : Nat) (k : Key) (v : V), kvs[i]? = some (k, v) → ∃ d, es[i]? = some (k, d) ∧ Is T B v d) (fun i k v e => by simp at e) (fun k0 v0 d0 vs ds h t ih i k v e => ?_) h
  cases i with
  | zero =>
    have e : (k0, v0) = (k, v) := by simpa using e
    cases e
    exact ⟨d0, rfl, h⟩
  | succ i => exact ih i k v (by simpa using e)
theorem ito_items {T : Tab} {B : Hp} {d : Addr} {od : Obj} {kvs : List (Key × V)} {es : List (Key × D)} (h : B d = some (.frz od (.dK kvs))) (l : IsK T B kvs es) : ItOk T.K T B (Iti d od kvs) (es.map itD) := by
  have hl := isK_len l
  refine ⟨fun i B' H' e1 e2 hi => ?_, fun i B' H' e1 e2 hi => ?_, fun i B' H' F σ G x H'' dt e1 S hd hy => ?_⟩
  · rw [List.length_map] at hi
    exact ⟨e2 _ _ (e1 _ _ h), by omega⟩
  · rw [List.length_map] at hi
    exact ⟨e2 _ _ (e1 _ _ h), by omega⟩
  · obtain ⟨p, k, v, hk, rfl, hp, rfl⟩ := hy
    obtain ⟨d0, r1, r2⟩ := isK_at l i k v hk
    rw [List.getElem?_map, r1] at hd
    cases hd
    have e3 := e1.trans (same_upd (u := .tup [kV k, v]) (S.bh.free hp))
    exact ⟨_, S.fresh hp, Kp.fresh S hp, .tup upd_same (.cons (is_kD k) (.cons (r2.mono e3) .nil))⟩
@[simp ↓] def sForIt (i : Nat) (g : RG) (t : RS) : RS := fun D G => match G[i]? with
  | some (.imm (.dct es)) => forGo g t D (es.map itD) (G.set i .no)
  | _ => False
section
variable {X : Cx} {T : Tab} {F : Fr} {a b c e : Expr} {pos : Pos} {t : RS}
theorem nx_un {B B1 H : Hp} {σ : L2.St} {G : Lo} {d : Addr} {od : Obj} {kvs : List (Key × V)} {K : Lo → Prop} (S : Sta T F B H σ G) (hd : B d = some (.dK kvs)) (e1 : Same (upd B d (.frz od (.dK kvs))) B1) {σ' : L2.St} {H' : Hp} (h : Nx T (lkF F d) B1 K σ' H') : H' d = some (.frz od (.dK kvs)) ∧ Nx T F B K σ' (upd H' d (.dK kvs)) := by
  obtain ⟨B2, G2, S2, e2, q⟩ := h
  have bd : B2 d = some (.frz od (.dK kvs)) := e2 _ _ (e1 _ _ upd_same)
  refine ⟨S2.bh _ _ bd, upd B2 d (.dK kvs), G2, S.unlock hd S2 bd, fun a u q => ?_, q⟩
  by_cases z : a = d
  · subst z
    rw [hd] at q
    cases q
    exact upd_same
  · rw [upd_ne z]
    exact e2 _ _ (e1 _ _ (by rw [upd_ne z]; exact q))
theorem rt_un {B B1 H : Hp} {σ : L2.St} {G : Lo} {d : Addr} {od : Obj} {kvs : List (Key × V)} {K : Opd → Lo → Prop} (S : Sta T F B H σ G) (hd : B d = some (.dK kvs)) (e1 : Same (upd B d (.frz od (.dK kvs))) B1) {v : V} {H' : Hp} (h : Rt T (lkF F d) B1 K v H') : H' d = some (.frz od (.dK kvs)) ∧ Rt T F B K v (upd H' d (.dK kvs)) := by
  obtain ⟨B2, o, G2, σ', S2, e2, w, q⟩ := h
  have bd : B2 d = some (.frz od (.dK kvs)) := e2 _ _ (e1 _ _ upd_same)
  refine ⟨S2.bh _ _ bd, upd B2 d (.dK kvs), o, G2, σ', S.unlock hd S2 bd, fun a u q => ?_, w.unlock S2 bd, q⟩
  by_cases z : a = d
  · subst z
    rw [hd] at q
    cases q
    exact upd_same
  · rw [upd_ne z]
    exact e2 _ _ (e1 _ _ (by rw [upd_ne z]; exact q))
theorem pds_forIt (i : Nat) {x : Str} {px apos cpos : Pos} {tg : List Expr} {kk : Nat} {tpos : Pos} {body : List Stmt} {g : RG} (hp : PassesOwn (model X.prog X.w) X.A X.env X.xe) (hg : ∀ F, PDG X T F (.Tuple tg kk tpos) g) (hb : ∀ F, PDB X T F body t) (hN : X.N[i]? = some x := by rfl)
    (hv : Vis X.env.scope x := by first | exact Or.inl rfl | exact Or.inr (Or.inl rfl) | exact Or.inr (Or.inr rfl)) (hdb : (x == ("__debug__" : Str)) = false := by decide) (hcd : (x == ("__classdict__" : Str)) = false := by decide)
    (hbase : attributeBase (.Name x px) "items" X.env (eval (.Name x px) X.env) = eval (.Name x px) X.env := by rfl) (hline : (apos.endLine == cpos.line) = true := by rfl)
    (hs : ∀ z, foldedSetIterable (.Call (.Attribute (.Name x px) "items" apos) [] [] cpos) X.env z = pure z := by intro _; rfl) :
    PDS X T F (.For (.Tuple tg kk tpos) (.Call (.Attribute (.Name x px) "items" apos) [] [] cpos) body [] pos) (sForIt i g t) := by
  have pf := fun hc : X.calm = true => ps_for (pos := pos) hp hc (pi_items (X := X) (pe_var (i := i) hN hv hdb hcd) hbase hline) (pg_G X (.Tuple tg kk tpos)) (pss_G X body) hs
  refine ⟨fun hK hc B H σ G D S h => ?_⟩
  unfold sForIt at h
  split at h
  · rename_i es eg
    obtain ⟨u, j1, isd⟩ := S.sl i _ eg
    cases isd with
    | @dct d kvs _ hd lk =>
      rcases hd with hd | ⟨od, hd⟩
      rotate_left
      · have Sn : Sta T F B H σ (G.set i .no) := S.wipeTo [i] ⟨rfl, fun _ _ => rfl⟩
        have it := ito_items (T := T) hd lk
        refine tGS_of (pf hc) ⟨V.ref d, join_some j1, d, od, kvs, rfl, S.bh _ _ hd, ?_⟩
        refine ⟨fun j m σ' H' => j ≤ (es.map itD).length ∧ m = (es.map itD).length - j ∧ ∃ B' G', Sta T F B' H' σ' G' ∧ Same B B' ∧ forGo g t D ((es.map itD).drop j) G', ⟨_, Nat.zero_le _, rfl, _, _, Sn, Same.refl _, h⟩, ?_⟩
        rintro j m σ' H' ⟨hle, rfl, B', G', S', e', q'⟩
        by_cases hlt : j < (es.map itD).length
        · refine .inr ⟨it.go j B' H' e' S'.bh hlt, fun σ2 H2 => ∃ B2 G2, Sta T F B2 H2 σ2 G2 ∧ Same B B2 ∧ forGo g t D ((es.map itD).drop (j + 1)) G2, fun σ2 H2 ⟨B2, G2, S2, e2, q2⟩ => ⟨(es.map itD).length - (j + 1), by omega, hlt, rfl, B2, G2, S2, e2, q2⟩, fun x H2 y => ?_⟩
          have hdj : (es.map itD)[j]? = some (es.map itD)[j] := List.getElem?_eq_getElem hlt
          obtain ⟨B2, S2, k2, i2⟩ := it.yld j B' H' F σ' G' x H2 (es.map itD)[j] e' S' hdj y
          rw [List.drop_eq_getElem_cons hlt] at q'
          have r := (hg F).run hK hc B2 H2 σ' G' x (es.map itD)[j] _ S2 i2 q'
          intro pins s u I ru
          refine thn (r pins s u I ru) fun _ s1 ⟨σ3, H3, I3, G3, eH, S3, q3⟩ => ⟨σ3, H3, I3, ?_⟩
          subst eH
          refine tGB_mono ((hb F).run hK hc B2 H3 σ3 G3 _ S3 q3) (fun σ4 H4 z => ?_) (fun v H4 z => ?_) (fun σ4 H4 z => ?_) (fun σ4 H4 z => ?_)
          · obtain ⟨B4, G4, S4, e4, z⟩ := z
            exact ⟨B4, G4, S4, (e'.trans k2.b).trans e4, z⟩
          · exact Rt.more (e'.trans k2.b) z
          · exact Nx.more (e'.trans k2.b) z
          · obtain ⟨B4, G4, S4, e4, z⟩ := z
            exact ⟨B4, G4, S4, (e'.trans k2.b).trans e4, z⟩
        · have e0 : j = (es.map itD).length := by omega
          subst e0
          rw [List.drop_length] at q'
          exact .inl ⟨it.stop _ B' H' e' S'.bh (Nat.le_refl _), ⟨B', G', S', e', q'⟩⟩
      refine tGS_of (ps_lock (pf hc)) ?_
      refine ⟨d, .dK kvs, S.bh _ _ hd, trivial, fun od => ?_⟩
      have hl : i < σ.length := by
        rw [S.len]
        exact (List.getElem?_eq_some_iff.mp eg).1
      have Sn : Sta T F B H σ (G.set i .no) := S.wipeTo [i] ⟨rfl, fun _ _ => rfl⟩
      have S1 := Sn.lock (od := od) hd
      have lk1 := lk.mvU (mv_lock (od := od) hd)
      have it := ito_items (T := T) (upd_same (o := .frz od (.dK kvs))) lk1
      refine ⟨V.ref d, join_some j1, d, od, kvs, rfl, upd_same, ?_⟩
      refine ⟨fun j m σ' H' => j ≤ (es.map itD).length ∧ m = (es.map itD).length - j ∧ ∃ B' G', Sta T (lkF F d) B' H' σ' G' ∧ Same (upd B d (.frz od (.dK kvs))) B' ∧ forGo g t D ((es.map itD).drop j) G', ⟨_, Nat.zero_le _, rfl, _, _, S1, Same.refl _, h⟩, ?_⟩
      rintro j m σ' H' ⟨hle, rfl, B', G', S', e', q'⟩
      by_cases hlt : j < (es.map itD).length
      · refine .inr ⟨it.go j B' H' e' S'.bh hlt, fun σ2 H2 => ∃ B2 G2, Sta T (lkF F d) B2 H2 σ2 G2 ∧ Same (upd B d (.frz od (.dK kvs))) B2 ∧ forGo g t D ((es.map itD).drop (j + 1)) G2, fun σ2 H2 ⟨B2, G2, S2, e2, q2⟩ => ⟨(es.map itD).length - (j + 1), by omega, hlt, rfl, B2, G2, S2, e2, q2⟩, fun x H2 y => ?_⟩
        have hdj : (es.map itD)[j]? = some (es.map itD)[j] := List.getElem?_eq_getElem hlt
        obtain ⟨B2, S2, k2, i2⟩ := it.yld j B' H' (lkF F d) σ' G' x H2 (es.map itD)[j] e' S' hdj y
        rw [List.drop_eq_getElem_cons hlt] at q'
        have r := (hg (lkF F d)).run hK hc B2 H2 σ' G' x (es.map itD)[j] _ S2 i2 q'
        intro pins s u I ru
        refine thn (r pins s u I ru) fun _ s1 ⟨σ3, H3, I3, G3, eH, S3, q3⟩ => ⟨σ3, H3, I3, ?_⟩
        subst eH
        refine tGB_mono ((hb (lkF F d)).run hK hc B2 H3 σ3 G3 _ S3 q3) (fun σ4 H4 z => ?_) (fun v H4 z => ?_) (fun σ4 H4 z => ?_) (fun σ4 H4 z => ?_)
        · obtain ⟨B4, G4, S4, e4, z⟩ := z
          exact ⟨B4, G4, S4, (e'.trans k2.b).trans e4, z⟩
        · exact rt_un Sn hd (e'.trans k2.b) z
        · exact nx_un Sn hd (e'.trans k2.b) z
        · obtain ⟨B4, G4, S4, e4, z⟩ := z
          exact ⟨B4, G4, S4, (e'.trans k2.b).trans e4, z⟩
      · have e0 : j = (es.map itD).length := by omega
        subst e0
        rw [List.drop_length] at q'
        exact .inl ⟨it.stop _ B' H' e' S'.bh (Nat.le_refl _), nx_un Sn hd e' ⟨B', G', S', Same.refl _, q'⟩⟩
  · exact h.elim
end
end Fx
end
section
set_option Elab.async false
set_option linter.all false
set_option maxRecDepth 100000
set_option maxHeartbeats 2000000
/-! Fx23: a list comprehension of two clauses given a name -/
namespace Fx
open PySem PySem.Spec PyProof.Rows L2
section
variable {X : Cx} {T : Tab} {F : Fr} {pos : Pos} {te : RE}
theorem pds_setLc2 (i : Nat) {y : Str} {py spos : Pos} {tg iter tg1 iter1 elt : Expr} {scope : Scope} {own : List (Str × Nat)} {vs1 : List Nat} {wi wi1 : RI} {g g1 : RG} {vg vg1 : TG} {is is1 : List Nat} (hN : X.N.Nodup) (hi : PDI X T F tg iter wi) (ok : BlkOk X.N X.env.scope scope own) (hg : Blk X scope fun Y => PDC Y T F tg g vg is)
    (hi1 : Blk X scope fun Y => PDI Y T F tg1 iter1 wi1) (hg1 : Blk X scope fun Y => PDC Y T F tg1 g1 vg1 is1) (he : Blk X scope fun Y => PD Y T F elt te) (hy : X.N[i]? = some y := by rfl) (hyl : X.env.scope.names.lookup y = some .local := by rfl)
    (hsw : swapsWith (.ListComp elt [⟨tg, iter, [], 0⟩, ⟨tg1, iter1, [], 0⟩] scope pos) (some (.Name y py)) spos.line X.env = pure true := by exact sw_true rfl rfl rfl (by decide +kernel)) (hs : ∀ i ∈ is, i ∈ own.map (·.2) := by decide) (hs1 : ∀ i ∈ is1, i ∈ vs1 := by decide) (hv1 : ∀ i ∈ vs1, i ∈ own.map (·.2) := by decide)
    (hf : ∀ x, foldedSetIterable iter X.env x = pure x := by intro _; rfl) (hf1 : ∀ env x, foldedSetIterable iter1 env x = pure x := by intro _ _; rfl) :
    PDS X T F (.Assign [.Name y py] (.ListComp elt [⟨tg, iter, [], 0⟩, ⟨tg1, iter1, [], 0⟩] scope pos) spos) (sSet i (tLc2 wi g wi1 g1 te (own.map (·.2)) vs1)) := by
  refine ⟨fun hK hc B H σ G D S h pins s I => ?_⟩
  have hl : i < σ.length := by
    rw [I.len]
    exact (List.getElem?_eq_some_iff.mp hy).1
  refine (ps_setLc2 hc hN hy hyl hsw (pi_G X tg iter) ok hv1 (fun s H C cl fp => (hg s H C cl fp).pg) (fun _ _ _ _ _ => pts_nil) pi_Bk (fun s H C cl fp => (hg1 s H C cl fp).pg) (fun _ _ _ _ _ => pts_nil) pe_Bk hf hf1).run pins s σ H _ I ?_
  show L2.tLc2 (tGI X tg iter) vg tYes (tBkI X scope tg1 iter1) vg1 tYes (tBk X scope elt) (own.map (·.2)) vs1 σ H fun x H1 => gName i x σ H1 (toE T F B D).nx
  refine run_lc2 hi hg hi1 hg1 he hs hs1 hv1 s hK hc I.len S h fun v H1 ⟨B1, o, G1, S1, k1, w, _, q⟩ => ?_
  dsimp only at q
  cases e1 : asg G1 i o with
  | none =>
    rw [e1] at q
    exact q.elim
  | some G2 =>
    rw [e1] at q
    obtain ⟨B2, S2, e2⟩ := asg_ok S1 hl w e1
    exact ⟨B2, G2, S2, k1.b.trans e2, q⟩
end
end Fx
end
section
set_option Elab.async false
set_option linter.all false
set_option maxRecDepth 100000
set_option maxHeartbeats 2000000
/-! Fx24: enumerate over a text, over a tuple -/
namespace PySem
open MeetsSeq in
set_option maxHeartbeats 1000000 in
theorem meets_enumerate_new1 {v : Value} {o : Obj} {H : Heap → Prop} (B : Begins v o H) :
    Meets (Builtin.«enumerate.__new__» ⟨[.type "enumerate", v], []⟩) (fun _ R s => H s.heap ∧
      R (.ok (.ret (.ref (s.heap.push o).objs.size))) { s with heap := (s.heap.push o).push { cls := .type "enumerate", data := .fields #[.none, .bool false, .ref s.heap.objs.size, rawInt 0, .none, .none] } }) :=
  .of_wp fun prog w A R s h => by
    obtain ⟨hp, g, d, tk, os⟩ := s; obtain ⟨h1, h⟩ := h
    have hsub := sub_enumerate
    have q1 : ∀ {A' : Around} {E : Value → Shared → Prop} {Q : Value → Shared → Prop}, Q (.ref hp.objs.size) ⟨hp.push o, g, d, tk, os⟩ → wpAny (model prog w) A' (pyIter v) Q E ⟨hp, g, d, tk, os⟩ :=
      fun q => B.iter prog w _ _ ⟨hp, g, d, tk, os⟩ _ h1 q
    wp_walk using q1
    refine wpAny_stack_any fun st => wpAny_pure ?_
    split
    · rename_i c _ _ _ _ _
      cases (c == Value.type "enumerate")
      · wp_walk using q1
        exact ⟨_, rfl, h⟩
      · wp_walk using q1
        exact ⟨_, rfl, h⟩
    · wp_walk using q1
      exact ⟨_, rfl, h⟩
section
variable {prog : Program} {w : World} {A : Around} {E : Value → Shared → Prop} {s : Shared}
theorem enum_begins1 {v : Value} {o : Obj} {H : Heap → Prop} {Q : Value → Shared → Prop} (B : Begins v o H) (h1 : H s.heap)
    (h : ∀ h', IsEnum h' (s.heap.objs.size + 1) s.heap.objs.size 0 .none → h'.get? s.heap.objs.size = some o → h'.objs.size = s.heap.objs.size + 2 →
      (∀ b o, s.heap.get? b = some o → h'.get? b = some o) → Q (.ref (s.heap.objs.size + 1)) { s with heap := h' }) :
    wpAny (model prog w) A (call (.type "enumerate") [v]) Q E s := by
  refine callType_new F.called_enumerate (by decide) (F.typeCall_enumerate_1 _) (F.newCall_enumerate_1 _) (fun obj => F.args_object_init_2 obj _) F.entry_enumerate_new
    (meets_enumerate_new1 B) ⟨h1, ?_⟩
  have hz : (s.heap.push o).objs.size = s.heap.objs.size + 1 := Heap.size_push ..
  show _ ∧ _
  rw [hz]
  have he : IsEnum ((s.heap.push o).push { cls := .type "enumerate", data := .fields #[.none, .bool false, .ref s.heap.objs.size, rawInt 0, .none, .none] }) (s.heap.objs.size + 1) s.heap.objs.size 0 .none := by
    have := Heap.get?_push_size (s.heap.push o) (o := { cls := .type "enumerate", data := .fields #[.none, .bool false, .ref s.heap.objs.size, rawInt 0, .none, .none] }) rfl
    rw [hz] at this; exact this
  refine ⟨⟨_, he, rfl⟩, h _ he (Heap.get?_push_of_some _ (Heap.get?_push_size _ B.free)) (by rw [Heap.size_push, hz]) fun b o x => Heap.get?_push_of_some _ (Heap.get?_push_of_some _ x)⟩
end
end PySem
namespace L2
open PySem PySem.Spec PyProof.Rows
/-- enumerate: what the iterator at it yields, in new pairs -/
def IteG (Go : Nat → Hp → Prop) (Y : Nat → Hp → V → Prop) (Sp : Nat → Hp → Prop) : It :=
  ⟨Go, fun i H v H' => ∃ T x, v = .ref T ∧ H T = none ∧ H' = upd H T (.tup [.int (i : Nat), x]) ∧ Y i H x, Sp⟩
/-- an iterator that enumerate may draw from -/
structure Src (P : Program) (w : World) (K : PySem.W.Frag) (it : Addr) (Go : Nat → Hp → Prop) (Y : Nat → Hp → V → Prop) (Sp : Nat → Hp → Prop) (tn : Nat → Heap → Prop) : Prop where
  obj : ∀ i h, tn i h → ∃ o, h.get? it = some o ∧ ∀ v, o.data ≠ .cell v
  keep : ∀ i h h', tn i h → (∀ o, h.get? it = some o → h'.get? it = some o) → tn i h'
  draw : ∀ (X : Cx), X.prog = P → X.w = w → X.K = K → X.calm = true → ∀ (i : Nat) (pins : List (Addr × Obj)) (s : Shared) (σ : St) (H : Hp), Inv X pins σ H s → Go i H → tn i s.heap →
    ∃ (fp : List Addr) (n : Nat) (Pd : Nat → Value → Prop) (St : Nat → Heap → Prop), Draws P w X.A.in1 it fp n Pd St ∧ St i s.heap ∧ i < n ∧ (∀ b ∈ fp, b = it ∨ H b ≠ none) ∧ (∀ h', St (i + 1) h' → tn (i + 1) h') ∧ ∀ u, Pd i u → ∃ x, RelV x u ∧ Y i H x
  stop : ∀ (X : Cx), X.prog = P → X.w = w → X.K = K → X.calm = true → ∀ (i : Nat) (pins : List (Addr × Obj)) (s : Shared) (σ : St) (H : Hp), Inv X pins σ H s → Sp i H → tn i s.heap →
    ∃ (fp : List Addr) (n : Nat) (Pd : Nat → Value → Prop) (St : Nat → Heap → Prop), Draws P w X.A.in1 it fp n Pd St ∧ St n s.heap
theorem turn_enumG {P : Program} {w : World} {K : PySem.W.Frag} {elts : List Expr} {kk : Nat} {tpos : Pos} {e it : Addr} {Go : Nat → Hp → Prop} {Y : Nat → Hp → V → Prop} {Sp : Nat → Hp → Prop} {tn : Nat → Heap → Prop} (W : Src P w K it Go Y Sp tn) :
    Turn P w K (.Tuple elts kk tpos) (IteG Go Y Sp) [e, it] e (fun i h => (∃ old, IsEnum h e it ((i : Nat) : Int) old) ∧ tn i h ∧ e ≠ it) where
  mem := by simp
  obj := fun i h st b hb => by
    obtain ⟨⟨old, he⟩, ht, _⟩ := st
    have e' : b = e ∨ b = it := by simpa using hb
    rcases e' with z | z
    · rw [z]; exact ⟨_, he, fun v q => nomatch q⟩
    · rw [z]; exact W.obj i h ht
  keep := fun i h h' st k => let ⟨⟨old, he⟩, hi, hne⟩ := st; ⟨⟨old, k e (by simp) _ he⟩, W.keep i h h' hi fun o q => k it (by simp) o q, hne⟩
  item := by
    intro X hP hw hK hc i pins s σ H E I hf st hg
    obtain ⟨⟨old, he⟩, hit, hne⟩ := st
    obtain ⟨fp, n, Pd, St, D, hst, hlt, hfp, hnx, hy⟩ := W.draw X hP hw hK hc i pins s σ H I hg hit
    subst hP hw hK
    have hel : e < s.heap.objs.size := Heap.lt_size he
    have hil : it < s.heap.objs.size := by obtain ⟨_, q, _⟩ := W.obj i _ hit; exact Heap.lt_size q
    have hef : e ∉ fp := fun z => by
      rcases hfp e z with h | h
      · exact hne h
      · exact h (hf e (by simp)).1
    refine wpAny_pyNext_enum_itemD D he hst hlt hne hef fun u h' tk hP ho hit' hT hsz hk => ?_
    obtain ⟨x, ru, hY⟩ := hy u hP
    refine ⟨_, rfl, wpAny_letOwnedTupleGo_enum (s := { s with heap := h', toks := tk + 1 }) ho fun h'' he' sb => ?_⟩
    have hT2 : h''.get? s.heap.objs.size = some { cls := .type "tuple", data := .seq #[.int i tk, u] } := (sb.2 _ (Nat.ne_of_gt hel)).trans hT
    have new : ObjOk X.prog X.w (upd H s.heap.objs.size (.tup [.int (i : Nat), x])) h'' s.heap.objs.size (.tup [.int (i : Nat), x]) :=
      ⟨by show 2 ≤ sizeLine; decide, [.int i tk, u], .cons ⟨_, rfl⟩ (.cons ru .nil), ⟨_, hT2, rfl, _, rfl⟩⟩
    have I1 : Inv X pins σ (upd H s.heap.objs.size (.tup [.int (i : Nat), x])) { s with heap := h'', toks := tk + 1 } :=
      I.turnedNew (ch := [e, it]) (fun b ob hb q => (sb.2 b (fun z => hb (by simp [z]))).trans (hk b ob (fun z => hb (by simp [z])) (fun z => hb (by simp [z])) q)) hf (Nat.le_refl _) new
    refine ⟨.ref s.heap.objs.size, _, I1, rfl, ⟨_, x, rfl, I.hok.fresh (Nat.le_refl _), rfl, hY⟩, ⟨⟨u, ?_⟩, W.keep _ _ _ (hnx h' hit') fun o q => (sb.2 it (Ne.symm hne)).trans q, hne⟩, fun b hb => ?_⟩
    · have e1 : ((i + 1 : Nat) : Int) = (i : Int) + 1 := by omega
      rw [e1]; exact he'
    · have hb' : b < s.heap.objs.size := by
        have e' : b = e ∨ b = it := by simpa using hb
        rcases e' with z | z
        · rw [z]; exact hel
        · rw [z]; exact hil
      rw [upd_ne (Nat.ne_of_lt hb')]
      exact (hf b hb).1
  done := by
    intro X hP hw hK hc i pins s σ H E I hf st hg
    obtain ⟨⟨old, he⟩, hit, hne⟩ := st
    obtain ⟨fp, n, Pd, St, D, hst⟩ := W.stop X hP hw hK hc i pins s σ H I hg hit
    subst hP hw hK
    obtain ⟨f0, f1, f2, f3, f4, f5⟩ := hf it (by simp)
    exact wpAny_pyNext_enum_endD D he hst fun h' eb => ⟨rfl, I.turned (t' := s.toks) (fun b o hb q => eb b o hb q) f0 f1 f3 f4 f5⟩
  self := fun A i s Q E st h => let ⟨⟨_, he⟩, _⟩ := st; wpAny_pyIter_enum he h
theorem src_str {P : Program} {w : World} {K : PySem.W.Frag} (it : Addr) (x : Str) (t : Tok) :
    Src P w K it (fun i _ => i < x.cps.size) (fun i _ v => ∃ c, x.cps[i]? = some c ∧ v = .str ⟨#[c]⟩) (fun i _ => x.cps.size ≤ i) (fun i h => h.IsStrIter it (strIterType x) x t i ∧ i ≤ x.cps.size) where
  obj := fun i h st => let ⟨o, e, c, d⟩ := st.1; ⟨o, e, fun v z => by rw [d] at z; cases z⟩
  keep := fun i h h' st k => let ⟨o, ho, r⟩ := st.1; ⟨⟨o, k o ho, r⟩, st.2⟩
  draw := fun X hP hw hK hc i pins s σ H I hg st => by
    subst hP hw hK
    refine ⟨[it], _, _, _, Draws.text (A := X.A.in1) (I.ok.hd hc) it x t, st.1, hg, fun b hb => .inl (by simpa using hb), fun h' q => ⟨q, hg⟩, fun u hu => ?_⟩
    obtain ⟨c, tk, e, rfl⟩ := hu
    exact ⟨.str ⟨#[c]⟩, ⟨tk, rfl⟩, c, e, rfl⟩
  stop := fun X hP hw hK hc i pins s σ H I hg st => by
    subst hP hw hK
    have e : i = x.cps.size := Nat.le_antisymm st.2 hg
    subst e
    exact ⟨[it], _, _, _, Draws.text (A := X.A.in1) (I.ok.hd hc) it x t, st.1⟩
theorem src_tup {P : Program} {w : World} {K : PySem.W.Frag} (it a : Addr) (N : Nat) (hne : a ≠ it) :
    Src P w K it (fun i H => ∃ xs x, Rd H a (.tup xs) ∧ xs.length = N ∧ xs[i]? = some x) (fun i H v => ∀ xs, SqT K H a xs → xs[i]? = some v) (fun i H => ∃ xs, SqT K H a xs ∧ xs.length = N ∧ N ≤ i) (fun i h => h.IsTupleIter it a i ∧ i ≤ N) where
  obj := fun i h st => let ⟨o, e, c, d⟩ := st.1; ⟨o, e, fun v z => by rw [d] at z; cases z⟩
  keep := fun i h h' st k => let ⟨o, ho, r⟩ := st.1; ⟨⟨o, k o ho, r⟩, st.2⟩
  draw := fun X hP hw hK hc i pins s σ H I hg st => by
    subst hP hw hK
    obtain ⟨xs, x, hr, hN, hx⟩ := hg
    have hq : SqT X.K H a xs := .inl hr
    obtain ⟨its, rv, p, hz⟩ := I.tuple hq
    obtain ⟨u, hu, ru⟩ := rv.get hx
    have p : s.heap.IsTuple a its.toArray := p
    refine ⟨[it, a], _, _, _, Draws.tuple (A := X.A.in1) (I.ok.hd hc) it a hne its.toArray, ⟨st.1, p⟩, ?_, fun b hb => ?_, fun h' q => ⟨q.1, by have := (List.getElem?_eq_some_iff.mp hx).1; omega⟩, fun v hv => ?_⟩
    · have := (List.getElem?_eq_some_iff.mp hu).1
      simpa using this
    · have e : b = it ∨ b = a := by simpa using hb
      rcases e with e | e
      · exact .inl e
      · refine .inr ?_
        rw [e]
        rcases hr with h | ⟨o, h⟩ <;> (rw [h]; exact fun z => nomatch z)
    · have e : its[i]? = some v := by simpa using hv
      rw [hu] at e
      cases e
      exact ⟨x, ru, fun ys hy => by rw [I.tuple_inj hy hq]; exact hx⟩
  stop := fun X hP hw hK hc i pins s σ H I hg st => by
    subst hP hw hK
    obtain ⟨xs, hq, hN, hx⟩ := hg
    have hi := st.2
    obtain ⟨its, rv, p, hz⟩ := I.tuple hq
    have p : s.heap.IsTuple a its.toArray := p
    have hl := rv.length
    have e : i = its.toArray.size := by simp; omega
    subst e
    exact ⟨[it, a], _, _, _, Draws.tuple (A := X.A.in1) (I.ok.hd hc) it a hne its.toArray, ⟨st.1, p⟩⟩
def IteS (x : Str) : It := IteG (fun i _ => i < x.cps.size) (fun i _ v => ∃ c, x.cps[i]? = some c ∧ v = .str ⟨#[c]⟩) (fun i _ => x.cps.size ≤ i)
def IteT (K : PySem.W.Frag) (a : Addr) (N : Nat) : It := IteG (fun i H => ∃ xs x, Rd H a (.tup xs) ∧ xs.length = N ∧ xs[i]? = some x) (fun i H v => ∀ xs, SqT K H a xs → xs[i]? = some v) (fun i H => ∃ xs, SqT K H a xs ∧ xs.length = N ∧ N ≤ i)
def iEnumA (K : PySem.W.Frag) (ta : TA) : TI := fun σ H R => ta σ H fun vs H1 => (∃ x, vs = [.str x] ∧ R (IteS x) H1) ∨ (∃ a xs, vs = [.ref a] ∧ Rd H1 a (.tup xs) ∧ R (IteT K a xs.length) H1)
theorem pi_enumA {X : Cx} {e : Expr} {ta : TA} {p pos tpos : Pos} {elts : List Expr} {kk : Nat} (hg : Gl X "enumerate") (hm : X.mg "enumerate" = none) (ha : PA X [e] ta) (hs : starEach [e] X.env = [(false, eval e X.env)] := by rfl) :
    PI X (.Tuple elts kk tpos) (.Call (.Name "enumerate" p) [e] [] pos) (iEnumA X.K ta) := by
  refine ⟨fun pins s σ H R I h => ?_⟩
  refine Call_ (ld_blt I hg hm boot_enumerate (PyProof.Rows.callWith_type1 (thn (ha.run pos pins s σ H _ I h) fun us s1 ⟨vs, H1, I1, r1, q1⟩ => ?_) hs rfl))
  have fin : ∀ {J : It} {h' : Heap} {tn : Nat → Heap → Prop}, Turn X.prog X.w X.K (.Tuple elts kk tpos) J [s1.heap.objs.size + 1, s1.heap.objs.size] (s1.heap.objs.size + 1) tn → tn 0 h' → (∀ b o, s1.heap.get? b = some o → h'.get? b = some o) → R J H1 →
      PIE X pins σ (.Tuple elts kk tpos) R (.ref (s1.heap.objs.size + 1)) { s1 with heap := h' } := fun W st hk q => by
    have I2 : Inv X pins σ H1 { s1 with heap := _ } := I1.kept (t' := s1.toks) hk
    refine ⟨s1.heap.objs.size + 1, [s1.heap.objs.size + 1, s1.heap.objs.size], _, _, H1, rfl, I2, W, st, fun b hb => ?_, q⟩
    have e' : b = s1.heap.objs.size + 1 ∨ b = s1.heap.objs.size := by simpa using hb
    have hle : s1.heap.objs.size ≤ b := by
      rcases e' with z | z
      · rw [z]; exact Nat.le_add_right _ _
      · rw [z]; exact Nat.le_refl _
    exact I1.fpOk hle (I1.hok.fresh hle)
  rcases q1 with ⟨x, ex, q⟩ | ⟨a, xs, ex, hr, q⟩
  · subst ex
    cases r1 with
    | cons r rr =>
      cases rr
      obtain ⟨t, rfl⟩ := r
      refine enum_begins1 (begins_text x t) trivial fun h' he ho hsz hk => wpAny_pyIter_enum he ?_
      exact fin (turn_enumG (src_str s1.heap.objs.size x t)) ⟨⟨.none, he⟩, ⟨⟨_, ho, rfl, rfl⟩, Nat.zero_le _⟩, Nat.succ_ne_self _⟩ hk q
  · subst ex
    cases r1 with
    | cons r rr =>
      cases rr
      cases r
      obtain ⟨its, rv, p', hz⟩ := I1.tuple (.inl hr)
      have p' : s1.heap.IsTuple a its.toArray := p'
      have hne : a ≠ s1.heap.objs.size := fun z => by
        obtain ⟨o, ho, _⟩ := p'
        exact absurd (Heap.lt_size ho) (by rw [z]; exact Nat.lt_irrefl _)
      refine enum_begins1 (begins_tuple a its.toArray) p' fun h' he ho hsz hk => wpAny_pyIter_enum he ?_
      exact fin (turn_enumG (src_tup s1.heap.objs.size a xs.length hne)) ⟨⟨.none, he⟩, ⟨⟨_, ho, rfl, rfl⟩, Nat.zero_le _⟩, Nat.succ_ne_self _⟩ hk q
end L2
namespace Fx
open PySem PySem.Spec PyProof.Rows L2
section
variable {X : Cx} {T : Tab} {F : Fr} {a b c e : Expr} {es : List Expr} {pos : Pos} {ta tb tc te : RE} {tt tu : RT} {t u : RS} {tr : RO}
variable {B H : Hp} {σ : L2.St} {G : Lo} {v : V} {o : Opd}
theorem charsD_get {x : Str} {i : Nat} : (charsD x)[i]? = (x.cps[i]?).map fun c => D.str ⟨#[c]⟩ := by
  unfold charsD
  rw [List.getElem?_map, Array.getElem?_toList]
theorem ito_enumS {x : Str} : ItOk T.K T B (IteS x) (enuD 0 (charsD x)) := by
  have hl : (charsD x).length = x.cps.size := by
    unfold charsD
    rw [List.length_map, Array.length_toList]
  refine ⟨fun i B' H' e1 e2 hi => ?_, fun i B' H' e1 e2 hi => ?_, fun i B' H' F σ G y H'' d e1 S hd hy => ?_⟩
  · rw [enuD_len, hl] at hi
    exact hi
  · rw [enuD_len, hl] at hi
    exact hi
  · obtain ⟨p, x1, rfl, hp, rfl, c, hc, rfl⟩ := hy
    obtain ⟨dx, r1, rfl⟩ := enuD_get _ _ _ _ hd
    rw [charsD_get, hc] at r1
    cases r1
    refine ⟨_, S.fresh hp, Kp.fresh S hp, .tup upd_same (.cons ?_ (.cons (.str _) .nil))⟩
    rw [Nat.zero_add]
    exact .int _
theorem ito_enumT {a : Addr} {vs : List V} {ds : List D} (h : B a = some (.tup vs)) (l : IsL T B vs ds) : ItOk T.K T B (IteT T.K a vs.length) (enuD 0 ds) := by
  refine ⟨fun i B' H' e1 e2 hi => ?_, fun i B' H' e1 e2 hi => ?_, fun i B' H' F σ G x H'' d e1 S hd hy => ?_⟩
  · rw [enuD_len] at hi
    have hv : i < vs.length := by rw [l.length]; omega
    exact ⟨vs, vs[i], .inl (e2 _ _ (e1 _ _ h)), rfl, List.getElem?_eq_getElem hv⟩
  · rw [enuD_len] at hi
    exact ⟨vs, SqT.of (e2 _ _ (e1 _ _ h)), rfl, by rw [l.length]; exact hi⟩
  · obtain ⟨p, x1, rfl, hp, rfl, q1⟩ := hy
    obtain ⟨dx, r1, rfl⟩ := enuD_get _ _ _ _ hd
    obtain ⟨d1, f1, g1⟩ := l.get' (q1 vs (SqT.of (S.bh _ _ (e1 _ _ h))))
    rw [r1] at f1
    cases f1
    have e3 := e1.trans (same_upd (u := .tup [.int (i : Nat), x1]) (S.bh.free hp))
    refine ⟨_, S.fresh hp, Kp.fresh S hp, .tup upd_same (.cons ?_ (.cons (g1.mono e3) .nil))⟩
    rw [Nat.zero_add]
    exact .int _
@[simp ↓] def iEnuA (ta : RE) : RI := fun G K => tFz ta G fun d G1 => match d with
  | .str x => K (enuD 0 (charsD x)) G1
  | .tup xs => K (enuD 0 xs) G1
  | _ => False
theorem pdi_enumA {elts : List Expr} {kk : Nat} {tpos p : Pos} (hm : X.mg "enumerate" = none) (ha : PD X T F a ta) (hg : Gl X "enumerate" := by rfl) (hs : starEach [a] X.env = [(false, eval a X.env)] := by rfl) : PDI X T F (.Tuple elts kk tpos) (.Call (.Name "enumerate" p) [a] [] pos) (iEnuA ta) := by
  refine ⟨fun hK hc B H σ G K S h => tGI_of (pi_enumA hg hm (pa_cons (pe_G X a) pa_nil hs) hs) ?_⟩
  refine tG_mono (run_fz ha hK hc S h) fun v H1 ⟨B1, d, G1, S1, k1, i1, q⟩ => ?_
  split at q
  · cases i1 with
    | str x => exact .inl ⟨_, rfl, ⟨B1, _, G1, S1, k1, ito_enumS, q⟩⟩
  · cases i1 with
    | tup h1 l1 => exact .inr ⟨_, _, rfl, .inl (S1.bh _ _ h1), ⟨B1, _, G1, S1, k1, by rw [hK]; exact ito_enumT h1 l1, q⟩⟩
  · exact q.elim
end
end Fx
end
section
set_option Elab.async false
set_option linter.all false
set_option maxRecDepth 100000
set_option maxHeartbeats 2000000
/-! Fx25: C(e), C an exception class whose __init__ says super().__init__(value), self.value = value -/
namespace Fx
open PySem PySem.Spec PyProof.Rows L2
section
variable {P : Program} {w : World} {K : PySem.W.Frag} {mg mb : Str → Option Value}
/-- the statements of that __init__ -/
abbrev iniBody (q0 q1 q2 q3 q4 q5 q6 q7 q8 q9 : Pos) : List Stmt := [.Expr (.Call (.Attribute (.Call (.Name "super" q0) [] [] q1) "__init__" q2) [.Name "value" q3] [] q4) q5, .Assign [.Attribute (.Name "self" q6) "value" q7] (.Name "value" q8) q9]
/-- that __init__, f, of the class D, as the written part has it -/
structure IniF (P : Program) (K : PySem.W.Frag) (D f : Addr) : Prop where
  ex : ∃ (oc cdv0 dV kV doc pm ct ccl cl : Value) (od an cdd cld : Option Addr) (osl ccs csl : Array (Option Value)) (qual file : Str) (params : Arguments) (scope : Scope) (cc cda : Addr) (vs : Array Value) (tf : Tok) (ar : PySem.Arg) (q0 q1 q2 q3 q4 q5 q6 q7 q8 q9 : Pos),
    K.lookup f = some ⟨oc, od, .func (PySem.W.ksFn "__init__" qual params (iniBody q0 q1 q2 q3 q4 q5 q6 q7 q8 q9) scope dV kV doc pm an (.ref cda) ct cc), osl⟩ ∧ PySem.W.codeIn K (.ref cda) qual = true ∧
    K.lookup cda = some ⟨ccl, cdd, .fields vs, ccs⟩ ∧ vs[2]? = some (.str file tf) ∧ ((P.main.file : Str) == file) = true ∧ K.lookup cc = some ⟨cl, cld, .cell (some (.ref D)), csl⟩ ∧
    (params.posonlyargs ++ params.args).head? = some ar ∧ ar.arg = "self" ∧
    (∀ us : List Value, us.length = 2 → bindArgs (PySem.W.ksFn "__init__" qual params (iniBody q0 q1 q2 q3 q4 q5 q6 q7 q8 q9) scope dV kV doc pm an (.ref cda) ct cc) ⟨us, []⟩ = pure ((["self", "value"] : List Str).zip us)) ∧
    scope.kind = .function ∧ scope.isCoroutine = false ∧ scope.isGenerator = false ∧ (∀ x ∈ scope.names, x.2 ≠ .cell) ∧ scope.names.lookup ("self" : Str) = some .local ∧ scope.names.lookup ("value" : Str) = some .local ∧
    scope.names.lookup ("super" : Str) = some .globalImplicit ∧ scope.names.lookup ("__class__" : Str) = some .free ∧ (P.main.scope.names.lookup ("super" : Str)).isSome = false ∧
    (∀ env : Env, ∃ pl : Sem Bool, eval (.Call (.Attribute (.Call (.Name "super" q0) [] [] q1) "__init__" q2) [.Name "value" q3] [] q4) env = (do
      let ov ← attributeBase (.Call (.Name "super" q0) [] [] q1) "__init__" env (eval (.Call (.Name "super" q0) [] [] q1) env)
      standAt q2.atName
      let (f, first) ← holding [ov] (getMethod ov "__init__" pl)
      callWith q4 f first (backTo q4 (starEach [.Name "value" q3] env)) []))
/-- a class under it -/
structure IniC (K : PySem.W.Frag) (C D f : Addr) : Prop where
  cls : ∃ nm q N bs bm sn sub ab col dd k0 k1 k2 k3 k5, K.lookup C = some (excClassObj nm q C N bs bm true sn sub ab col dd k0 k1 k2 k3 k5 "ValueError.__new__") ∧ PySem.HandSPX.refsVE bm = true
  sa : PySem.W.findIn K (.ref C) "__setattr__" = some (some (.builtin "object.__setattr__"))
  exC : PySem.W.subIn K (.ref C) (.type "BaseException") = some true
  tyC : PySem.W.typeIn K (.ref C) = some (.type "type")
  kC : PySem.W.keepIn K (.ref C) = true
  ini : PySem.W.findIn K (.ref C) "__init__" = some (some (.ref f))
  fn : PySem.W.typeIn K (.ref f) = some (.type "function")
  hD : ∃ cdD, PySem.W.clsIn K D = some cdD
  sub : PySem.W.mroIn K C (.ref D) = some true
  sup : PySem.W.ks_superIn K C D "__init__" = some (some (.builtin "ValueError.__init__"))
  subV : PySem.W.subIn K (.ref C) (.type "ValueError") = some true
  no : PySem.W.findIn K (.ref C) "value" = some none
  nos : PySem.W.nsIn K cStatics "thirdparty.any" = some none
theorem ini_run {A : Around} {s : Shared} {x C D f t0 : Addr} {u : Value} {R : Result → Shared → Prop} (X : K.In s.heap) (hg : s.heap.Ns mainGlobals mg) (hsup : mg "super" = none) (hb : s.heap.Ns builtinsNs mb) (hbb : mb "super" = some (.type "super"))
    (lim : s.heap.NoLimit) (hroom : A.depth < recursionLimit) (IF : IniF P K D f) (IC : IniC K C D f) (hx : s.heap.get? x = some (PySem.HandSPX.excO C t0)) (hkx : K.lookup x = none)
    (hq : ∀ (h' : Heap) (tk : Nat) (dx t1 : Addr), (∀ b o, b ≠ x → s.heap.get? b = some o → h'.get? b = some o) → s.heap.objs.size ≤ dx → dx ≠ x → h'.get? x = some { cls := .ref C, dict := some dx, data := .fields #[.ref t1, .none, .none, .none, .bool false, .none] } →
      h'.Ns1 dx (fun y => if y = "value" then some u else none) → R (.ok (.ret .none)) ⟨h', s.gens, s.drawn, tk, s.os⟩) :
    codeAny (model P w) A (.call (.ref f) ⟨[.ref x, u], []⟩) R s := by
  obtain ⟨oc, cdv0, dV, kV, doc, pm, ct, ccl, cl, od, an, cdd, cld, osl, ccs, csl, qual, file, params, scope, cc, cda, vs, tf, ar, q0, q1, q2, q3, q4, q5, q6, q7, q8, q9, lk, hcd, lc, hv2, hfile, lcc, hhd, har, hbd, kd, nco, ngen, nocell, lself, lval, lsup, lcls, top, hpl⟩ := IF.ex
  obtain ⟨nm, q, N, bs, bm, sn, sub, ab, col, dd, k0, k1, k2, k3, k5, hC, hbm⟩ := IC.cls
  obtain ⟨cdD, hD⟩ := IC.hD
  refine ks_codeAny_call_defAt (fd := PySem.W.ksFn "__init__" qual params (iniBody q0 q1 q2 q3 q4 q5 q6 q7 q8 q9) scope dV kV doc pm an (.ref cda) ct cc) (body := iniBody q0 q1 q2 q3 q4 q5 q6 q7 q8 q9) (binds := (["self", "value"] : List Str).zip [.ref x, u]) hroom (X _ _ lk) rfl lim (PySem.W.codeRec_of X hcd) rfl (.of_eq (hbd _ rfl)) nocell (fun y hy => ?_) (fun h0 hns k0' => ?_) nco ngen kd
  · rcases List.mem_cons.mp hy with rfl | hy
    · exact lself
    · rcases List.mem_cons.mp hy with rfl | hy
      · exact lval
      · cases hy
  have oD : ∃ o, s.heap.get? D = some o ∧ o.data = .cls cdD := by
    unfold PySem.W.clsIn at hD
    split at hD
    · rename_i c0 d0 cd0 sl0 ho
      cases hD
      exact ⟨_, X _ _ ho, rfl⟩
    · cases hD
  obtain ⟨oD, hD1, hD2⟩ := oD
  have X0 : K.In h0 := fun b o e => k0' b o (X b o e)
  have x0 := k0' _ _ hx
  have D0 := k0' _ _ hD1
  have lx : x ≠ s.heap.objs.size := Nat.ne_of_lt (Heap.lt_size hx)
  generalize eL : s.heap.objs.size = L at *
  obtain ⟨env, henv⟩ : ∃ e, e = callEnv (PySem.W.ksFn "__init__" qual params (iniBody q0 q1 q2 q3 q4 q5 q6 q7 q8 q9) scope dV kV doc pm an (.ref cda) ct cc) L f := ⟨_, rfl⟩
  rw [← henv]
  have e1 : env.scope.kind = .function := by rw [henv]; exact kd
  have e2 : env.kindOf "super" = some .globalImplicit := by rw [henv]; exact lsup
  have e3 : env.kindOf "__class__" = some .free := by rw [henv]; exact lcls
  have e4 : env.kindOf "self" = some .local := by rw [henv]; exact lself
  have e5 : env.kindOf "value" = some .local := by rw [henv]; exact lval
  have e6 : env.func = some f := by rw [henv] <;> rfl
  have e7 : env.code = .ref cda := by rw [henv] <;> rfl
  have e8 : env.cells.lookup ("__class__" : Str) = some cc := by rw [henv] <;> rfl
  have e9 : env.locals = L := by rw [henv] <;> rfl
  have e10 : env.globals = mainGlobals := by rw [henv] <;> rfl
  have e11 : env.builtins = builtinsNs := by rw [henv] <;> rfl
  clear henv
  have ni : interactive env = false := by
    unfold interactive
    rw [e1] <;> rfl
  have hns' : h0.Ns env.locals (fun y => (((["self", "value"] : List Str).zip [.ref x, u]).reverse).lookup y) := by
    rw [e9]
    exact hns
  obtain ⟨pl, he⟩ := hpl env
  refine ks_wpAt_execs_cons (ks_wpAt_Expr_any (ks_wpAt_MethodCall (pl := pl) ?_ he) ni rfl)
  refine ks_wpAt_super_base e2 e3 (by decide) e6 (X0 _ _ lk) rfl hhd e7 (X0 _ _ lc) rfl hv2 hfile top ?_
  refine PySem.W.ks_loadName_global e1 e2 (Calls.loadGlobal_builtin (mg := mg) (mb := mb) ?_ hsup ?_ hbb ⟨rfl, ?_⟩)
  · rw [e10]
    exact hg.at fun o y => k0' _ o y
  · rw [e11]
    exact hb.at fun o y => k0' _ o y
  refine wpAny_loadName_free e1 e3 e8 ⟨_, X0 _ _ lcc, rfl⟩ ?_
  rw [har]
  refine wpAny_loadName_local e1 e4 hns' rfl ?_
  refine ks_wpAny_isType_cls D0 hD2 ⟨rfl, ?_⟩
  refine ks_wpAny_call_super D0 hD2 x0 rfl (fun c z => by cases z) (PySem.W.looks_mroIn X0 IC.sub) (fun h1 hso k1 => ?_)
  have X1 := X0.keeps k1
  have x1 := k1 _ _ x0
  have C1 := X1 _ _ hC
  have hcl : PySem.W.clsIn K C = some { name := nm, bases := bs, mro := .ref C :: bm, ns := N, qualname := q, hasDict := true, slotNames := sn, subclasses := sub, abstract := ab, collection := col, hasDel := false } := by
    unfold PySem.W.clsIn
    rw [hC] <;> rfl
  have IA : PySem.W.InstAt h1 x (PySem.HandSPX.excO C t0) C none := ⟨x1, rfl, rfl, trivial⟩
  have hm := IC.sup
  unfold PySem.W.ks_superIn at hm
  rw [hcl] at hm
  have l1 : PySem.W.Looks (model P w) h1 (mroOf (.ref C)) (.ref C :: bm) := fun A Q E s k q => wpAny_bind ((PySem.W.looks_clsIn X1 hcl) A _ E s k (wpAny_pure q))
  refine PySem.W.kxs_getMethod PySem.W.kxs_ValueError hso (PySem.W.looks_opaque X1 IC.nos) l1 rfl X1 hm (IA.type.andThen (PySem.W.looks_subIn X1 IC.subV)) (PySem.W.ks_ne X1 IA hcl) (by decide) ?_
  have so2 := Heap.get?_push_size h1 (rfl : (PySem.W.kxs_mw "ValueError.__init__" x).isFreed = false)
  obtain ⟨h2, eh2⟩ : ∃ h2, h2 = h1.push (PySem.W.kxs_mw "ValueError.__init__" x) := ⟨_, rfl⟩
  rw [← eh2] at so2 ⊢
  have k2 : ∀ b o, h1.get? b = some o → h2.get? b = some o := fun b o y => by
    rw [eh2]
    exact Heap.get?_push_of_some _ y
  clear eh2
  have ns2 : h2.Ns env.locals _ := (hns'.at fun o y => k1 _ o y).at fun o y => k2 _ o y
  refine PySem.W.kxs_callWith (i := "ValueError.__init__") (x := x) rfl (Calls.evalArgs_plain ?_)
  refine Calls.spliced_cons (PySem.ESX.ldL ns2 rfl ?_ e1 e5)
  refine Calls.spliced_nil ⟨so2, ?_⟩
  have x2 := k2 _ _ x1
  have C2 := k2 _ _ C1
  refine wpAny_call (codeAny_of_tree ?_)
  show wpAny _ _ (callAny (.ref h1.objs.size) ⟨[u], []⟩) _ _ _
  simp only [callAny]
  have FB := PySem.F.excBase_ValueError
  refine wpAny_bind (wpAny_load so2 ?_)
  have c1 : (PySem.W.kxs_mw "ValueError.__init__" x).cls = .type "method-wrapper" := rfl
  have b1 : (Value.type "method-wrapper" == Value.type "method" || Value.type "method-wrapper" == Value.type "builtin_function_or_method" || Value.type "method-wrapper" == Value.type "method-wrapper") = true := by decide
  simp only [c1, b1, if_true]
  refine PySem.W.KFB.if_so (by decide) (wpAny_bind (PySem.W.check_bound_init FB.toExcCallFacts C2 x2 rfl (wpAny_bind (wpAny_pure (wpAny_pure ⟨Code.quiet_builtin _ (by decide +kernel), codeAny_builtin FB.initEntry ?_⟩)))))
  refine PySem.W.exc_init_tree (cls := .ref C) (t0 := t0) (dv := none) (c2 := .none) (c3 := .none) (b4 := .bool false) x2 (by show 1 ≤ sizeLine; rw [sizeLine_eq]; omega) fun h3 k3 x3 _ => ?_
  have X3 : K.In h3 := fun b o y => by
    have nb : b ≠ x := fun z => by
      rw [z, hkx] at y
      cases y
    exact k3 b o nb (k2 _ _ (k1 _ _ (X0 b o y)))
  have nel : env.locals ≠ x := fun z => by
    obtain ⟨o, es, ep, y, dd, _⟩ := hns'
    rw [z, x0] at y
    cases y
    cases dd
  have ns3 : h3.Ns env.locals _ := ns2.at fun o y => k3 _ o nel y
  show PySem.wpAt _ _ _ _ _ _ _
  refine ks_wpAt_execs_cons (ks_wpAt_Assign_Attr (wpAt_of_wpAny (PySem.ESX.ldL ns3 rfl (PySem.ESX.ldL ns3 rfl ?_ e1 e4) e1 e5)) rfl)
  refine PySem.W.set_plain X3 (ox := PySem.W.excRec (.ref C) h2.objs.size none .none .none (.bool false)) (od := none) ⟨x3, rfl, rfl, trivial⟩ IC.sa ?_
  refine PySem.HandSPX.exc_osa X3 x3 hcl (show PySem.HandSPX.refsVE (.ref C :: bm) = true from hbm) rfl IC.no (fun h' tk' dx k4 dn dne hx4 hn4 => ?_)
  refine wpAt_of_wpAny (wpAny_execs_nil (hq h' tk' dx h2.objs.size (fun b o nb y => k4 b o nb (k3 b o nb (k2 _ _ (k1 _ _ (k0' _ _ y))))) ?_ dne hx4 hn4))
  obtain ⟨o, es, ep, y, _⟩ := ns3
  rw [e9] at y
  exact Nat.le_of_lt (Nat.lt_of_lt_of_le (Heap.lt_size y) dn)
end
section
variable {X : Cx}
theorem add_val (v : V) (u : Value) (r : RelV v u) : ∀ f : Str, RelO (([("value", v)] : List (Str × V)).lookup f) (if f = "value" then some u else none) := fun f => by
  by_cases h : f = "value"
  · subst h
    rw [if_pos rfl]
    exact r
  · rw [if_neg h]
    have e : ([("value", v)] : List (Str × V)).lookup f = none := by
      have n : (f == ("value" : Str)) = false := by simpa using h
      rw [List.lookup_cons, n] <;> rfl
    rw [e]
    exact True.intro
/-- C(e) makes an exception that keeps its value -/
theorem pmk_ini {C D f : Addr} {k : Nat} {x : Str} {e : Expr} {te : TE} {p pos : Pos} (IF : IniF X.prog X.K D f) (IC : IniC X.K C D f) (hr : Room (k + 1) X.A) (hsup : X.mg "super" = none) (hm : X.mg x = some (.ref C)) (he : PE X e te) (hg : Gl X x := by rfl)
    (hdb : (x == ("__debug__" : Str)) = false := by decide) (hs : starEach [e] X.env = [(false, eval e X.env)] := by rfl) :
    L2N.PMk X (.Call (.Name x p) [e] [] pos) (fun σ H Q => te σ H fun v H1 => ∀ d, H1 d = none → Q (.ref C) (some d) (upd H1 d (.xd [("value", v)]))) := by
  intro pins s σ H Q I h
  obtain ⟨nm, q, N, bs, bm, sn, sub, ab, col, dd, k0, k1, k2, k3, k5, hC, hbm⟩ := IC.cls
  refine wpAny_Call_Name_kw (ld_glob I hg hm ?_ hdb)
  have hs1 : starEach [e] X.env = (false, eval e X.env) :: starEach [] X.env := hs
  refine PySem.W.callWith_K (h₀ := X.base) I.ok.mod.kin IC.kC ?_ hs1 (by rfl)
  rw [hs1]
  show wpAny _ _ (spliced ((false, eval e X.env) :: backTo pos (starEach [] X.env))) _ _ s
  refine Calls.spliced_cons (thn (he.run pins s σ H _ I h) fun u s1 ⟨v, H1, I1, r1, q1⟩ => ?_)
  refine Calls.spliced_nil ⟨I1.kIn, ?_⟩
  show wpAny _ _ (call (.ref C) [u]) _ _ _
  obtain ⟨mb, hb, hbb⟩ := I1.ok.mod.blt
  have X1 := I1.kIn
  have bk := I1.bk
  have hGn := I1.ok.mod.glob.keeps bk
  have hBn := hb.keeps bk
  have nol := I1.ok.mod.nolimit.keeps bk
  obtain ⟨hp, g, dr, tk, os⟩ := s1
  obtain ⟨nx, enx⟩ : ∃ n, n = hp.objs.size + 1 := ⟨_, rfl⟩
  have kk : ∀ b o, hp.get? b = some o → ((hp.push (PySem.W.kdv_tup [u])).push (PySem.HandSPX.excO C hp.objs.size)).get? b = some o := fun b o y => Heap.get?_push_of_some _ (Heap.get?_push_of_some _ y)
  have hget : ((hp.push (PySem.W.kdv_tup [u])).push (PySem.HandSPX.excO C hp.objs.size)).get? (hp.objs.size + 1) = some (PySem.HandSPX.excO C hp.objs.size) := by heap_get
  refine wpAny_call (PySem.HandSPX.call_own PySem.F.excBase_ValueError (fun Y => PySem.HandSPX.refsVE_contains Y bm hbm) (X1 _ _ hC) (PySem.W.looks_findIn X1 IC.ini) (fun self => PySem.W.bind_fn X1 self IC.fn) (by show 1 ≤ sizeLine; rw [sizeLine_eq]; omega) ?_)
  have hroom : (X.A.under (.builtin "type.__call__" ⟨[.ref C, u], []⟩)).depth < recursionLimit := by
    have := (hr.make C [u] []).dp
    omega
  have hkx : X.K.lookup (hp.objs.size + 1) = none := by
    cases z : X.K.lookup (hp.objs.size + 1) with
    | none => rfl
    | some o =>
      have y := Heap.lt_size (X1 _ _ z)
      have y : hp.objs.size + 1 < hp.objs.size := y
      omega
  refine ini_run (mg := X.mg) (mb := mb) (X1.keeps kk) (hGn.at fun o y => kk _ o y) hsup (hBn.at fun o y => kk _ o y) (by rw [hbb _ (by decide)]; exact PyProof.Rows.Boot.«super») (nol.keeps kk) hroom IF IC hget hkx fun h' tk' dx t1 k4 dn dne hx4 hn4 => ?_
  have sz2 : ((hp.push (PySem.W.kdv_tup [u])).push (PySem.HandSPX.excO C hp.objs.size)).objs.size = hp.objs.size + 2 := by rw [Heap.size_push, Heap.size_push]
  rw [sz2] at dn
  have low : ∀ {b : Addr} {o : Obj}, hp.get? b = some o → b ≠ hp.objs.size + 1 := fun y => Nat.ne_of_lt (Nat.lt_succ_of_lt (Heap.lt_size y))
  obtain ⟨G, ga, gb⟩ := restrict h' fun b => decide (b ≠ hp.objs.size + 1)
  have gk : ∀ b, b ≠ hp.objs.size + 1 → G.get? b = h'.get? b := fun b z => ga b (decide_eq_true z)
  have gx : G.get? (hp.objs.size + 1) = none := gb _ (by simp)
  have gs : ∀ b o, G.get? b = some o → h'.get? b = some o := fun b o y => by
    have nb : b ≠ hp.objs.size + 1 := fun z => by
      rw [z, gx] at y
      cases y
    rw [← gk b nb]
    exact y
  have hn1 : H1 dx = none := I1.hok.fresh (show hp.objs.size ≤ dx by omega)
  have keepG : ∀ b o, hp.get? b = some o → G.get? b = some o := fun b o y => by
    rw [gk b (low y)]
    exact k4 b o (low y) (kk b o y)
  have J := I1.laid (t' := tk') (a := dx) (o := .xd [("value", v)]) (h' := G) keepG (show hp.objs.size ≤ dx by omega) ⟨_, hn4.at fun o y => (gk dx dne).trans y, add_val v u r1⟩
  refine ⟨rfl, hp.objs.size + 1, _, _, ⟨G, g, dr, tk', os⟩, _, .ref C, some dx, rfl, J, gs, gx, hx4, ⟨rfl, rfl, fun vs y => by cases y; rfl⟩, rfl, rfl, ?_, rfl, I1.bare, raises_own IC.exC IC.tyC, q1 dx hn1⟩
  rw [upd_ne (Ne.symm dne)]
  exact I1.hok.fresh (show hp.objs.size ≤ hp.objs.size + 1 by omega)
end
section
variable {X : Cx} {T : Tab} {F : Fr} {e : Expr} {te : RE} {W : WD}
/-- raise C(e) -/
@[simp ↓] def sRaise (c : Nat) (W : WD) (te : RE) : RS := fun _ G => tFz te G fun d G1 => W c d G1
theorem pds_raise {D f : Addr} {k : Nat} {x : Str} {p pos pos' : Pos} (c : Nat) (IF : IniF X.prog X.K D f) (IC : IniC X.K (T.cl c) D f) (hr : RoomG (k + 1) X.A) (hsup : X.mg "super" = none) (hm : X.mg x = some (.ref (T.cl c))) (hp : PassD X T F W) (he : PD X T F e te) (hg : Gl X x := by rfl)
    (hdb : (x == ("__debug__" : Str)) = false := by decide) (hs : starEach [e] X.env = [(false, eval e X.env)] := by rfl) : PDS X T F (.Raise (some (.Call (.Name x p) [e] [] pos)) none pos') (sRaise c W te) := by
  refine ⟨fun hK hc B H σ G D S h => tGS_of (L2N.ps_raise hc hp (pmk_ini IF IC hr.rm hsup hm (pe_G X e) hg hdb hs)) ?_⟩
  refine tG_mono (run_fz he hK hc S h) fun v H1 ⟨B1, d, G1, S1, k1, i1, q⟩ => fun dd hd => ?_
  exact ⟨_, G1, c, d, rfl, ⟨dd, v, rfl, upd_same, i1.mono (same_upd (S1.bh.free hd))⟩, S1.fresh hd, q⟩
end
end Fx
end
section
set_option Elab.async false
set_option linter.all false
set_option maxRecDepth 100000
set_option maxHeartbeats 2000000
/-! Fx26: try .. except C as n, what was caught kept behind the suite -/
namespace Fx
open PySem PySem.Spec PyProof.Rows L2
section
variable {X : Cx} {pins : List (Addr × Obj)} {σ : L2.St} {H : Hp} {s : Shared}
theorem exK_ne {C dx a : Addr} {o : HO} (n : ∀ φ, o ≠ .ext φ) : o ≠ ExK C dx a := fun z => n _ (z.trans rfl)
/-- an object that was not there at the entry and is tracked by none is tracked from now on -/
theorem inv_track {a C dx : Addr} {oe : Obj} {vs : Array Value} (I : Inv X pins σ H s) (ha : s.heap.get? a = some oe) (hz : Zc (.ref C) (some dx) oe) (hd : oe.data = .fields vs) (na : H a = none) (n0 : X.s_0.heap.get? a = none) (np : ∀ p ∈ X.pn ++ pins, p.1 ≠ a) :
    Inv X pins σ (upd H a (ExK C dx a)) s := by
  have nL : X.env.locals ≠ a := fun z => by
    obtain ⟨m, ⟨o, es, ep, ho, hdd, _⟩, _⟩ := I.loc
    rw [z, ha] at ho
    cases ho
    rw [hd] at hdd
    cases hdd
  have nC : ∀ x c, X.env.cells.lookup x = some c → c ≠ a := fun x c e z => by
    obtain ⟨v, o, ho, hdd⟩ := I.cell x c e
    rw [z, ha] at ho
    cases ho
    rw [hd] at hdd
    cases hdd
  have n1 : ∀ b o, X.s_0.heap.get? b = some o → b ≠ a := fun b o e z => by
    rw [z, n0] at e
    cases e
  have nH : ∀ {b u}, H b = some u → b ≠ a := fun {b u} e => ne_of_none e na
  refine ⟨I.ok, I.os, I.bare, ⟨I.base.keep, I.base.slot, fun b o e n hx => ?_, I.base.there, fun b xs e => ?_, fun b o u e => ?_, fun b ps e => ?_⟩, I.loc, I.cell, ?_, fun x c e => ?_, fun p hp => ?_, fun b u e => ?_, I.len⟩
  · rw [upd_ne (n1 b o e)]
    exact I.base.free b o e n hx
  · have q := I.base.tups b xs e
    rw [upd_ne (nH q)]
    exact q
  · have q := I.base.frzs b o u e
    rw [upd_ne (nH q)]
    exact q
  · obtain ⟨m, q⟩ := I.base.tbls b ps e
    exact ⟨m, by rw [upd_ne (nH q)]; exact q⟩
  · rw [upd_ne nL]
    exact I.free
  · rw [upd_ne (nC x c e)]
    exact I.freeC x c e
  · obtain ⟨e, n, ne, nf, d⟩ := I.pin p hp
    exact ⟨e, by rw [upd_ne (np p hp)]; exact n, ne, nf, d⟩
  · by_cases hb : b = a
    · subst hb
      rw [upd_same] at e
      cases e
      exact ⟨⟨oe, vs, ha, hz, hd⟩, ⟨oe, ha⟩, fun _ _ ⟨o, v, q1, q2, q3⟩ k => ⟨o, v, k _ q1, q2, q3⟩⟩
    · rw [upd_ne hb] at e
      exact (I.hok b u e).stay (fun c v _ q => q) (fun c q => by rw [upd_ne (nH q)]; exact q) fun c xs q => by rw [upd_ne (nH q)]; exact q
/-- what is wished of what the try's body raises: caught, it is kept at its address -/
def wKeep (K : PySem.W.Frag) (c : Value) (i : Nat) (ts : Addr → Value → Option Addr → TS) (Wout : WX) (D : Ends) : WX := fun cls d σ H =>
  ∃ b, PySem.W.exmOne K cls c = some b ∧ (b = true → ∃ C dx, cls = .ref C ∧ d = some dx ∧ ∀ a, H a = none → ts a cls d { nx := fun σ' H' => H' a = none → D.nx (σ'.set i none) (upd H' a (ExK C dx a)), rt := fun _ _ => False, bk := fun _ _ => False, ct := fun _ _ => False } (σ.set i (some (.ref a))) H) ∧
    (b = false → Wout cls d σ H)
end
section
variable {X : Cx} {x n : Str} {c : Value} {i : Nat} {body suite : List Stmt} {b0 : Stmt} {np pos pos' : Pos} {tb : WX → TS} {ts : Addr → Value → Option Addr → TS} {Wout : WX}
theorem ps_try_keep (hs : X.stack = X.env :: X.outer) (hf : X.env.frame = some X.env.locals) (hex : X.ex = []) (hN : X.N.Nodup) (hi : X.N[i]? = some n) (hln : X.env.kindOf n = some .local) (hc : Names X x c) (tk : L2N.Takes X Wout)
    (hb : ∀ (W : WX) (pn : List (Addr × Obj)) (xe : Value → Shared → Prop), L2N.Takes (X.tr pn xe) W → PassesOwn (model X.prog X.w) X.A X.env xe → PSs (X.tr pn xe) body (tb W))
    (hsu : ∀ (a : Addr) (oe : Obj) (cls : Value) (d : Option Addr) (pn : List (Addr × Obj)), L2N.Zn cls d oe → (∃ vs, oe.data = .fields vs) → PSs (X.suite a ((a, oe) :: pn)) (b0 :: suite) (ts a cls d)) :
    PS X (.Try body [.ExceptHandler (some (.Name x np)) (some n) (b0 :: suite) pos'] [] [] pos) (fun D σ H => tb (wKeep X.K c i ts Wout D) D σ H) := by
  refine ⟨fun pins s σ H D I h => ?_⟩
  have ok := I.ok
  have hfr : X.A.frames = some (X.env :: X.outer) := by rw [ok.frames, hs]
  have hloc : Loc X.env.scope n := .inl hln
  refine wpAny_Try_except ?_
  refine wpAny_mono ((hb (wKeep X.K c i ts Wout D) (X.pn ++ pins) (fun e t1 => wpAny (model X.prog X.w) X.A (noteFrame e X.env) (fun _ t2 => wpAny (model X.prog X.w) X.A (setFlight e none) (fun _ t3 =>
    wpAny (model X.prog X.w) X.A (handleBy e X.env [.ExceptHandler (some (.Name x np)) (some n) (b0 :: suite) pos']) (SP X pins D) X.xe t3) X.xe t2) X.xe t1) (fun u s' xx => ?_) PassesOwn.looking).run [] s σ H D (I.toTry _) h) (fun f s1 hsp => ?_) (fun e s1 he => he)
  rotate_left
  · cases f with
    | next =>
      obtain ⟨σ1, H1, J1, q⟩ := hsp
      exact wpAny_execs_nil ⟨σ1, H1, J1.ofTry ok, q⟩
    | ret u =>
      obtain ⟨v, σ1, H1, J1, r, q⟩ := hsp
      exact ⟨v, σ1, H1, J1.ofTry ok, r, q⟩
    | brk =>
      obtain ⟨σ1, H1, J1, q⟩ := hsp
      exact ⟨σ1, H1, J1.ofTry ok, q⟩
    | cont =>
      obtain ⟨σ1, H1, J1, q⟩ := hsp
      exact ⟨σ1, H1, J1.ofTry ok, q⟩
  obtain ⟨a, B, sI, pins', σ1, H1, cls, d, rfl, J0, nb, up, sky, na, os, ag, b, hb1, hyes, hno⟩ := xx
  have J : Inv X pins σ1 H1 sI := J0.ofTry ok
  have sky2 : Sky B (X.env :: X.outer) a (L2N.Zn cls d) X.env.locals s'.heap := by rw [← hs]; exact sky
  show wpAny (model X.prog X.w) X.A (noteFrame (.ref a) X.env) _ _ _
  refine L2N.Sky.land L2N.Zn.steady hfr hf sky2 fun h3 fl3 up3 => ?_
  have J3 : Inv X pins σ1 H1 { s' with heap := h3 } := J.landed nb fl3.1 (up.trans up3) os ag
  obtain ⟨oe3, vs3, he3, hz3, hd3⟩ := fl3.there
  have nfr : a ∉ frs (X.env :: X.outer) := fun hm => by
    obtain ⟨_, o', e', hnf⟩ := fl3.2.2.1.mem hm
    rw [he3] at e'
    cases e'
    exact hnf _ hd3
  have nL : a ≠ X.env.locals := fun z => nfr (List.mem_filterMap.mpr ⟨X.env, List.mem_cons_self, by rw [hf, z]⟩)
  have nF : a ∉ X.fs := fun hm => by
    obtain ⟨e, he, q⟩ := List.mem_filterMap.mp hm
    exact nfr (List.mem_filterMap.mpr ⟨e, List.mem_cons_of_mem _ he, q⟩)
  have gone : ∀ o, sI.heap.get? a ≠ some o := fun o z => by
    have y := nb a o z (by rw [hs]; exact nfr)
    rw [fl3.2.1] at y
    cases y
  have n0 : X.s_0.heap.get? a = none := by
    cases z : X.s_0.heap.get? a with
    | none => rfl
    | some o =>
      obtain ⟨o', y⟩ := J.base.there a o z (by rw [hex]; exact fun z => nomatch z)
      exact absurd y (gone o')
  have np2 : ∀ p ∈ X.pn ++ pins, p.1 ≠ a := fun p hp z => by
    obtain ⟨y, _⟩ := J.pin p hp
    rw [z] at y
    exact gone _ y
  have S3 := J3.suite he3 hd3 na nL nF
  refine wpAny_handleBy_cons (codeAny_handlers_test ?_) (by intro q; cases q)
  have LT : PySem.W.Looks (model X.prog X.w) h3 (typeOf (.ref a)) cls := fun A Q E s k q => wpAny_typeOf_ref (k _ _ he3) (by rw [hz3.1]; exact q)
  have LM := PySem.W.exm_one (M := model X.prog X.w) (J3.kIn) LT hb1
  have test : ∀ {Q : Value → Shared → Prop} {E : Value → Shared → Prop}, Q c { s' with heap := h3 } → wpAny (model X.prog X.w) (X.A.mark (some (.ref a))) (eval (.Name x np) X.env) Q E { s' with heap := h3 } := fun {Q E} q => by
    obtain ⟨hg, hdbg, hm | ⟨hm, hv, hnn⟩⟩ := hc
    · exact ld_glob (X := X.suite a ((a, oe3) :: (X.pn ++ pins))) S3 hg hm q hdbg
    · exact ld_blt (X := X.suite a ((a, oe3) :: (X.pn ++ pins))) S3 hg hm hv q hnn hdbg
  refine test (LM.here ?_)
  cases b with
  | true =>
    refine codeAny_handlers_suite_as (HandSPX.lands_againZ fl3 fun h4 fl4 up4 => ?_)
    have J4 : Inv X pins σ1 H1 { s' with heap := h4 } := J.landed nb fl4.1 ((up.trans up3).trans up4) os ag
    obtain ⟨oe4, vs4, he4, hz4, hd4⟩ := fl4.there
    have S4 := J4.suite he4 hd4 na nL nF
    obtain ⟨C, dx, rfl, rfl, hy⟩ := hyes rfl
    refine store_ok (X := X.suite a ((a, oe4) :: (X.pn ++ pins))) (v := .ref a) S4 hN hi hloc rfl (fun s5 S5 => ?_) (.inr hln)
    refine wpAny_mono ((hsu a oe4 (.ref C) (some dx) (X.pn ++ pins) hz4 ⟨_, hd4⟩).run [] s5 _ H1 _ S5 (hy a na)) (fun f s6 hsp => ?_) (fun _ _ z => False.elim z)
    cases f with
    | next =>
      obtain ⟨σ6, H6, S6, q6⟩ := hsp
      obtain ⟨a6, n6, _⟩ := S6.pin (a, oe4) (List.mem_append_left _ List.mem_cons_self)
      exact gone_ok (inv_track (S6.unsuite ok) a6 hz4.zc hd4 n6 n0 np2) hN hi hln fun s7 J7 => ⟨_, _, J7, q6 n6⟩
    | brk =>
      obtain ⟨_, _, _, q6⟩ := hsp
      exact q6.elim
    | cont =>
      obtain ⟨_, _, _, q6⟩ := hsp
      exact q6.elim
    | ret u =>
      obtain ⟨_, _, _, _, _, q6⟩ := hsp
      exact q6.elim
  | false =>
    show wpAny _ X.A (handleBy (.ref a) X.env []) _ _ _
    refine wpAny_handleBy_nil ?_
    obtain ⟨k1, k2, k3, oe, vs, T, oT, ts', he, hz, hd, h1, hr⟩ := id fl3
    unfold PySem.passOn
    refine wpAny_bind (wpAny_field he hd h1 ?_)
    rw [if_neg (show ¬ ((Value.ref T == Value.none) = true) from by simp)]
    have fin : wpAny (model X.prog X.w) X.A (setFlight (.ref a) X.env.frame) (fun _ t4 => wpAny (model X.prog X.w) X.A (throw (.ref a) : Sem Flow) (SP X pins D) X.xe t4) X.xe { s' with heap := h3 } := by
      rw [hf]
      refine HandSPX.setFlight_upZ fl3 fun h4 hh4 up4 => wpAny_throw (tk _ _ ?_)
      exact ⟨a, B, sI, pins, σ1, H1, cls, d, rfl, J, nb, (up.trans up3).trans up4, .inr (.inr (by rw [hs]; exact hh4)), na, os, ag, hno rfl⟩
    first
      | exact wpAny_bind (wpAny_pure (wpAny_bind fin))
      | exact wpAny_bind fin
end
end Fx
end
section
set_option Elab.async false
set_option linter.all false
set_option maxRecDepth 100000
set_option maxHeartbeats 2000000
/-! Fx27: heard(lambda: e): what e raises as a value, or what it gives -/
namespace Fx
open PySem PySem.Spec PyProof.Rows L2
/-- the body of: c, b = None, None; try: b = lk() except CF as er: c = er; return (c, b) -/
abbrev hdBody (c b lk er CF : Str) (kt kt2 kt3 j1 j2 : Nat) (q0 q1 q2 q3 q4 q5 q6 q7 q8 q9 q10 q11 q12 q13 q14 q15 q16 q17 q18 q19 q20 : Pos) : List Stmt :=
  [.Assign [.Tuple [.Name c q0, .Name b q1] kt q2] (.Tuple [.Constant .none j1 q3, .Constant .none j2 q4] kt2 q5) q6,
   .Try [.Assign [.Name b q7] (.Call (.Name lk q8) [] [] q9) q10] [.ExceptHandler (some (.Name CF q11)) (some er) [.Assign [.Name c q12] (.Name er q13) q14] q15] [] [] q16,
   .Return (some (.Tuple [.Name c q17, .Name b q18] kt3 q19)) q20]
section
variable {Z : Cx} {c b lk er CF : Str} {kt kt2 kt3 j1 j2 : Nat} {q0 q1 q2 q3 q4 q5 q6 q7 q8 q9 q10 q11 q12 q13 q14 q15 q16 q17 q18 q19 q20 : Pos}
theorem heard_body {CA f : Addr} {H : Hp} {Q : VK} {ta : WX → TE} (hc : Z.calm = true) (hs : Z.stack = Z.env :: Z.outer) (hf : Z.env.frame = some Z.env.locals) (hex : Z.ex = []) (hN : Z.N = [lk, c, b, er]) (nd : ([lk, c, b, er] : List Str).Nodup)
    (lc : Z.env.scope.names.lookup c = some .local) (lb : Z.env.scope.names.lookup b = some .local) (ll : Z.env.scope.names.lookup lk = some .local) (le : Z.env.scope.names.lookup er = some .local) (hCF : Names Z CF (.ref CA))
    (dbc : (c == ("__debug__" : Str)) = false) (dbb : (b == ("__debug__" : Str)) = false) (dbe : (er == ("__debug__" : Str)) = false) (dcc : (c == ("__classdict__" : Str)) = false) (dcb : (b == ("__classdict__" : Str)) = false) (dce : (er == ("__classdict__" : Str)) = false)
    (hw : swappedStores [.Tuple [.Name c q0, .Name b q1] kt q2] (.Tuple [.Constant .none j1 q3, .Constant .none j2 q4] kt2 q5) Z.env = pure none)
    (act : ∀ (W : WX) (pn : List (Addr × Obj)) (xe : Value → Shared → Prop), L2N.Takes (Z.tr pn xe) W → PE (Z.tr pn xe) (.Call (.Name lk q8) [] [] q9) (ta W))
    (h : ∀ p0, H p0 = none → ∀ (W : WX) (Qv : VK), (∀ v H', (∀ p, H' p = none → Q (.ref p) (upd H' p (.tup [.non, v]))) → Qv v H') → (∀ cls d H', (∃ C dx, cls = .ref C ∧ d = some dx ∧ PySem.W.exmOne Z.K cls (.ref CA) = some true ∧ ∀ a p, H' a = none → upd H' a (ExK C dx a) p = none → Q (.ref p) (upd (upd H' a (ExK C dx a)) p (.tup [.ref a, .non]))) → W cls d [some (.ref f), some .non, some .non, none] H') →
      ta W [some (.ref f), some .non, some .non, none] (upd H p0 (.tup [.non, .non])) Qv) :
    ∃ t, PSs Z (hdBody c b lk er CF kt kt2 kt3 j1 j2 q0 q1 q2 q3 q4 q5 q6 q7 q8 q9 q10 q11 q12 q13 q14 q15 q16 q17 q18 q19 q20) t ∧ t { nx := fun _ H' => Q .non H', rt := Q } (L2.start [lk, c, b, er] [.ref f]) H := by
  have hNd : Z.N.Nodup := by rw [hN]; exact nd
  have i1 : Z.N[1]? = some c := by rw [hN] <;> rfl
  have i2 : Z.N[2]? = some b := by rw [hN] <;> rfl
  have i3 : Z.N[3]? = some er := by rw [hN] <;> rfl
  have s1 := ps_asg (X := Z) (pos := q6) (pe_tup (x1 := kt2) (pos := q5) (pa_cons (pe_non (j := j1) (pos := q3)) (pa_cons (pe_non (j := j2) (pos := q4)) pa_nil rfl) rfl)) (pg_tup (k := kt) (pos := q2) hc (pgs_cons (pg_name (pos := q0) hNd i1 (.inl lc) (.inr lc)) (pgs_cons (pg_name (pos := q1) hNd i2 (.inl lb) (.inr lb)) pgs_nil rfl) rfl) rfl rfl) rfl hw rfl
  have s2 := ps_try_keep (X := Z) (i := 3) (pos := q16) (np := q11) (pos' := q15) (body := [.Assign [.Name b q7] (.Call (.Name lk q8) [] [] q9) q10]) (Wout := fun _ _ _ _ => False) hs hf hex hNd i3 le hCF (fun _ _ ⟨_, _, _, _, _, _, _, _, _, _, _, _, _, _, _, _, z⟩ => z.elim)
    (fun W pn xe tk _ => pss_one (ps_set (i := 2) (pos' := q7) (pos := q10) hNd i2 (.inl lb) (act W pn xe tk) rfl (.inr lb)))
    (fun a oe cls d pn _ _ => pss_one (ps_set (i := 1) (pos' := q12) (pos := q14) hNd i1 (.inl lc) (pe_var (i := 3) (pos := q13) i3 (.inl le) dbe dce) rfl (.inr lc)))
  have s3 := ps_ret (pos := q20) (pe_tup (X := Z) (x1 := kt3) (pos := q19) (pa_cons (pe_var (i := 1) (pos := q17) i1 (.inl lc) dbc dcc) (pa_cons (pe_var (i := 2) (pos := q18) i2 (.inl lb) dbb dcb) pa_nil rfl) rfl))
  refine ⟨_, pss_cons s1 (pss_cons s2 (pss_one s3)), ?_⟩
  have two : ([V.non, V.non] : List V).length ≤ sizeLine := by show 2 ≤ sizeLine; rw [sizeLine_eq]; omega
  refine ⟨two, fun p0 np0 => ⟨p0, [.non, .non], rfl, SqT.of upd_same, rfl, .non, [.non], rfl, .non, [], rfl, rfl, ?_⟩⟩
  refine h p0 np0 _ _ (fun v H1 k => ⟨.non, rfl, v, rfl, two, k⟩) fun cls d H1 ⟨C, dx, e1, e2, e3, k⟩ => ?_
  refine ⟨true, e3, fun _ => ⟨C, dx, e1, e2, fun a na => ?_⟩, fun z => nomatch z⟩
  exact ⟨.ref a, rfl, fun na2 => ⟨.ref a, rfl, .non, rfl, two, fun p hp => k a p na2 hp⟩⟩
end
/-- the context of a lambda's body -/
abbrev lamN (X : Cx) (A : Around) (outer : List Env) (s : Shared) (H : Hp) (E : XK) (scope : Scope) (f c' : Addr) : Cx :=
  (LamX.lamCx X A outer s H E scope f c').tr ([] ++ []) fun e t => wpAny (model X.prog X.w) (A.deeper (LamX.lamEnv X scope s.heap.objs.size f c')) (leaving (LamX.lamEnv X scope s.heap.objs.size f c') e) (fun _ t2 => L2N.CX X.prog X.w outer H s E e t2) (fun e2 t2 => L2N.CX X.prog X.w outer H s E e2 t2) t
section
variable {X : Cx} {pins : List (Addr × Obj)} {σ : L2.St} {H : Hp} {s : Shared}
/-- lk(), in the def that got the lambda -/
theorem act_ok {Eg : XK} {Ng : List Str} {qg : Str} {sg : Scope} {g f c' : Addr} {cdg pm ctv : Value} {params : Arguments} {body : Expr} {scope : Scope} {k i : Nat} {a : Str} {pn : List (Addr × Obj)} {xe : Value → Shared → Prop} {W : WX} {p1 p2 : Pos}
    (I : Inv X pins σ H s) (L : LamX.LamS X.env.scope scope) (hf : s.heap.get? f = some (PySem.W.kla_obj "<lambda>" (X.env.qual ++ "<lambda>") params body scope (cloFrom X.env.cells scope.names []) pm c' ctv)) (hfn : H f = none) (hfr : f ∉ frs X.stack)
    (hbind : bindArgs (PySem.W.kla_fn "<lambda>" (X.env.qual ++ "<lambda>") params body scope (cloFrom X.env.cells scope.names []) pm (.ref c') ctv) ⟨[], []⟩ = pure [])
    (hr : RoomG (k + 1) (X.A.deeper (envOfC qg sg s.heap.objs.size g cdg))) (tk : L2N.Takes ((cxOf (L2N.CX X.prog X.w) X.prog X.w X.K X.mg X.base Ng qg sg g cdg X.A X.stack s H Eg).nox.tr pn xe) W)
    (hN : Ng[i]? = some a) (hv : Vis sg a) (hd : (a == ("__debug__" : Str)) = false) (hcd : (a == ("__classdict__" : Str)) = false) :
    PE ((cxOf (L2N.CX X.prog X.w) X.prog X.w X.K X.mg X.base Ng qg sg g cdg X.A X.stack s H Eg).nox.tr pn xe) (.Call (.Name a p1) [] [] p2)
      (fun σz Hz Q => σz[i]? = some (some (.ref f)) ∧ Hz c' = some (LamX.CodeO c' (X.env.qual ++ "<lambda>")) ∧ ∃ E : XK, (∀ cls d H', E cls d H' → W cls d σz H') ∧
        ∀ (A : Around) (outer : List Env) (s1 : Shared), RoomG k (A.deeper (LamX.lamEnv X scope s1.heap.objs.size f c')) → tG (lamN X A outer s1 Hz E scope f c') body σ Hz Q) := by
  refine ⟨fun pinsZ sZ σz Hz Q IZ h => ?_⟩
  obtain ⟨hs, hc, E, hW, ht⟩ := h
  refine wpAny_Call_Name_kw (thn ((pe_var (pos := p1) (i := i) hN hv hd hcd).run pinsZ sZ σz Hz (fun v H1 => v = .ref f ∧ H1 = Hz) IZ ⟨.ref f, hs, rfl, rfl⟩) fun u s1 ⟨v, H1, I1, r1, ev, eH⟩ => ?_)
  subst ev
  rw [eH] at I1
  obtain rfl : u = Value.ref f := r1
  have of1 := I1.base.keep f _ hf hfn hfr (fun z => nomatch (show f ∈ ([] : List Addr) from z))
  refine PySem.W.callWith_F0 ⟨_, _, _, _, of1⟩ ?_
  obtain ⟨⟨oc, vs, t, hoc, hdc, hvc⟩, _, _⟩ := I1.hok c' _ hc
  have rc : codeAny (model X.prog X.w) (X.A.deeper (envOfC qg sg s.heap.objs.size g cdg)) (.call (.ref f) ⟨[], []⟩) (CR (L2N.CX X.prog X.w) (envOfC qg sg s.heap.objs.size g cdg :: X.stack) X.prog X.w Hz s1 Q E) s1 := by
    refine PySem.W.kla_callFunE hr.rm.depth of1 rfl L.co L.gen rfl ⟨c', oc, vs, t, rfl, hoc, hdc, hvc⟩ ?_
    rw [hbind]
    refine wpAny_pure (wpAny_newFunctionEnv (fun y hy => (L.own y hy).2) (fun y hy => absurd hy (by simp)) (fun h1 hns hsb => ⟨I1.nolimit.fresh _ hsb, ?_⟩) L.kind)
    have kp : ∀ b o, s1.heap.get? b = some o → h1.get? b = some o := fun b o e => hsb.extBut b o (Nat.ne_of_lt (Heap.lt_size e)) (Heap.get?_push_of_some _ e)
    have J0 := LamX.lam_start2 (E := E) (f := f) (c' := c') I L I1.env0 hr.rm.hd I1.base hns kp (tk := s1.toks + ([] : List (Str × Value)).length)
    show codeAny _ _ (.expr body (LamX.lamEnv X scope s1.heap.objs.size f c')) _ _
    refine PySem.W.kla_codeExpr (wpAny_mono (ht _ _ s1 (hr.deeper _) [] _ (J0.toTry _)) (fun v t2 ⟨w2, H2, J2, rv, q⟩ => ⟨w2, H2, J2.os, J2.bare, J2.base, J2.hok, rv, q⟩) fun e t2 hq => hq)
  refine wpAny_call (codeAny_mono rc fun r s' hq => ?_)
  cases r with
  | error e => exact tk e s' (L2N.XE.of_call I1 hW hq)
  | ok fl =>
    cases fl with
    | ret u => exact I1.after hq
    | next => exact False.elim hq
    | brk => exact False.elim hq
    | cont => exact False.elim hq
end
section
variable {X : Cx} {pins : List (Addr × Obj)} {σ : L2.St} {H : Hp} {s : Shared}
/-- the heap behind the making of a lambda: as it was, or its code object new and told in the table -/
def Lamd (H : Hp) (tP c' : Addr) (q : Str) (qs : Array Value) (H1 : Hp) : Prop :=
  (H1 = H ∧ ∃ pos, codeAmong pos qs.toList = some (.ref c')) ∨ (H c' = none ∧ ∃ more : Array Value, H1 = upd (upd H tP (.tbl (qs ++ more))) c' (LamX.CodeO c' q) ∧ TriplesOk (qs ++ more).toList ∧ ∀ pos cv, codeAmong pos (qs ++ more).toList = some cv → codeAmong pos qs.toList = some cv ∨ cv = .ref c')
theorem lam_mk {cM tP : Addr} {qs : Array Value} {params : Arguments} {body : Expr} {scope : Scope} {pos : Pos} {E : Value → Shared → Prop} {Q : Value → Shared → Prop} (I : Inv X pins σ H s) (TB : LamX.TabB X.base X.mg cM tP) (hcode : X.env.code = .ref cM) (hP : H tP = some (.tbl qs)) (ht : TriplesOk qs.toList)
    (hcs : ∀ (p' : Pos) (cv : Value), codeAmong p' qs.toList = some cv → ∃ c, cv = .ref c ∧ H c = some (LamX.CodeO c (X.env.qual ++ "<lambda>"))) (hdef : defaultsOf params X.env = ([], [])) (hfree : ∀ y ∈ scope.names, y.2 = .free → ∃ c, X.env.cells.lookup y.1 = some c)
    (h : ∀ (f c' : Addr) (pm ctv : Value) (H1 : Hp) (s' : Shared), Inv X pins σ H1 s' → Lamd H tP c' (X.env.qual ++ "<lambda>") qs H1 →
      s'.heap.get? f = some (PySem.W.kla_obj "<lambda>" (X.env.qual ++ "<lambda>") params body scope (cloFrom X.env.cells scope.names []) pm c' ctv) → H1 f = none → f ∉ frs X.stack → H1 c' = some (LamX.CodeO c' (X.env.qual ++ "<lambda>")) → Q (.ref f) s') :
    wpAny (model X.prog X.w) X.A (eval (.Lambda params body scope pos) X.env) Q E s := by
  refine PySem.W.kla_eval hdef ?_
  have bP : s.heap.BuiltinsAt X.mg tP := TB.bm.keeps I.bk
  have oP : s.heap.get? tP = some { cls := .none, data := .fields qs } := I.hok tP _ hP
  have offF : ∀ g, s.heap.objs.size ≤ g → g ∉ frs X.stack := fun g hg z => by
    rcases List.mem_cons.mp (I.stkSub _ z) with e | e
    · have h1 := I.lt
      rw [← e] at h1
      exact absurd (Nat.lt_of_lt_of_le h1 hg) (Nat.lt_irrefl _)
    · exact I.nofs hg e
  have cT := TB.code.keeps I.bk
  have gT := I.mod.glob.keeps I.bk
  cases hc : codeAmong pos qs.toList with
  | some cv =>
    obtain ⟨c', e, hco⟩ := hcs pos cv hc
    subst e
    refine PySem.W.kla_makeFunctionHit (mg := X.mg) (c := cM) (P := tP) (ps := qs) (closure_ok hfree) I.ok.glob gT hcode cT oP ht hc bP fun ctv h' tk hx hsz => ?_
    have I1 : Inv X pins σ H { s with heap := h'.push (PySem.W.kla_obj "<lambda>" (X.env.qual ++ "<lambda>") params body scope (cloFrom X.env.cells scope.names []) ((X.mg "__name__").getD .none) c' ctv), toks := tk } := I.kept fun b o e => Heap.get?_push_of_some _ (hx b o e)
    exact h h'.objs.size c' _ ctv H _ I1 (.inl ⟨rfl, pos, hc⟩) (Heap.get?_push_size _ rfl) (I.hok.fresh hsz) (offF _ hsz) hco
  | none =>
    refine PySem.W.kla_makeFunction (mg := X.mg) (c := cM) (P := tP) (ps := qs) (closure_ok hfree) I.ok.glob gT hcode cT oP ht hc TB.gP bP fun c' ctv h' tk hx hge hlt hrec htb => ?_
    obtain ⟨c2, oc, us, t, e2, hoc, hd, hv⟩ := hrec
    cases e2
    have big : s.heap.objs.size ≤ h'.objs.size := Nat.le_trans hge (Nat.le_of_lt hlt)
    have nC : H c' = none := I.hok.fresh hge
    have nPc : tP ≠ c' := ne_of_none hP nC
    have I1 := LamX.inv_table (t' := tk) (more := #[rawInt pos.line, rawInt pos.col, .ref c']) (h' := h'.push (PySem.W.kla_obj "<lambda>" (X.env.qual ++ "<lambda>") params body scope (cloFrom X.env.cells scope.names []) ((X.mg "__name__").getD .none) c' ctv)) I hP
      (fun b o hb e => Heap.get?_push_of_some _ (hx b o hb e)) (Heap.get?_push_of_some _ htb) hge ⟨oc, us, t, Heap.get?_push_of_some _ hoc, hd, hv⟩
    have eL : (qs ++ #[rawInt pos.line, rawInt pos.col, .ref c']).toList = qs.toList ++ [rawInt pos.line, rawInt pos.col, .ref c'] := by simp
    refine h h'.objs.size c' _ ctv _ _ I1 (.inr ⟨nC, _, rfl, by rw [eL]; exact PySem.TriplesOk_snoc _ _ _ _ ht, fun p' cv hcv => ?_⟩) (Heap.get?_push_size _ rfl) ?_ (offF _ big) upd_same
    · rw [eL] at hcv
      exact LamX.among_app _ ht hcv
    · rw [upd_ne (Nat.ne_of_gt hlt), upd_ne (Nat.ne_of_gt (Nat.lt_of_lt_of_le (Heap.lt_size oP) big))]
      exact I.hok.fresh big
end
section
variable {X : Cx} {T : Tab} {F : Fr} {B H H1 : Hp} {σ : L2.St} {G : Lo}
theorem upd_swap {H : Hp} {a b : Addr} {x y : HO} (h : a ≠ b) : upd (upd H a x) b y = upd (upd H b y) a x := by
  funext z
  by_cases h1 : z = b
  · rw [h1, upd_same, upd_ne (Ne.symm h), upd_same]
  · by_cases h2 : z = a
    · rw [h2, upd_ne h, upd_same, upd_same]
    · rw [upd_ne h1, upd_ne h2, upd_ne h2, upd_ne h1]
/-- a table grows -/
theorem Sta.table (S : Sta T F B H σ G) {tP : Addr} {q : Str} {qs : Array Value} (hu : ∀ t ∈ T.tb, t.1 = tP → t.2 = q) (hP : H tP = some (.tbl qs)) {rs : Array Value} (bP : B tP = none) (ht : TriplesOk rs.toList)
    (hc : ∀ (pos : Pos) (cv : Value), codeAmong pos rs.toList = some cv → ∃ c, cv = .ref c ∧ B c = some (LamX.CodeO c q)) : Sta T F B (upd H tP (.tbl rs)) σ G := by
  have notP : ∀ {a u}, H a = some u → NT u → a ≠ tP := fun {a u} e n z => by
    rw [z, hP] at e
    exact n qs (Option.some.inj e).symm
  refine ⟨fun a o e => ?_, S.b0, fun a o e m n => ?_, fun a h => ?_, S.nb, S.len, fun i s e => ?_, S.dj, fun a h => there_upd (S.al a h), fun t ht' => ?_⟩
  · rw [upd_ne fun z => by rw [z, bP] at e; cases e]
    exact S.bh a o e
  · have q2 := S.h0 a o e m n
    rw [upd_ne (notP q2 m)]
    exact q2
  · exact there_upd (S.a0 a h)
  · have q2 := S.sl i s e
    have key : ∀ {p w}, OwnIs T B H p w → upd H tP (.tbl rs) p = H p := fun {p w} h => by
      obtain ⟨u, hu2⟩ := h.there
      exact upd_ne (notP hu2 (h.nt hu2))
    cases s with
    | no => exact trivial
    | imm d => exact q2
    | own w =>
      obtain ⟨p, a1, a2, a3, a4⟩ := q2
      exact ⟨p, a1, a2, a3.mono (Same.refl _) (key a3), a4⟩
    | par j w =>
      obtain ⟨p, a1, a2, a3, a4⟩ := q2
      exact ⟨p, a1, a2, a3.mono (Same.refl _) (key a3), a4⟩
  · obtain ⟨b, ps, h1, h2⟩ := S.tb t ht'
    refine ⟨b, ?_⟩
    by_cases z : t.1 = tP
    · rw [hu t ht' z, z]
      exact ⟨rs, upd_same, ht, hc⟩
    · exact ⟨ps, by rw [upd_ne z]; exact h1, h2⟩
theorem Lamd.sta {tP c' : Addr} {q : Str} {qs : Array Value} (l : Lamd H tP c' q qs H1) (S : Sta T F B H σ G) (hm : (tP, q) ∈ T.tb) (hu : ∀ t ∈ T.tb, t.1 = tP → t.2 = q) (hP : H tP = some (.tbl qs)) (hcs : ∀ (pos : Pos) (cv : Value), codeAmong pos qs.toList = some cv → ∃ c, cv = .ref c ∧ B c = some (LamX.CodeO c q)) :
    ∃ B1, Sta T F B1 H1 σ G ∧ Kp B H σ G B1 H1 G ∧ B1 c' = some (LamX.CodeO c' q) := by
  rcases l with ⟨rfl, pos, h⟩ | ⟨nC, more, rfl, ht, hn⟩
  · obtain ⟨c, e1, e2⟩ := hcs pos _ h
    cases e1
    exact ⟨B, S, Kp.refl, e2⟩
  · have nPc : tP ≠ c' := ne_of_none hP nC
    have bP : B tP = none := (S.tb _ hm).1
    have S1 := S.fresh (u := LamX.CodeO c' q) nC
    have k1 := Kp.fresh (u := LamX.CodeO c' q) S nC
    have hP1 : upd H c' (LamX.CodeO c' q) tP = some (.tbl qs) := by
      rw [upd_ne nPc]
      exact hP
    have S2 := S1.table (rs := qs ++ more) hu hP1 (by rw [upd_ne nPc]; exact bP) ht fun pos cv h => by
      rcases hn pos cv h with z | rfl
      · obtain ⟨c, e1, e2⟩ := hcs pos cv z
        exact ⟨c, e1, by rw [upd_ne fun y => by rw [y] at e2; rw [S.bh.free nC] at e2; cases e2]; exact e2⟩
      · exact ⟨c', rfl, upd_same⟩
    rw [upd_swap nPc]
    refine ⟨_, S2, ⟨k1.b, fun a o e m n => ?_, k1.n, k1.g, fun a h => there_upd (k1.t a h)⟩, upd_same⟩
    have e2 := k1.h a o e m n
    rw [upd_ne fun z => by rw [z, hP] at e; exact m qs (Option.some.inj e).symm]
    exact e2
/-- the locals that are data alone -/
@[simp ↓] def immG : Lo → Lo
  | [] => []
  | .imm d :: r => .imm d :: immG r
  | _ :: r => .no :: immG r
theorem immG_len : ∀ G : Lo, (immG G).length = G.length
  | [] => rfl
  | s :: G => by cases s <;> simp [immG, immG_len G]
theorem immG_at : ∀ {G : Lo} {i : Nat} {s : Slot}, (immG G)[i]? = some s → s = .no ∨ ∃ d, s = .imm d ∧ G[i]? = some (.imm d)
  | [], _, _, h => by simp at h
  | t :: G, i, s, h => by
    cases i with
    | zero =>
      cases t with
      | imm d =>
        have e : Slot.imm d = s := by simpa [immG] using h
        exact .inr ⟨d, e.symm, rfl⟩
      | no => exact .inl (by simpa [immG] using h.symm)
      | own w => exact .inl (by simpa [immG] using h.symm)
      | par j w => exact .inl (by simpa [immG] using h.symm)
    | succ i =>
      have h2 : (immG G)[i]? = some s := by cases t <;> simpa [immG] using h
      rcases immG_at h2 with r | ⟨d, r1, r2⟩
      · exact .inl r
      · exact .inr ⟨d, r1, by simpa using r2⟩
/-- the same locals in a frame that owns nothing -/
theorem Sta.imm0 (S : Sta T F B H σ G) : Sta T ⟨B, H, []⟩ B H σ (immG G) := by
  have no : ∀ {i p}, ¬ OwnAt σ (immG G) i p := fun {i p} ⟨_, w, h⟩ => by
    rcases h with h | ⟨j, h⟩
    · rcases immG_at h with z | ⟨d, z, _⟩ <;> cases z
    · rcases immG_at h with z | ⟨d, z, _⟩ <;> cases z
  refine ⟨S.bh, Same.refl _, fun _ _ e _ _ => e, fun a h => absurd h (by simp), fun _ _ h => h, by rw [immG_len]; exact S.len, fun i s e => ?_, fun i j p _ h1 _ => absurd h1 no, fun _ h => h, S.tb⟩
  rcases immG_at e with rfl | ⟨d, rfl, e2⟩
  · exact trivial
  · exact S.sl i _ e2
/-- (what e raises, what it gives), the exceptions' classes being n .. m - 1 -/
@[simp ↓] def tHeard (n m : Nat) (te : WD → RE) : RE := fun G K => te (fun c d _ => n ≤ c ∧ c < m ∧ K (.imm (.tup [.exc c d, .non])) G) (immG G) fun o G2 => match retG G2 o with
  | some (.imm d) => K (.imm (.tup [.non, d])) G
  | some (.new w) => match w.z with
    | some d => K (.imm (.tup [.non, d])) G
    | none => False
  | _ => False
theorem aft0 {A0 : Hp} {B' H' : Hp} {σ' : L2.St} {G' : Lo} (S : Sta T ⟨B, H, []⟩ B' H' σ' G') : Aft T B H [] B' H' [] := ⟨S.b0, S.bh, S.h0, S.nb, fun a ha => S.al a ha, trivial, S.tb⟩
theorem pd_heard {x lk c b er CF qualg : Str} {kt kt2 kt3 j1 j2 : Nat} {q0 q1 q2 q3 q4 q5 q6 q7 q8 q9 q10 q11 q12 q13 q14 q15 q16 q17 q18 q19 q20 : Pos} {pg : Arguments} {sg : Scope} {g CA cM tP : Addr} {fd : FuncData} {k n m : Nat} {params : Arguments} {body : Expr} {scope : Scope} {te : WD → RE} {p lpos pos : Pos}
    (D : FunD X.K x qualg pg (hdBody c b lk er CF kt kt2 kt3 j1 j2 q0 q1 q2 q3 q4 q5 q6 q7 q8 q9 q10 q11 q12 q13 q14 q15 q16 q17 q18 q19 q20) sg [] [] g fd) (hb : Binds X.K fd [lk] []) (Sg : FnScope [lk, c, b, er] [lk] sg)
    (lc : sg.names.lookup c = some .local) (lb : sg.names.lookup b = some .local) (ll : sg.names.lookup lk = some .local) (le : sg.names.lookup er = some .local) (lCF : sg.names.lookup CF = some .globalImplicit) (mCF : X.mg CF = some (.ref CA))
    (hw : ∀ (z : Addr) (cdv : Value), swappedStores [.Tuple [.Name c q0, .Name b q1] kt q2] (.Tuple [.Constant .none j1 q3, .Constant .none j2 q4] kt2 q5) (envOfC qualg sg z g cdv) = pure none)
    (TB : LamX.TabB X.base X.mg cM tP) (hcode : X.env.code = .ref cM) (hmT : (tP, X.env.qual ++ "<lambda>") ∈ T.tb) (hu : ∀ t ∈ T.tb, t.1 = tP → t.2 = X.env.qual ++ "<lambda>") (L : LamX.LamS X.env.scope scope) (hdef : defaultsOf params X.env = ([], []))
    (hbind : ∀ (q : Str) (cl : List (Str × Addr)) (pm cv ctv : Value), bindArgs (PySem.W.kla_fn "<lambda>" q params body scope cl pm cv ctv) ⟨[], []⟩ = pure [])
    (hex : ∀ c, n ≤ c → c < m → PySem.W.exmOne X.K (.ref (T.cl c)) (.ref CA) = some true) (hr : RoomG (k + 2) X.A) (hm : X.mg x = some (.ref g))
    (hbody : ∀ (A : Around) (outer : List Env) (s : Shared) (H : Hp) (E : XK) (f c' : Addr) (F2 : Fr) (W : WD), RoomG k (A.deeper (LamX.lamEnv X scope s.heap.objs.size f c')) → PassD (lamN X A outer s H E scope f c') T F2 W → PD (lamN X A outer s H E scope f c') T F2 body (te W))
    (hg : Gl X x := by rfl) (hdb : (x == ("__debug__" : Str)) = false := by decide) (nd : ([lk, c, b, er] : List Str).Nodup := by decide) (dCF : (CF == ("__debug__" : Str)) = false := by decide)
    (dbl : (lk == ("__debug__" : Str)) = false := by decide) (dbc : (c == ("__debug__" : Str)) = false := by decide) (dbb : (b == ("__debug__" : Str)) = false := by decide) (dbe : (er == ("__debug__" : Str)) = false := by decide)
    (dcl : (lk == ("__classdict__" : Str)) = false := by decide) (dcc : (c == ("__classdict__" : Str)) = false := by decide) (dcb : (b == ("__classdict__" : Str)) = false := by decide) (dce : (er == ("__classdict__" : Str)) = false := by decide) :
    PD X T F (.Call (.Name x p) [.Lambda params body scope lpos] [] pos) (tHeard n m te) := by
  refine ⟨fun hK hc B H σ G K S h pins s I => ?_⟩
  obtain ⟨oc, od, dV, kV, doc, pm, an, cdv, ct, osl, rfl, lkg, hcd, _, _⟩ := D.ex
  refine wpAny_Call_Name_kw (ld_glob I hg hm ?_ hdb)
  refine PySem.W.callWith_K (h₀ := X.base) I.ok.mod.kin D.kp ?_ (by rfl) (by rfl)
  show wpAny _ _ (spliced ((false, eval (.Lambda params body scope lpos) X.env) :: backTo pos (starEach [] X.env))) _ _ s
  obtain ⟨bP, qs, hP, ht, hcs⟩ := S.tb _ hmT
  refine Calls.spliced_cons (lam_mk I TB hcode hP ht (fun p' cv z => ?_) hdef (L.has I.ok) fun f c' pm' ctv H1 s' I1 hl hf hfn hfr hco => ?_)
  · obtain ⟨c0, e1, e2⟩ := hcs p' cv z
    exact ⟨c0, e1, S.bh _ _ e2⟩
  obtain ⟨B1, S1, k1, bc⟩ := hl.sta S hmT hu hP hcs
  refine Calls.spliced_nil ⟨I1.kIn, ?_⟩
  have rc : codeAny (model X.prog X.w) X.A (.call (.ref g) ⟨[.ref f], []⟩) (CR (L2N.CX X.prog X.w) X.stack X.prog X.w H1 s' (Post T F B H σ G K) (fun _ _ _ => False)) s' := by
    refine LamX.run_ofS (N := [lk, c, b, er]) (ps := [lk]) (us := [.ref f]) (vs := [.ref f]) (k := k + 1) lkg hcd Sg hr.rm I1.env0 (hb s' [.ref f] I1.kIn rfl) (.cons rfl .nil) rfl fun hr' => ?_
    have hrg : RoomG (k + 1) (X.A.deeper (envOfC qualg sg s'.heap.objs.size g cdv)) := hr.deeper _
    refine Exists.elim (heard_body (Z := (cxOf (L2N.CX X.prog X.w) X.prog X.w X.K X.mg X.base [lk, c, b, er] qualg sg g cdv X.A X.stack s' H1 (fun _ _ _ => False)).nox) (CA := CA) (f := f) (H := H1) (Q := Post T F B H σ G K) (kt := kt) (kt2 := kt2) (kt3 := kt3) (j1 := j1) (j2 := j2) (q0 := q0) (q1 := q1) (q2 := q2) (q3 := q3) (q4 := q4) (q5 := q5) (q6 := q6) (q7 := q7) (q8 := q8) (q9 := q9) (q10 := q10) (q11 := q11) (q12 := q12) (q13 := q13) (q14 := q14) (q15 := q15) (q16 := q16) (q17 := q17) (q18 := q18) (q19 := q19) (q20 := q20)
      rfl rfl rfl rfl rfl nd lc lb ll le ⟨lCF, dCF, .inl mCF⟩ dbc dbb dbe dcc dcb dce (hw _ _)
      (fun W pn xe tk => act_ok (i := 0) I1 L hf hfn hfr (hbind _ _ _ _ _) hrg tk rfl (.inl ll) dbl dcl) fun p0 np0 W Qv hQ hW => ?_) fun t ht => ⟨t, ht.1.nox, ht.2⟩
    have k1 := k1.trans (Kp.fresh (u := .tup [.non, .non]) S1 np0)
    have S1 := S1.fresh (u := .tup [.non, .non]) np0
    obtain ⟨B9, e9⟩ : ∃ B9, B9 = upd B1 p0 (.tup [.non, .non]) := ⟨_, rfl⟩
    obtain ⟨H9, f9⟩ : ∃ H9, H9 = upd H1 p0 (.tup [.non, .non]) := ⟨_, rfl⟩
    rw [← e9, ← f9] at S1 k1
    rw [← f9]
    have fin : ∀ {B' H' : Hp}, Aft T B9 H9 [] B' H' [] → Sta T F B' H' σ G ∧ Kp B9 H9 σ G B' H' G := fun {B' H'} r => S1.call (is := []) (A1 := []) trivial List.nodup_nil r
    have hco9 : H9 c' = some (LamX.CodeO c' (X.env.qual ++ "<lambda>")) := by
      rw [f9, upd_ne (ne_of_none hco np0)]
      exact hco
    refine ⟨rfl, hco9, fun cls d H' => ∃ B' c dv, cls = .ref (T.cl c) ∧ ExcIs T B' H' d dv ∧ Aft T B9 H9 [] B' H' [] ∧ n ≤ c ∧ c < m ∧ K (.imm (.tup [.exc c dv, .non])) G, fun cls d H' ⟨B', c, dv, e1, hx, r, c1, c2, kk⟩ => ?_, fun A outer s1 hr1 => ?_⟩
    · obtain ⟨dd, v, rfl, hd, hv⟩ := hx
      obtain ⟨S2, k2⟩ := fin r
      refine hW cls _ H' ⟨T.cl c, dd, e1, rfl, by rw [e1]; exact hex c c1 c2, fun a p na np => ?_⟩
      have S3 := S2.fresh (u := ExK (T.cl c) dd a) na
      have k3 := Kp.fresh (u := ExK (T.cl c) dd a) S2 na
      have iv : Is T (upd B' a (ExK (T.cl c) dd a)) (.ref a) (.exc c dv) := .exc upd_same (by rw [upd_ne (ne_of_none (S2.bh _ _ hd) na)]; exact hd) (hv.mono (same_upd (S2.bh.free na)))
      refine Post.more ((k1.trans k2).trans k3) (Post.new S3 np ?_ kk)
      have sm : Same (upd B' a (ExK (T.cl c) dd a)) (upd (upd B' a (ExK (T.cl c) dd a)) p (.tup [.ref a, .non])) := same_upd (S3.bh.free np)
      exact .tup upd_same (.cons (iv.mono sm) (.cons .non .nil))
    · have pas : PassD (lamN X A outer s1 H9 (fun cls d H' => ∃ B' c dv, cls = .ref (T.cl c) ∧ ExcIs T B' H' d dv ∧ Aft T B9 H9 [] B' H' [] ∧ n ≤ c ∧ c < m ∧ K (.imm (.tup [.exc c dv, .non])) G) scope f c') T ⟨B9, H9, []⟩ (fun c d _ => n ≤ c ∧ c < m ∧ K (.imm (.tup [.exc c d, .non])) G) := by
        refine L2N.Takes.imp (L2N.takes_of rfl rfl rfl rfl) fun cls d σ2 H2 ⟨B2, G2, c, dv, e1, e2, S2, w⟩ => ?_
        exact ⟨B2, c, dv, e1, e2, aft0 (A0 := H9) S2, w⟩
      refine tG_mono ((hbody A outer s1 H9 _ f c' ⟨B9, H9, []⟩ _ hr1 pas).run hK rfl B9 H9 σ (immG G) _ S1.imm0 h) fun v H2 ⟨B2, o, G2, S2, k2, ho, nw, q⟩ => hQ v H2 fun p np => ?_
      have r := aft0 (A0 := H9) S2
      obtain ⟨S3, k3⟩ := fin r
      dsimp only at q
      split at q
      · rename_i d e
        have rv : Is T B2 v d := res_of (A0 := []) S2 ho e
        refine Post.more (k1.trans k3) (Post.new S3 np ?_ q)
        exact .tup upd_same (.cons .non (.cons (rv.mono (same_upd (S3.bh.free np))) .nil))
      · rename_i w e
        have rv : ResOk T H9 B2 H2 v (.new w) := res_of (A0 := []) S2 ho e
        split at q
        · rename_i d ez
          obtain ⟨B4, o4, G4, S4, k4, h4, n4, e4, e5⟩ := Post.called (K := fun o G' => o = .new w ∧ G' = G) (o := .new w) (is := []) (A1 := []) S1 trivial List.nodup_nil r rv ⟨rfl, rfl⟩
          subst e4 e5
          have ez2 : frz1 G4 (.new w) = some (d, G4) := by
            show w.z.map _ = _
            rw [ez]
            rfl
          obtain ⟨B5, S5, k5, i5⟩ := frz_ok k4 S4 h4 n4 ez2
          refine Post.more (k1.trans k5) (Post.new S5 np ?_ q)
          exact .tup upd_same (.cons .non (.cons (i5.mono (same_upd (S5.bh.free np))) .nil))
        · exact q.elim
      · exact q.elim
  refine wpAny_call (codeAny_mono rc fun r s2 hq => ?_)
  cases r with
  | error e =>
    obtain ⟨_, _, _, _, _, _, _, _, _, _, _, _, z⟩ := hq
    exact z.elim
  | ok fl =>
    cases fl with
    | ret u => exact I1.after hq
    | next => exact False.elim hq
    | brk => exact False.elim hq
    | cont => exact False.elim hq
end
end Fx
end
section
set_option Elab.async false
set_option linter.all false
set_option maxRecDepth 100000
set_option maxHeartbeats 2000000
/-! Fx28: exceptions that are kept: isinstance, their value; operators and methods that may raise -/
namespace Fx
open PySem PySem.Spec PyProof.Rows L2
/-- what isinstance and e.value ask of an exception class -/
structure ExcK (K : PySem.W.Frag) (C : Addr) : Prop where
  ga : PySem.W.findIn K (.ref C) "__getattribute__" = some (some (.builtin "BaseException.__getattribute__"))
  gg : PySem.W.findIn K (.ref C) "__getattr__" = some none
  sb : PySem.W.subIn K (.ref C) (.type "BaseException") = some true
  hd : PySem.W.hasDictIn K C = true
  cc : PySem.W.findIn K (.ref C) "__class__" = some (some (.builtin "object.__class__"))
  cn : PySem.W.specialIn K (.builtin "object.__class__") "__get__" = some (some (.builtin "getset_descriptor.__get__"))
  ct : PySem.W.takesIn K (.builtin "object.__class__") = some true
  om : PySem.W.mroIn K C (.type "object") = some true
  ic : (PySem.W.clsIn K C).isSome = true
  nv : PySem.W.findIn K (.ref C) "value" = some none
section
variable {X : Cx} {T : Tab} {F : Fr} {B H : Hp} {σ : L2.St} {G : Lo} {pins : List (Addr × Obj)} {s : Shared}
theorem exK_at {a C dx : Addr} {v : V} (I : Inv X pins σ H s) (h : H a = some (ExK C dx a)) (hd : H dx = some (.xd [("value", v)])) :
    ∃ oe od, PySem.W.InstAt s.heap a oe C (some od) ∧ ∃ u, PySem.W.lookIn "value" od = some (some u) ∧ RelV v u := by
  obtain ⟨⟨oe, vs, ha, hz, hf⟩, _, _⟩ := I.hok a _ h
  obtain ⟨mA, hns, hr⟩ := I.hok dx _ hd
  obtain ⟨od, ho, hl⟩ := lookIn_ns hns
  obtain ⟨u, hu, ru⟩ := RelO.some_of (v := v) (o := mA "value") (hr "value")
  exact ⟨oe, od, ⟨ha, hz.1, by unfold PySem.W.notCls; rw [hf] <;> rfl, by rw [hz.2]; exact ho⟩, u, by rw [hl, hu], ru⟩
/-- isinstance(e, c) of a kept exception -/
def rIsX (K : PySem.W.Frag) : List V → Hp → VK → Prop := fun xs H Q => ∃ (a C dx : Addr) (v c : V) (u : Value) (b : Bool), xs = [.ref a, c] ∧ H a = some (ExK C dx a) ∧ H dx = some (.xd [("value", v)]) ∧ ExcK K C ∧ (∀ w, RelV c w → w = u) ∧ (∀ w, u ≠ .ref w ∨ True) ∧ PySem.W.kitOne K (.ref C) u = some b ∧ Q (.bl b) H
theorem call_isX : CallR X (.builtin "isinstance") (rIsX X.K) := by
  intro pins s σ H xs us Q I r h
  obtain ⟨a, C, dx, v, c, u, b, rfl, ha, hd, E, hc, _, hk, q⟩ := h
  obtain ⟨u1, u2, rfl, r1, r2⟩ := r.two
  cases (show u1 = Value.ref a from r1)
  cases hc _ r2
  obtain ⟨oe, od, J, _⟩ := exK_at I ha hd
  exact PySem.W.kia_one (PySem.W.kitx_exc E.ic E.ga E.gg E.sb E.cc E.cn E.ct E.om) I.kIn J hk (fun z => nomatch z) fun tk => ⟨.bl b, H, I.tok _, rfl, q⟩
/-- g d as ever; of the exceptions' classes n .. m - 1 by g2 -/
@[simp ↓] def isX (n m : Nat) (g2 : Nat → Bool) (g : D → Option Bool) : D → Option Bool
  | .exc c _ => if n ≤ c ∧ c < m then some (g2 c) else none
  | d => g d
theorem cd_isX {u : Value} {g : D → Option Bool} {g2 : Nat → Bool} {nS n m : Nat} {cd : D} (hcd : ∀ B v, Is T B v cd → ClsV v u) (hk : KitD T nS u g) (hS : ∀ c, c < nS → SlX.SCls T.K (T.cl c) ∧ SlX.SIsi T.K (T.cl c)) (hX : ∀ c, n ≤ c → c < m → ExcK T.K (T.cl c) ∧ PySem.W.kitOne T.K (.ref (T.cl c)) u = some (g2 c)) :
    CallD X T F (.builtin "isinstance") (isI (isX n m g2 g) cd) := by
  intro hK hcm
  obtain ⟨r, hr, hq⟩ := cd_isi (X := X) (F := F) hcd hk hS hK hcm
  refine ⟨_, CallR.or hr call_isX, fun B H σ G vs os K Q S hos h k => ?_⟩
  unfold isI at h
  split at h
  · rename_i o cc
    obtain ⟨rfl, h⟩ := h
    split at h
    · rename_i d ed
      by_cases hx : ∃ c e, d = .exc c e
      · obtain ⟨c, e, rfl⟩ := hx
        have h : match (if n ≤ c ∧ c < m then some (g2 c) else none) with | some b => K (.imm (.bl b)) G | none => False := h
        split at h
        · rename_i b eb
          split at eb
          · rename_i hc
            cases eb
            cases hos with
            | cons h1 t =>
              rename_i v1 vs1
              cases t with
              | cons h2 t2 =>
                rename_i v2 vs2
                cases t2
                obtain ⟨z1, z2⟩ := hX c hc.1 hc.2
                rw [← hK] at z1 z2
                cases (show Is T B v1 (.exc c e) from S.see h1 ed) with
                | exc i1 i2 i3 => exact .inr ⟨_, _, _, _, v2, u, _, rfl, S.bh _ _ i1, S.bh _ _ i2, z1, fun w hw => (hcd _ _ h2).eq hw, fun _ => .inr trivial, z2, k _ _ (Post.imm S (.bl _) h)⟩
          · cases eb
        · exact h.elim
      · refine .inl (hq B H σ G vs _ K Q S hos ?_ k)
        have e2 : isX n m g2 g d = g d := by
          cases d with
          | exc c e => exact absurd ⟨c, e, rfl⟩ hx
          | _ => rfl
        rw [e2] at h
        exact ⟨rfl, by rw [ed]; exact h⟩
    · exact h.elim
  · exact h.elim
/-- e.value of a kept exception -/
@[simp ↓] def tVal (n m : Nat) (te : RE) : RE := fun G K => te G fun o G1 => match cont G1 o with
  | some (.exc c d) => n ≤ c ∧ c < m ∧ K (.imm d) G1
  | _ => False
variable {e : Expr} {te : RE} {pos : Pos}
theorem pd_val {n m : Nat} (he : PD X T F e te) (hX : ∀ c, n ≤ c → c < m → ExcK X.K (T.cl c)) (hb : attributeBase e "value" X.env (eval e X.env) = eval e X.env := by rfl) : PD X T F (.Attribute e "value" pos) (tVal n m te) := by
  refine ⟨fun hK hc B H σ G K S h pins s I => ?_⟩
  refine attr_of hb (thn (he.run hK hc B H σ G _ S h pins s I) fun u s1 ⟨v, H1, I1, r1, B1, o, G1, S1, k1, w1, _, q⟩ => ?_)
  dsimp only at q
  split at q
  · rename_i c d ed
    obtain ⟨c1, c2, q⟩ := q
    cases (show Is T B1 v (.exc c d) from S1.see w1 ed) with
    | exc i1 i2 i3 =>
      cases r1
      have E := hX c c1 c2
      obtain ⟨oe, od, J, w, l, rw2⟩ := exK_at I1 (S1.bh _ _ i1) (S1.bh _ _ i2)
      exact HandSPX.exc_get I1.kIn J E.ga E.gg E.sb (PySem.W.findObj_own E.hd E.nv rfl l) (handed_of rw2) ⟨_, H1, I1.tok _, rw2, Post.more k1 (Post.imm S1 i3 q)⟩
  · exact q.elim
/-- x op y of one own class, that may raise -/
@[simp ↓] def tOwnX (c : Nat) (Sq : Spec) (W : WD) (ta tb : RE) : RE := fun G K => tFz ta G fun d G1 => tFz tb G1 fun d2 G2 => match d, d2 with
  | .slt c1 fs, .slt c2 gs => c1 = c ∧ c2 = c ∧ Sq [.imm (.slt c1 fs), .imm (.slt c2 gs)] (fun r _ => K r G2) (fun x y _ => W x y G2)
  | _, _ => False
theorem pd_ownX {op : Operator} {a b : Expr} {ta tb : RE} {W : WD} {g : Addr} {k : Nat} {Sq : Spec} (c : Nat) (hc : PySem.W.selfFirst X.K (T.cl c) = true) (hs : PySem.W.findIn X.K (.ref (T.cl c)) (PySem.dunder op.info.2) = some (some (.ref g))) (hf : PySem.W.isFn X.K (.ref g) = true) (Fn : FnX X T k g Sq) (hr : RoomG k X.A) (hp : PassD X T F W)
    (ha : PD X T F a ta) (hb : PD X T F b tb) : PD X T F (.BinOp a op b pos) (tOwnX c Sq W ta tb) := by
  refine ⟨fun hK hcm B H σ G K S h pins s I => ?_⟩
  refine wpAny_BinOp (thn (run_fz ha hK hcm S h pins s I) fun u1 s1 ⟨v1, H1, I1, r1, B1, d1, G1, S1, k1, i1, q1⟩ => thn (run_fz hb hK hcm S1 q1 pins s1 I1) fun u2 s2 ⟨v2, H2, I2, r2, B2, d2, G2, S2, k2, i2, q2⟩ => ?_)
  cases d1 with
  | slt c1 fs =>
   cases d2 with
   | slt c2 gs =>
    obtain ⟨rfl, rfl, q2⟩ := q2
    have i1' := i1.mono k2.b
    obtain ⟨x1, dx, vs, rfl, hsl, l⟩ := slt_of (d := .non) S2 (show See T B2 H2 v1 (.slt c2 fs) from i1')
    obtain ⟨x2, dy, ws, rfl, hsl2, l2⟩ := slt_of (d := .non) S2 (show See T B2 H2 v2 (.slt c2 gs) from i2)
    obtain rfl : u1 = Value.ref x1 := r1
    obtain rfl : u2 = Value.ref x2 := r2
    obtain ⟨sl, od, _, J, _⟩ := SlX.slt_inst I2 hsl
    obtain ⟨sl', od', _, J', _⟩ := SlX.slt_inst I2 hsl2
    obtain ⟨m, hF⟩ := I2.fr
    refine PySem.W.binop_K hF I2.ok.mod.kin J J'.type hc hs hf ?_
    have q3 : tSpec Sq W G2 [.imm (.slt c2 fs), .imm (.slt c2 gs)] K := ⟨List.nodup_nil, q2⟩
    refine wpAny_mono (run_fnX Fn hr (hp.at σ) I2 (us := [.ref x1, .ref x2]) (vs := [.ref x1, .ref x2]) (.cons rfl (.cons rfl .nil)) (spec_sp S2 (.imm i1' (.imm i2 .nil)) q3)) (fun w s' z => ?_) fun _ _ x => x
    obtain ⟨z', H', I', rz, qz⟩ := z
    exact SlX.cmpback rz ⟨z', H', I', rz, Post.more (k1.trans k2) qz⟩
   | _ => exact q2.elim
  | _ => exact q2.elim
end
end Fx
end
section
set_option Elab.async false
set_option linter.all false
set_option maxRecDepth 100000
set_option maxHeartbeats 2000000
/-! Fx29: facts about exceptions' classes, code objects, tables as Bools -/
namespace Fx
open PySem PySem.Spec PyProof.Rows L2
/-! ### exceptions' classes -/
def excClsB (K : PySem.W.Frag) (C : Addr) : Bool := match K.lookup C with
  | some ⟨.type "type", _, .cls cd, sl⟩ => (match cd.mro, sl.toList with
    | .ref C' :: bm, [_, _, _, _, some (.builtin n), _] => C' == C && n == "ValueError.__new__" && !cd.hasDel && cd.hasDict && PySem.HandSPX.refsVE bm
    | _, _ => false)
  | _ => false
theorem excClsB_ok {K : PySem.W.Frag} {C : Addr} (h : excClsB K C = true) : ∃ nm q N bs bm sn sub ab col dd k0 k1 k2 k3 k5, K.lookup C = some (excClassObj nm q C N bs bm true sn sub ab col dd k0 k1 k2 k3 k5 "ValueError.__new__") ∧ PySem.HandSPX.refsVE bm = true := by
  unfold excClsB at h
  split at h
  · rename_i dd cd sl ho
    split at h
    · rename_i C' bm k0 k1 k2 k3 n k5 hm hs
      simp only [Bool.and_eq_true, beq_iff_eq, Bool.not_eq_true'] at h
      obtain ⟨⟨⟨⟨rfl, rfl⟩, hdel⟩, hdi⟩, ht⟩ := h
      obtain ⟨nm, bs, mro, ns, qn, hd, sn, sub, ab, col, del⟩ := cd
      dsimp only at hm hdel hdi
      subst hm hdel hdi
      have e : sl = #[k0, k1, k2, k3, some (.builtin "ValueError.__new__"), k5] := by
        obtain ⟨l⟩ := sl
        simp only at hs
        rw [hs]
      subst e
      exact ⟨nm, qn, ns, bs, bm, sn, sub, ab, col, dd, k0, k1, k2, k3, k5, ho, ht⟩
    · cases h
  · cases h
/-- the class x, under the class d whose __init__ it has -/
def iniCB (x d : Str) : FB := fun K => excClsB K (He.ga K x) && (bSome (PySem.W.findIn K (.ref (He.ga K x)) "__setattr__") (.builtin "object.__setattr__") && (decide (PySem.W.subIn K (.ref (He.ga K x)) (.type "BaseException") = some true) && (decide (PySem.W.typeIn K (.ref (He.ga K x)) = some (.type "type")) &&
  (PySem.W.keepIn K (.ref (He.ga K x)) && (bSome (PySem.W.findIn K (.ref (He.ga K x)) "__init__") (.ref (He.ma K (He.ga K d) "__init__")) && (decide (PySem.W.typeIn K (.ref (He.ma K (He.ga K d) "__init__")) = some (.type "function")) && ((PySem.W.clsIn K (He.ga K d)).isSome && (decide (PySem.W.mroIn K (He.ga K x) (.ref (He.ga K d)) = some true) &&
  (bSome (PySem.W.ks_superIn K (He.ga K x) (He.ga K d) "__init__") (.builtin "ValueError.__init__") && (decide (PySem.W.subIn K (.ref (He.ga K x)) (.type "ValueError") = some true) && (decide (PySem.W.findIn K (.ref (He.ga K x)) "value" = some none) && decide (PySem.W.nsIn K cStatics "thirdparty.any" = some none))))))))))))
theorem iniCB_ok {K : PySem.W.Frag} {x d : Str} (h : iniCB x d K = true) : IniC K (He.ga K x) (He.ga K d) (He.ma K (He.ga K d) "__init__") := by
  obtain ⟨a1, h⟩ := ba h
  obtain ⟨a2, h⟩ := ba h
  obtain ⟨a3, h⟩ := ba h
  obtain ⟨a4, h⟩ := ba h
  obtain ⟨a5, h⟩ := ba h
  obtain ⟨a6, h⟩ := ba h
  obtain ⟨a7, h⟩ := ba h
  obtain ⟨a8, h⟩ := ba h
  obtain ⟨a9, h⟩ := ba h
  obtain ⟨a10, h⟩ := ba h
  obtain ⟨a11, h⟩ := ba h
  obtain ⟨a12, a13⟩ := ba h
  exact ⟨excClsB_ok a1, of_decide_eq_true a2, of_decide_eq_true a3, of_decide_eq_true a4, a5, of_decide_eq_true a6, of_decide_eq_true a7, Option.isSome_iff_exists.mp a8, of_decide_eq_true a9, of_decide_eq_true a10, of_decide_eq_true a11, of_decide_eq_true a12, of_decide_eq_true a13⟩
def exckB (x : Str) : FB := fun K => bSome (PySem.W.findIn K (.ref (He.ga K x)) "__getattribute__") (.builtin "BaseException.__getattribute__") && (decide (PySem.W.findIn K (.ref (He.ga K x)) "__getattr__" = some none) && (decide (PySem.W.subIn K (.ref (He.ga K x)) (.type "BaseException") = some true) && (PySem.W.hasDictIn K (He.ga K x) &&
  (bSome (PySem.W.findIn K (.ref (He.ga K x)) "__class__") (.builtin "object.__class__") && (bSome (PySem.W.specialIn K (.builtin "object.__class__") "__get__") (.builtin "getset_descriptor.__get__") && (decide (PySem.W.takesIn K (.builtin "object.__class__") = some true) && (decide (PySem.W.mroIn K (He.ga K x) (.type "object") = some true) &&
  ((PySem.W.clsIn K (He.ga K x)).isSome && decide (PySem.W.findIn K (.ref (He.ga K x)) "value" = some none)))))))))
theorem exckB_ok {K : PySem.W.Frag} {x : Str} (h : exckB x K = true) : ExcK K (He.ga K x) := by
  obtain ⟨a1, h⟩ := ba h
  obtain ⟨a2, h⟩ := ba h
  obtain ⟨a3, h⟩ := ba h
  obtain ⟨a4, h⟩ := ba h
  obtain ⟨a5, h⟩ := ba h
  obtain ⟨a6, h⟩ := ba h
  obtain ⟨a7, h⟩ := ba h
  obtain ⟨a8, h⟩ := ba h
  obtain ⟨a9, a10⟩ := ba h
  exact ⟨of_decide_eq_true a1, of_decide_eq_true a2, of_decide_eq_true a3, a4, of_decide_eq_true a5, of_decide_eq_true a6, of_decide_eq_true a7, of_decide_eq_true a8, a9, of_decide_eq_true a10⟩
/-- an exception of x is caught by 'except y' -/
def exmB (x y : Str) : FB := fun K => decide (PySem.W.exmOne K (.ref (He.ga K x)) (.ref (He.ga K y)) = some true)
/-! ### the __init__ of the exceptions -/
def iniB (P : Program) (d : Str) : FB := fun K => match K.lookup (He.ma K (He.ga K d) "__init__") with
  | some ⟨_, _, .func fd, _⟩ => (match fd.closure, fd.code with
    | [(n, cc)], .ref cda => decide (n = "__class__") && ((match K.lookup cc with
      | some ⟨_, _, .cell (some (.ref D)), _⟩ => decide (D = He.ga K d)
      | _ => false) && (match K.lookup cda with
      | some ⟨_, _, .fields vs, _⟩ => (match (vs[2]? : Option Value) with
        | some (.str file _) => P.main.file == file
        | _ => false)
      | _ => false))
    | _, _ => false)
  | _ => false
theorem iniF_ok {P : Program} {K : PySem.W.Frag} {d qual : Str} {fd0 : FDef} {st : Stmt} {ar : PySem.Arg} {q0 q1 q2 q3 q4 q5 q6 q7 q8 q9 : Pos} (e : fnAt K (fd0.ad K) = fd0.val ∧ fd0.ok K = true) (hd : fd0 = ⟨fun K => He.ma K (He.ga K d) "__init__", "__init__", qual, st, [], ["__class__"]⟩) (b : iniB P d K = true)
    (hb : defBody st = iniBody q0 q1 q2 q3 q4 q5 q6 q7 q8 q9) (h1 : ((defArgs st).posonlyargs ++ (defArgs st).args).head? = some ar) (h2 : ar.arg = "self")
    (h3 : ∀ (scope : Scope) (dV kV doc pm ct cv : Value) (an : Option Addr) (cc : Addr) (us : List Value), us.length = 2 → dV = .none → bindArgs (PySem.W.ksFn "__init__" qual (defArgs st) (iniBody q0 q1 q2 q3 q4 q5 q6 q7 q8 q9) scope dV kV doc pm an cv ct cc) ⟨us, []⟩ = pure ((["self", "value"] : List Str).zip us))
    (h4 : (defScope st).kind = .function ∧ (defScope st).isCoroutine = false ∧ (defScope st).isGenerator = false ∧ (∀ x ∈ (defScope st).names, x.2 ≠ .cell) ∧ (defScope st).names.lookup ("self" : Str) = some .local ∧ (defScope st).names.lookup ("value" : Str) = some .local ∧
      (defScope st).names.lookup ("super" : Str) = some .globalImplicit ∧ (defScope st).names.lookup ("__class__" : Str) = some .free ∧ (P.main.scope.names.lookup ("super" : Str)).isSome = false)
    (h5 : ∀ env : Env, ∃ pl : Sem Bool, eval (.Call (.Attribute (.Call (.Name "super" q0) [] [] q1) "__init__" q2) [.Name "value" q3] [] q4) env = (do
      let ov ← attributeBase (.Call (.Name "super" q0) [] [] q1) "__init__" env (eval (.Call (.Name "super" q0) [] [] q1) env)
      standAt q2.atName
      let (f, first) ← holding [ov] (getMethod ov "__init__" pl)
      callWith q4 f first (backTo q4 (starEach [.Name "value" q3] env)) [])) : IniF P K (He.ga K d) (He.ma K (He.ga K d) "__init__") := by
  subst hd
  obtain ⟨e, c⟩ := e
  obtain ⟨kp, c2⟩ := ba c
  dsimp only at e c2
  unfold fnAt at e
  unfold iniB at b
  cases q : K.lookup (He.ma K (He.ga K d) "__init__") with
  | none =>
    rw [q] at c2
    cases c2
  | some o =>
    obtain ⟨oc, od, dt, osl⟩ := o
    rw [q] at c2 e b
    cases dt with
    | func fd =>
      obtain ⟨n1, n2, n3, n4, n5, n6, n7, n8, n9, n10, n11, n12, n13, n14, n15⟩ := fd
      have e2 : (some (n1, n2, n3, n4, n5, n6, n7.map Prod.fst, n15) : FnC) = some (("__init__" : Str), qual, defArgs st, FuncBody.stmts (defBody st), defScope st, mainGlobals, (["__class__"] : List Str), builtinsNs) := e
      simp only [Option.some.injEq, Prod.mk.injEq] at e2
      obtain ⟨g1, g2, g3, g4, g5, g6, g7, g8⟩ := e2
      dsimp only at b c2
      split at b
      · rename_i nn cc cda
        obtain ⟨b1, b⟩ := ba b
        obtain ⟨b2, b3⟩ := ba b
        have b1 : nn = "__class__" := of_decide_eq_true b1
        subst b1
        subst g1 g2 g3 g4 g5 g6 g8
        obtain ⟨k1, k2⟩ := ba c2
        have k3 : n8 = .none := by
          rcases He.dflB_ok k2 with ⟨_, z⟩ | ⟨z, _⟩
          · exact z
          · exact absurd rfl z
        split at b2
        · rename_i z1 z2 D z3 lcc
          have b2 : D = He.ga K d := of_decide_eq_true b2
          subst b2
          split at b3
          · rename_i y1 y2 vs y3 lcd
            split at b3
            · rename_i file tf hv
              obtain ⟨s1, s2, s3, s4, s5, s6, s7, s8, s9⟩ := h4
              rw [hb] at q
              exact ⟨oc, .none, n8, n9, n10, n11, n14, y1, z1, od, n12, y2, z2, osl, y3, z3, n2, file, defArgs st, defScope st, cc, cda, vs, tf, ar, q0, q1, q2, q3, q4, q5, q6, q7, q8, q9, q, k1, lcd, hv, b3, lcc, h1, h2, fun us hu => h3 _ _ _ _ _ _ _ _ _ us hu k3, s1, s2, s3, s4, s5, s6, s7, s8, s9, h5⟩
            · cases b3
          · cases b3
        · cases b2
      · cases b
    | _ => cases c2
/-! ### code objects, tables -/
def codeAd (ad : FA) : FA := fun K => match K.lookup (ad K) with
  | some ⟨_, _, .func fd, _⟩ => (match fd.code with
    | .ref c => c
    | _ => 0)
  | _ => 0
def tabAd (ad : FA) : FA := fun K => match K.lookup (codeAd ad K) with
  | some ⟨_, _, .fields vs, _⟩ => (match (vs[11]? : Option Value) with
    | some (.ref t) => t
    | _ => 0)
  | _ => 0
def codeB (ad : FA) : FB := fun K => (match K.lookup (ad K) with
  | some ⟨_, _, .func fd, _⟩ => (match fd.code with
    | .ref _ => true
    | _ => false)
  | _ => false) && (PySem.W.codeHdIn K (codeAd ad K) (tabAd ad K) && (K.lookup (tabAd ad K)).isNone)
theorem codeB_ok {ad : FA} {K : PySem.W.Frag} (h : codeB ad K = true) : (∀ {oc od fd osl}, K.lookup (ad K) = some ⟨oc, od, .func fd, osl⟩ → fd.code = .ref (codeAd ad K)) ∧ PySem.W.codeHdIn K (codeAd ad K) (tabAd ad K) = true ∧ K.lookup (tabAd ad K) = none := by
  obtain ⟨h1, h⟩ := ba h
  obtain ⟨h2, h3⟩ := ba h
  refine ⟨fun {oc od fd osl} e => ?_, h2, Option.isNone_iff_eq_none.mp h3⟩
  unfold codeAd
  rw [e] at h1 ⊢
  dsimp only at h1 ⊢
  split at h1
  · rename_i c hc
    rw [hc]
  · cases h1
theorem code_is {ad : FA} {K : PySem.W.Frag} {x qual : Str} {st : Stmt} {dvs : List V} {fd : FuncData} {cdv : Value} (D : FnPd K x qual st dvs (ad K) fd) (h : codeB ad K = true) (e : fd.code = cdv) : cdv = .ref (codeAd ad K) := by
  obtain ⟨oc, od, dV, kV, doc, pm, an, cv, ct, osl, rfl, lk, _⟩ := D.ex
  rw [← e]
  exact (codeB_ok h).1 lk
/-- the tables are of one name each -/
def tabsB (tb : PySem.W.Frag → List (Addr × Str)) (ad : FA) (q : Str) : FB := fun K => (tb K).all fun t => decide (t.1 = tabAd ad K → t.2 = q)
theorem tabsB_ok {tb : PySem.W.Frag → List (Addr × Str)} {ad : FA} {q : Str} {K : PySem.W.Frag} (h : tabsB tb ad q K = true) : ∀ t ∈ tb K, t.1 = tabAd ad K → t.2 = q := fun t ht => of_decide_eq_true (List.all_eq_true.mp h t ht)
/-- the code objects and the tables of some defs -/
theorem tabsIn_of {K : PySem.W.Frag} {h : Heap} {l : List FA} (hK : K.In h) (c : ∀ a ∈ l, codeB a K = true) (t : ∀ a ∈ l, h.get? (tabAd a K) = some noTable) : TabsIn K h (l.map fun a => (codeAd a K, tabAd a K)) := by
  refine ⟨fun p hp => ?_, fun p hp => ?_, fun p hp => ?_⟩ <;> obtain ⟨a, ha, rfl⟩ := List.mem_map.mp hp
  · exact t a ha
  · exact (codeB_ok (c a ha)).2.2
  · exact PySem.W.codeHd_of_K hK (codeB_ok (c a ha)).2.1
end Fx
end
section
set_option Elab.async false
set_option linter.all false
set_option maxRecDepth 100000
set_option maxHeartbeats 2000000
/-! Fx30: the lambda handed to _law_heard_of, by one fact -/
namespace Fx
open PySem PySem.Spec PyProof.Rows L2
/-- what _law_heard_of is: its text, its class to be caught -/
structure HeardF (K : PySem.W.Frag) (mg : Str → Option Value) (cl : Nat → Addr) (n m : Nat) (g : Addr) : Prop where
  ex : ∃ (qualg : Str) (kt kt2 kt3 j1 j2 : Nat) (q0 q1 q2 q3 q4 q5 q6 q7 q8 q9 q10 q11 q12 q13 q14 q15 q16 q17 q18 q19 q20 : Pos) (pg : Arguments) (sg : Scope) (CA : Addr) (fd : FuncData),
    FunD K "_law_heard_of" qualg pg (hdBody "_law_caught" "_law_back" "_law_look" "error" "FlexError" kt kt2 kt3 j1 j2 q0 q1 q2 q3 q4 q5 q6 q7 q8 q9 q10 q11 q12 q13 q14 q15 q16 q17 q18 q19 q20) sg [] [] g fd ∧ Binds K fd ["_law_look"] [] ∧ FnScope ["_law_look", "_law_caught", "_law_back", "error"] ["_law_look"] sg ∧
    sg.names.lookup ("_law_caught" : Str) = some .local ∧ sg.names.lookup ("_law_back" : Str) = some .local ∧ sg.names.lookup ("_law_look" : Str) = some .local ∧ sg.names.lookup ("error" : Str) = some .local ∧ sg.names.lookup ("FlexError" : Str) = some .globalImplicit ∧
    mg "FlexError" = some (.ref CA) ∧
    (∀ (z : Addr) (cdv : Value), swappedStores [.Tuple [.Name "_law_caught" q0, .Name "_law_back" q1] kt q2] (.Tuple [.Constant .none j1 q3, .Constant .none j2 q4] kt2 q5) (envOfC qualg sg z g cdv) = pure none) ∧
    ∀ c, n ≤ c → c < m → PySem.W.exmOne K (.ref (cl c)) (.ref CA) = some true
section
variable {X : Cx} {T : Tab} {F : Fr}
theorem pd_heardF {g cM tP : Addr} {k n m : Nat} {params : Arguments} {body : Expr} {scope : Scope} {te : WD → RE} {p lpos pos : Pos}
    (HF : HeardF X.K X.mg T.cl n m g) (TB : LamX.TabB X.base X.mg cM tP) (hcode : X.env.code = .ref cM) (hmT : (tP, X.env.qual ++ "<lambda>") ∈ T.tb) (hu : ∀ t ∈ T.tb, t.1 = tP → t.2 = X.env.qual ++ "<lambda>") (L : LamX.LamS X.env.scope scope) (hdef : defaultsOf params X.env = ([], []))
    (hbind : ∀ (q : Str) (cl : List (Str × Addr)) (pm cv ctv : Value), bindArgs (PySem.W.kla_fn "<lambda>" q params body scope cl pm cv ctv) ⟨[], []⟩ = pure [])
    (hr : RoomG (k + 2) X.A) (hm : X.mg "_law_heard_of" = some (.ref g))
    (hbody : ∀ (A : Around) (outer : List Env) (s : Shared) (H : Hp) (E : XK) (f c' : Addr) (F2 : Fr) (W : WD), RoomG k (A.deeper (LamX.lamEnv X scope s.heap.objs.size f c')) → PassD (lamN X A outer s H E scope f c') T F2 W → PD (lamN X A outer s H E scope f c') T F2 body (te W))
    (hg : Gl X "_law_heard_of" := by rfl) :
    PD X T F (.Call (.Name "_law_heard_of" p) [.Lambda params body scope lpos] [] pos) (tHeard n m te) := by
  obtain ⟨qualg, kt, kt2, kt3, j1, j2, q0, q1, q2, q3, q4, q5, q6, q7, q8, q9, q10, q11, q12, q13, q14, q15, q16, q17, q18, q19, q20, pg, sg, CA, fd, D, hb, Sg, lc, lb, ll, le, lCF, mCF, hw, hex⟩ := HF.ex
  exact pd_heard D hb Sg lc lb ll le lCF mCF hw TB hcode hmT hu L hdef hbind hex hr hm hbody hg
end
end Fx
end
section
set_option Elab.async false
set_option linter.all false
set_option maxRecDepth 100000
set_option maxHeartbeats 2000000
/-! Fx31: != of two tuples of own instances that are equal one by one -/
namespace GQ
open PySem PySem.SeqAt
open AutoSeq1 (wpAny_loadPart')
open MeetsSeq MeetsSeq2 MeetsSeq3 SeqRoads2
section
variable {prog : Program} {w : World} {A : Around} {R : Result → Shared → Prop}
theorem tuple_neG (l b : Addr) (items items2 : Array Value) (n n2 : Nat) (dd dd2 : Option Addr) (sl sl2 : Array (Option Value)) (hsz : items.size = items2.size) (I : Nat → Shared → Prop)
    (turn : ∀ i (h1 : i < items.size) (h2 : i < items2.size) s, I i s → wpAny (model prog w) A.in1 (eqBool items[i] items2[i]) (fun r s' => r = true ∧ I (i + 1) s') (fun e s' => R (.error e) s') s)
    (fin : ∀ s, I items.size s → R (.ok (.ret (.bool false))) s) {s : Shared} (hl1 : s.heap.get? l = some { cls := .type "tuple", dict := dd, data := .seq items n, slots := sl }) (hb1 : s.heap.get? b = some { cls := .type "tuple", dict := dd2, data := .seq items2 n2, slots := sl2 }) (h : I 0 s) :
    wpAny (model prog w) A.in1 (Builtin.«tuple.__ne__» ⟨[.ref l, .ref b], []⟩) (FinOf prog w A R) (fun e s' => R (.error e) s') s := by
  have f2 := AutoSeq1.sub_tuple_tuple
  have hZ : (items.toList.zip items2.toList).length = items.size := by simp [hsz]
  have h0 := h
  obtain ⟨hp, g, d, tk, os⟩ := s
  wp_walk using wpAny_loadPart' hl1, wpAny_loadPart' hb1, wpAny_forIn_list _ (fun rest b s' => b.1 = none ∧ ∃ i, rest = (items.toList.zip items2.toList).drop i ∧ i ≤ items.size ∧ I i s') _
  case turn =>
    rintro ⟨y, x⟩ rest b s' ⟨hb', i, hz, hi, hI⟩
    have hlt : i < (items.toList.zip items2.toList).length := by
      rcases Nat.lt_or_ge i (items.toList.zip items2.toList).length with h' | h'
      · exact h'
      · rw [List.drop_of_length_le h'] at hz; cases hz
    have h1 : i < items.size := hZ ▸ hlt
    have h2 : i < items2.size := hsz ▸ h1
    rw [List.drop_eq_getElem_cons hlt] at hz
    injection hz with hyx hrest
    have hy : y = items[i] := by have := congrArg Prod.fst hyx; simpa using this
    have hx : x = items2[i] := by have := congrArg Prod.snd hyx; simpa using this
    subst hy hx
    refine wpAny_bind (wpAny_mono (turn i h1 h2 s' hI) (fun r s2 q2 => ?_) fun _ _ x => x)
    obtain ⟨hr, q2⟩ := q2
    subst hr
    wp_walk
    exact ⟨rfl, i + 1, hrest, h1, q2⟩
  case fin =>
    rintro ⟨b1, b2⟩ s' ⟨hb', i, hz, hi, hI⟩
    simp only at hb'
    subst hb'
    have hge : items.size ≤ i := by
      rcases Nat.lt_or_ge i (items.toList.zip items2.toList).length with h' | h'
      · rw [List.drop_eq_getElem_cons h'] at hz; cases hz
      · exact hZ ▸ h'
    have hi' : i = items.size := by omega
    have hR : R (.ok (.ret (.bool false))) s' := fin s' (hi' ▸ hI)
    wp_walk
    simpa [Builtin.Tuple.tupleCompareSizes, hsz] using hR
  case h =>
    exact ⟨rfl, 0, rfl, Nat.zero_le _, h0⟩
end
section
variable {prog : Program} {w : World} {A : Around} {E : Value → Shared → Prop} {s : Shared}
theorem rc_tupNeG {l b : Addr} {items items2 : Array Value} {Q : Value → Shared → Prop} (hsz : items.size = items2.size) (hu : A.units < cLine) (I : Nat → Shared → Prop)
    (hl : s.heap.IsTuple l items) (hb : s.heap.IsTuple b items2)
    (turn : ∀ i (h1 : i < items.size) (h2 : i < items2.size) s, I i s → wpAny (model prog w) A.in1 (eqBool items[i] items2[i]) (fun r s' => r = true ∧ I (i + 1) s') E s)
    (fin : ∀ s, I items.size s → Q (.bool false) s) (h : I 0 s) : wpAny (model prog w) A (richCompare .NotEq (.ref l) (.ref b)) Q E s := by
  obtain ⟨⟨cls, dd, data, sl⟩, ho, hc, n, hd⟩ := id hl
  obtain ⟨⟨cls2, dd2, data2, sl2⟩, ho2, hc2, n2, hd2⟩ := id hb
  simp only at hc hd hc2 hd2
  subst hc hd hc2 hd2
  refine wpAny_richCompare_same_room (op := .NotEq) ⟨_, ho, rfl⟩ ⟨_, ho2, rfl⟩ F.slot_tuple_ne (call_here F.slot_tuple_ne ⟨_, ho, rfl⟩ F.entry_tuple_ne (F.args_tuple_ne_2 _ _) ?_) hu
  exact tuple_neG (R := wants (fun v s' => v ≠ .notImplemented ∧ Q v s') E) l b items items2 n n2 dd dd2 sl sl2 hsz I turn (fun s' q => ⟨(fun x => nomatch x), fin s' q⟩) ho ho2 h
end
end GQ
namespace Fx
open PySem PySem.Spec PyProof.Rows L2
section
variable {X : Cx} {T : Tab} {F : Fr} {B H : Hp} {σ : L2.St} {G : Lo}
/-- one pair -/
def PairT (c : Nat) (Sq : Spec) (d e : D) : Prop := ∃ fs gs, d = .slt c fs ∧ e = .slt c gs ∧ Sq [.imm d, .imm e] (fun r _ => r = .imm (.bl true)) (fun _ _ _ => False)
/-- the pairs of two rows are equal -/
@[simp ↓] def prT (c : Nat) (Sq : Spec) : List D → List D → Prop
  | [], [] => True
  | .slt c1 fs :: ds, .slt c2 gs :: es => c1 = c ∧ c2 = c ∧ Sq [.imm (.slt c1 fs), .imm (.slt c2 gs)] (fun r _ => r = .imm (.bl true)) (fun _ _ _ => False) ∧ prT c Sq ds es
  | _, _ => False
theorem prT_at {c : Nat} {Sq : Spec} : ∀ {ds es : List D}, prT c Sq ds es → ds.length = es.length ∧ ∀ (i : Nat) (d e : D), ds[i]? = some d → es[i]? = some e → PairT c Sq d e
  | [], [], _ => ⟨rfl, fun i d e h => by simp at h⟩
  | .slt c1 fs :: ds, .slt c2 gs :: es, h => by
    unfold prT at h
    obtain ⟨rfl, rfl, q, t⟩ := h
    obtain ⟨l, r⟩ := prT_at t
    refine ⟨by simp [l], fun i d e h1 h2 => ?_⟩
    cases i with
    | zero =>
      simp at h1 h2
      subst h1 h2
      exact ⟨fs, gs, rfl, rfl, q⟩
    | succ i => exact r i d e (by simpa using h1) (by simpa using h2)
def rNeTO (T : Tab) (c : Nat) (Sq : Spec) : R2 := fun x y H Q => ∃ (F : Fr) (B : Hp) (σ : L2.St) (G : Lo) (ds es : List D), Sta T F B H σ G ∧ Is T B x (.tup ds) ∧ Is T B y (.tup es) ∧ prT c Sq ds es ∧ ∀ B' H', Sta T F B' H' σ G → Kp B H σ G B' H' G → Q (.bl false) H'
theorem pair_eq {nS c : Nat} {Sq : Spec} (hK : X.K = T.K) (he : EqCls X T nS c Sq) {pins : List (Addr × Obj)} {s : Shared} {σ' : L2.St} {x y : V} {u v : Value} {d e : D} (S : Sta T F B H σ G) (I : Inv X pins σ' H s) (ix : Is T B x d) (iy : Is T B y e) (rx : RelV x u) (ry : RelV y v) (p : PairT c Sq d e) :
    wpAny (model X.prog X.w) X.A.in1 (eqBool u v) (fun r s' => r = true ∧ ∃ B' H', Inv X pins σ' H' s' ∧ Sta T F B' H' σ G ∧ Kp B H σ G B' H' G) X.xe s := by
  obtain ⟨fs, gs, rfl, rfl, q⟩ := p
  obtain ⟨g, k, e1, e2, Fn, hr⟩ := he.eq
  obtain ⟨t, et⟩ := hasTy_some (T := T) (nS := nS) (d := .slt c gs) (decide_eq_true he.lo)
  have lk := see_looks hK S I he.cl (See.of S.bh iy) ry et
  obtain ⟨a, dx, vs, rfl, hs, l⟩ := slt_of (d := .non) S (show See T B H x (.slt c fs) from ix)
  obtain ⟨b, dx2, vs2, rfl, hs2, l2⟩ := slt_of (d := .non) S (show See T B H y (.slt c gs) from iy)
  obtain rfl : u = Value.ref a := rx
  obtain rfl : v = Value.ref b := ry
  obtain ⟨sl, od, _, J, _⟩ := SlX.slt_inst I hs
  obtain ⟨m, hF⟩ := I.fr
  rw [← hK] at e1 e2
  have hn := he.nt _ t et
  rw [← hK] at hn
  by_cases hab : a = b
  · subst hab
    exact SeqAt.EqAt.same (A := X.A.in1) (s := s) (.ref a) X.prog X.w X.xe _ ⟨rfl, B, H, I, S, Kp.refl⟩
  have go : wpAny (model X.prog X.w) X.A.in1 (richCompare .Eq (.ref a) (.ref b)) (fun w s' => w = .bool true ∧ ∃ B' H', Inv X pins σ' H' s' ∧ Sta T F B' H' σ G ∧ Kp B H σ G B' H' G) X.xe s := by
    refine PySem.W.cmp_K (op := .Eq) (tb := t) hr.in1.rm.units0 hF I.ok.mod.kin J lk hn e1 e2 ?_
    have sp : spOf T Sq [.ref a, .ref b] H (Post T F B H σ G fun o G' => o = .imm (.bl true) ∧ G' = G) (fun _ _ _ => False) :=
      ⟨B, _, [], _, _, S.bh, S.tb, .imm ix (.imm iy .nil), List.nodup_nil, q, fun v B' H' outs o r hr2 k2 => Post.called (is := []) (A1 := []) S trivial List.nodup_nil r hr2 (by unfold putB; exact ⟨k2, rfl⟩), fun c d dv B' H' outs r hx k => k⟩
    refine wpAny_mono (call_G Fn hr.in1 I.env0.in1 I (us := [.ref a, .ref b]) (ws := [.ref a, .ref b]) (.cons rfl (.cons rfl .nil)) sp) (fun w s' z => ?_) fun _ _ x => x
    obtain ⟨z', H', I', rz, B', o, G', S', k', ok, nw, rfl, rfl⟩ := z
    cases ok
    cases (show w = Value.bool true from rz)
    exact SlX.cmpback rz ⟨rfl, B', H', I', S', k'⟩
  refine GQ.eqBool_refG hab (wpAny_mono go (fun r s' q => ?_) fun _ _ x => x)
  obtain ⟨hr', q⟩ := q
  exact ⟨true, hr', rfl, q⟩
theorem op_neTO {nS c : Nat} {Sq : Spec} (hK : X.K = T.K) (he : EqCls X T nS c Sq) : OpR X (compareOp .NotEq) (rNeTO T c Sq) := by
  intro pins s σ0 H x y v u Q I rx ry h
  obtain ⟨F, B, σ, G, ds, es, S, ix, iy, pr, q⟩ := h
  obtain ⟨len, pr⟩ := prT_at pr
  obtain ⟨g, k, e1, e2, Fn, hr⟩ := he.eq
  cases ix with
  | tup ha la =>
    cases iy with
    | tup hb lb =>
      rename_i a vs b ws
      cases rx
      cases ry
      obtain ⟨its, r, e, z⟩ := I.tuple (SqT.of (S.bh _ _ ha))
      obtain ⟨its2, r2, e2', z2⟩ := I.tuple (SqT.of (S.bh _ _ hb))
      have hsz : its.toArray.size = its2.toArray.size := by
        rw [List.size_toArray, List.size_toArray, ← r.length, ← r2.length, la.length, lb.length]
        exact len
      show wpAny (model X.prog X.w) X.A (richCompare .NotEq (.ref a) (.ref b)) _ _ s
      refine GQ.rc_tupNeG hsz hr.rm.units0 (fun _ s' => ∃ B' H', Inv X pins σ0 H' s' ∧ Sta T F B' H' σ G ∧ Kp B H σ G B' H' G) e e2' (fun i h1 h2 s' w => ?_) (fun s' w => ?_) ⟨B, H, I, S, Kp.refl⟩
      · obtain ⟨B1, H1, I1, S1, k1⟩ := w
        have i1 : i < its.length := by simpa using h1
        have i2 : i < its2.length := by simpa using h2
        have j1 : i < ds.length := by rw [← la.length, r.length]; exact i1
        have j2 : i < es.length := by rw [← len]; exact j1
        obtain ⟨x1, g1, g2⟩ := la.get (i := i) (List.getElem?_eq_getElem j1)
        obtain ⟨y1, g3, g4⟩ := lb.get (i := i) (List.getElem?_eq_getElem j2)
        obtain ⟨u1, f1, f2⟩ := r.get (i := i) g1
        obtain ⟨u2, f3, f4⟩ := r2.get (i := i) g3
        rw [List.getElem?_eq_getElem i1] at f1
        rw [List.getElem?_eq_getElem i2] at f3
        have e1 : its.toArray[i] = u1 := by simpa using f1
        have e2 : its2.toArray[i] = u2 := by simpa using f3
        rw [e1, e2]
        refine wpAny_mono (pair_eq hK he S1 I1 (g2.mono k1.b) (g4.mono k1.b) f2 f4 (pr i _ _ (List.getElem?_eq_getElem j1) (List.getElem?_eq_getElem j2))) (fun r s2 q2 => ?_) fun _ _ x => x
        obtain ⟨hr2, B2, H2, I2, S2, k2⟩ := q2
        exact ⟨hr2, B2, H2, I2, S2, k1.trans k2⟩
      · obtain ⟨B1, H1, I1, S1, k1⟩ := w
        exact ⟨.bl false, H1, I1, rfl, q B1 H1 S1 k1⟩
@[simp ↓] def gNeTO (c : Nat) (Sq : Spec) : G2 := fun G o p K => match o, p with
  | .imm (.tup ds), .imm (.tup es) => prT c Sq ds es ∧ K (.imm (.bl false)) G
  | _, _ => False
theorem opd_neTO {nS c : Nat} {Sq : Spec} (hr : X.K = T.K → EqCls X T nS c Sq) : OpD X T F (compareOp .NotEq) (gNeTO c Sq) := by
  intro hK hc
  refine ⟨_, op_neTO hK (hr hK), fun B H σ G x y o p K Q S hx hy h k => ?_⟩
  unfold gNeTO at h
  split at h
  · rename_i ds es
    obtain ⟨pr, h⟩ := h
    exact ⟨F, B, σ, G, ds, es, S, hx, hy, pr, fun B' H' S' k' => k _ _ (Post.more k' (Post.imm S' (.bl _) h))⟩
  · exact h.elim
end
end Fx
end
section
set_option Elab.async false
set_option linter.all false
set_option maxRecDepth 100000
set_option maxHeartbeats 2000000
/-! Fx32: xs[::-1], xs[:0:-1] of lists -/
namespace Fx
open PySem PySem.Spec PyProof.Rows L2
theorem rev0_range : ∀ m : Nat, (List.range m).map (fun k => m - k) = ((List.range m).map (1 + ·)).reverse
  | 0 => rfl
  | m + 1 => by
    have ih := rev0_range m
    rw [List.range_succ, List.map_append, List.map_append, List.reverse_append]
    have e : (List.range (m + 1)).map (fun k => m + 1 - k) = (m + 1) :: (List.range m).map (fun k => m - k) := by
      rw [List.range_succ_eq_map, List.map_cons, List.map_map]
      refine congrArg _ (List.map_congr_left fun k hk => ?_)
      show m + 1 - (k + 1) = m - k
      omega
    rw [List.range_succ, List.map_append] at e
    rw [e, ih]
    simp [Nat.add_comm]
theorem rev0_bounds (n : Nat) : sliceBounds none (some 0) (some (-1)) (n + 1) = (((n : Nat) : Int), 0, -1) := by
  unfold sliceBounds
  simp
  omega
theorem rev0_sliceRange (n : Nat) : PySem.sliceRange (n : Int) 0 (-1) = (List.range n).map fun k => n - k := by
  unfold PySem.sliceRange
  have h1 : ¬ ((-1 : Int) > 0) := by decide
  by_cases h : (n : Int) > 0
  · have e : ((n : Int) - 0 - -1 - 1) / (- -1) = (n : Int) := by
      rw [show (- -1 : Int) = 1 by decide, Int.ediv_one]
      omega
    simp only [h1, if_false, h, if_true, e, Int.toNat_natCast]
    apply List.map_congr_left
    intro k hk
    have := List.mem_range.mp hk
    omega
  · have e : n = 0 := by omega
    subst e
    simp
theorem rev0_pick (items : Array Value) : slicePick items none (some 0) (some (-1)) = (items.toList.drop 1).reverse.toArray := by
  unfold slicePick
  cases hn : items.size with
  | zero =>
    have : items.toList = [] := by
      apply List.eq_nil_of_length_eq_zero
      rw [Array.length_toList]
      exact hn
    rw [this]
    rfl
  | succ n =>
    rw [rev0_bounds]
    show ((PySem.sliceRange (n : Int) 0 (-1)).filterMap (items[·]?)).toArray = _
    rw [rev0_sliceRange, rev0_range, List.filterMap_reverse, pick_run, List.take_of_length_le (by rw [List.length_drop, Array.length_toList]; omega)]
section
variable {X : Cx} {T : Tab} {F : Fr} {a b c e : Expr} {es : List Expr} {pos : Pos} {ta tb tc te : RE}
variable {B B' H H' : Hp} {σ : L2.St} {G G' : Lo} {v : V} {o : Opd} {W : WD}
def tRevL0 (K : PySem.W.Frag) (te : TE) : TE := fun σ H Q => te σ H fun x H1 => ∃ a xs, x = .ref a ∧ SqL K H1 a xs ∧ ∀ p, H1 p = none → Q (.ref p) (upd H1 p (.lst (xs.drop 1).reverse))
theorem pe_revL0 {e : Expr} {te : TE} {k k0 : Nat} {p0 p1 p2 p3 pos : Pos} (he : PE X e te) : PE X (.Subscript e (.Slice none (some (.Constant (.int 0) k0 p0)) (some (.UnaryOp .USub (.Constant (.int 1) k p1) p2)) p3) pos) (tRevL0 X.K te) := by
  refine ⟨fun pins s σ H Q I h => ?_⟩
  refine Subscript_ (thn (he.run pins s σ H _ I h) fun v s1 ⟨x, H1, I1, r1, q1⟩ => ?_)
  obtain ⟨a, xs, ex, hx, q⟩ := q1
  subst ex
  cases r1
  have hst : PO X (some (.UnaryOp .USub (.Constant (.int 1) k p1) p2)) (tPart (tUn (rU fun i => .int (-i)) (L2.tC (.int 1)))) := po_some (pe_un un_neg pe_int)
  have hup : PO X (some (.Constant (.int 0) k0 p0)) (tPart (L2.tC (.int 0))) := po_some pe_int
  refine wpAny_Slice (thn (po_none.run pins s1 σ H1 (fun o H2 => o = none ∧ H2 = H1) I1 ⟨rfl, rfl⟩) fun vl s2 ⟨l, H2, I2, pl, el, e2⟩ => ?_)
  subst el e2
  refine thn (hup.run pins s2 σ H2 (fun o H3 => o = some 0 ∧ H3 = H2) I2 ⟨0, rfl, rfl, rfl⟩) fun vu s3 ⟨u, H3, I3, pu, eu, e3⟩ => ?_
  subst eu e3
  refine thn (hst.run pins s3 σ H3 (fun o H4 => o = some (-1) ∧ H4 = H3) I3 ⟨1, rfl, -1, rfl, rfl, rfl⟩) fun vs s4 ⟨o, H4, I4, ps, eo, e4⟩ => ?_
  subst eo e4
  have I5 : Inv X pins σ H4 { s4 with heap := s4.heap.push { cls := .type "slice", data := .fields #[vl, vu, vs] } } := I4.kept (t' := s4.toks) fun b ob q => Heap.get?_push_of_some _ q
  obtain ⟨its, r, ht, hz⟩ := I5.list hx
  have hlen := r.length
  show wpAny (model X.prog X.w) X.A (subscriptTail e (.Slice none (some (.Constant (.int 0) k0 p0)) (some (.UnaryOp .USub (.Constant (.int 1) k p1) p2)) p3) (.ref a) (.ref s4.heap.objs.size)) (EP X pins σ Q) X.xe { s4 with heap := s4.heap.push { cls := .type "slice", data := .fields #[vl, vu, vs] } }
  refine tail_any (ops := [.ref a, .ref s4.heap.objs.size]) ht.isList.typeIs (PySem.slot_list_getitem.lookup) ?_ (by with_unfolding_all rfl)
  refine wpAny_getItem_list_slice ht.isList (Heap.IsSliceOf.new _ vl vu vs) pl pu ps (by decide) ?_ (by rw [List.size_toArray]; omega)
  rw [rev0_pick]
  refine ⟨.ref _, _, I5.laid (t' := s4.toks) (o := .lst (xs.drop 1).reverse) (fun b ob q => Heap.get?_push_of_some _ q) (Nat.le_refl _) ?_, rfl, q _ (I5.hok.fresh (Nat.le_refl _))⟩
  exact ⟨by rw [List.length_reverse, List.length_drop]; omega, _, 0, (r.drop 1).reverse, Heap.get?_push_size _ rfl⟩
/-- xs[::-1], xs a list -/
@[simp ↓] def tRevN (ta : RE) : RE := fun G K => ta G fun o G1 => match cont G1 o with
  | some (.lst ds) => K (.new (.lst ds.reverse)) G1
  | _ => False
theorem pd_revN {k : Nat} {p1 p2 p3 : Pos} (ha : PD X T F a ta) : PD X T F (.Subscript a (.Slice none none (some (.UnaryOp .USub (.Constant (.int 1) k p1) p2)) p3) pos) (tRevN ta) := by
  refine ⟨fun hK hc B H σ G K S h => tG_of (pe_revL (pe_G X a)) ?_⟩
  refine tG_mono (ha.run hK hc B H σ G _ S h) fun x H1 ⟨B1, o, G1, S1, k1, w1, _, q⟩ => ?_
  dsimp only at q
  split at q
  · rename_i ds e1
    obtain ⟨a', vs, rfl, ha', l⟩ := S1.see w1 e1
    exact ⟨a', vs, rfl, SqL.of ha', fun p hp => Post.more k1 (Post.newL S1 hp l.rev q)⟩
  · exact q.elim
/-- xs[:0:-1], xs a list -/
@[simp ↓] def tRev0 (ta : RE) : RE := fun G K => ta G fun o G1 => match cont G1 o with
  | some (.lst ds) => K (.new (.lst (ds.drop 1).reverse)) G1
  | _ => False
theorem pd_rev0 {k k0 : Nat} {p0 p1 p2 p3 : Pos} (ha : PD X T F a ta) : PD X T F (.Subscript a (.Slice none (some (.Constant (.int 0) k0 p0)) (some (.UnaryOp .USub (.Constant (.int 1) k p1) p2)) p3) pos) (tRev0 ta) := by
  refine ⟨fun hK hc B H σ G K S h => tG_of (pe_revL0 (pe_G X a)) ?_⟩
  refine tG_mono (ha.run hK hc B H σ G _ S h) fun x H1 ⟨B1, o, G1, S1, k1, w1, _, q⟩ => ?_
  dsimp only at q
  split at q
  · rename_i ds e1
    obtain ⟨a', vs, rfl, ha', l⟩ := S1.see w1 e1
    exact ⟨a', vs, rfl, SqL.of ha', fun p hp => Post.more k1 (Post.newL S1 hp (l.drop 1).rev q)⟩
  · exact q.elim
end
end Fx
end
section
set_option Elab.async false
set_option linter.all false
set_option maxRecDepth 100000
set_option maxHeartbeats 2000000
/-! Fx33: o[i] by an own __getitem__ -/
namespace Fx
open PySem PySem.Spec PyProof.Rows L2
section
variable {X : Cx} {T : Tab} {F : Fr} {B H : Hp} {σ : L2.St} {G : Lo}
theorem run_fnI {pins : List (Addr × Obj)} {s : Shared} {k : Nat} {f : Addr} {sp : Sp} {E : XK} {Q : VK} {us : List Value} {vs : List V} (Fn : FnG X.prog X.w X.K X.mg X.base (L2N.CX X.prog X.w) k f sp) (hr : RoomG (k + 1) X.A) (hx : PassesAt (L2N.CX X.prog X.w) X σ E) (I : Inv X pins σ H s) (r : Vals vs us) (h : sp vs H Q E) :
    wpAny (model X.prog X.w) X.A.in1 (call (.ref f) us) (EP X pins σ Q) X.xe s := by
  refine wpAny_call (codeAny_mono (Fn X.A.in1 X.stack s H us vs Q E hr.in1 I.env0.in1 r h) fun r s' hq => ?_)
  cases r with
  | error e => exact hx pins H s e s' I hq
  | ok fl =>
    cases fl with
    | ret u => exact I.after hq
    | next => exact False.elim hq
    | brk => exact False.elim hq
    | cont => exact False.elim hq
theorem pd_itm {a b : Expr} {pos : Pos} {ta tb : RE} {W : WD} {g : Addr} {k : Nat} {Sq : Spec} (c : Nat) (hs : PySem.W.findIn X.K (.ref (T.cl c)) "__getitem__" = some (some (.ref g))) (hfi : PySem.W.fnIn X.K g = true) (hf : PySem.W.isFn X.K (.ref g) = true) (Fn : FnX X T k g Sq) (hr : RoomG (k + 1) X.A) (hp : PassD X T F W)
    (ha : PD X T F a ta) (hb : PD X T F b tb) (hsl : ∀ (x : Addr) (i : Value), subscripted b true (.ref x) i = runValue (.builtin "lifetime.subscript" ⟨[.ref x, i], []⟩) := by intro _ _; with_unfolding_all rfl) : PD X T F (.Subscript a b pos) (tItmD c Sq W ta tb) := by
  refine ⟨fun hK hcm B H σ G K S h pins s I => ?_⟩
  refine Subscript_ (thn (run_fz ha hK hcm S h pins s I) fun u1 s1 ⟨v1, H1, I1, r1, B1, d1, G1, S1, k1, i1, q1⟩ => ?_)
  cases d1 with
  | slt c1 fs =>
    obtain ⟨rfl, q1⟩ := q1
    refine thn (run_fz hb hK hcm S1 q1 pins s1 I1) fun u2 s2 ⟨v2, H2, I2, r2, B2, d2, G2, S2, k2, i2, q2⟩ => ?_
    have i1' := i1.mono k2.b
    obtain ⟨x1, dx, vs, rfl, hsl2, l⟩ := slt_of (d := .non) S2 (show See T B2 H2 v1 (.slt c1 fs) from i1')
    obtain rfl : u1 = Value.ref x1 := r1
    obtain ⟨sl, od, _, J, _⟩ := SlX.slt_inst I2 hsl2
    obtain ⟨m, hF⟩ := I2.fr
    refine PySem.W.sub_K hF I2.ok.mod.kin J hs hfi hf ?_ (hsl x1 u2)
    have q3 : tSpec Sq W G2 [.imm (.slt c1 fs), .imm d2] K := ⟨List.nodup_nil, q2⟩
    refine wpAny_mono (run_fnI Fn hr (hp.at σ) I2 (us := [.ref x1, u2]) (vs := [.ref x1, v2]) (.cons rfl (.cons r2 .nil)) (spec_sp S2 (.imm i1' (.imm i2 .nil)) q3)) (fun w s' z => ?_) fun _ _ x => x
    obtain ⟨z', H', I', rz, qz⟩ := z
    exact ⟨z', H', I', rz, Post.more (k1.trans k2) qz⟩
  | _ => exact q1.elim
end
end Fx
end
section
set_option Elab.async false
set_option linter.all false
set_option maxRecDepth 100000
set_option maxHeartbeats 2000000
/-! Fx34: repr of dicts of plain values -/
namespace Fx
open PySem PySem.Spec PyProof.Rows L2
def kP : Key → PyData
  | .inl i => .int i
  | .inr x => .str x
def vP : V → Option PyData
  | .non => some .none
  | .bl b => some (.bool b)
  | .int i => some (.int i)
  | .str x => some (.str x)
  | _ => none
@[simp ↓] def dP : D → Option PyData
  | .non => some .none
  | .bl b => some (.bool b)
  | .int i => some (.int i)
  | .str x => some (.str x)
  | _ => none
@[simp ↓] def toPyK : List (Key × D) → Option (List (PyData × PyData))
  | [] => some []
  | p :: r => match dP p.2, toPyK r with
    | some x, some l => some ((kP p.1, x) :: l)
    | _, _ => none
@[simp ↓] def isDct : D → Bool
  | .dct _ => true
  | _ => false
@[simp ↓] def toPyX : D → Option PyData
  | .dct es => match toPyK es with
    | some l => some (.dict l)
    | none => none
  | d => toPy d
def RepOk (d : D) (p : PyData) : Prop := toPyX d = some p ∧ p.showable = true ∧ (isDct d || !p.hasDict) = true ∧ p.depth ≤ 60 ∧ p.shown.length ≤ sizeLine
@[simp ↓] def wReprX : D → (Opd → Prop) → Prop := fun d K => ∃ p, RepOk d p ∧ K (.imm (.str p.shown))
inductive DkAll : List (Key × V) → List (PyData × PyData) → Prop
  | nil : DkAll [] []
  | cons {k : Key} {v : V} {d : PyData} {kvs : List (Key × V)} {ps : List (PyData × PyData)} : vP v = some d → DkAll kvs ps → DkAll ((k, v) :: kvs) ((kP k, d) :: ps)
theorem vP_reads {h : Heap} {v : V} {u : Value} {d : PyData} (r : RelV v u) (e : vP v = some d) : Reads h u d [] := by
  cases v with
  | non => cases e; cases r; exact .none
  | bl b => cases e; cases r; exact .bool b
  | int i => cases e; obtain ⟨t, rfl⟩ := r; exact .int i t
  | str x => cases e; obtain ⟨t, rfl⟩ := r; exact .str x t
  | _ => cases e
theorem kP_reads {P : Program} {w : World} {h : Heap} {k : Key} {u : Value} (e : (mixKind P w).is k u = true) : Reads h u (kP k) [] := by
  rcases keyIs_shape e with ⟨i, t, rfl, rfl⟩ | ⟨x, t, rfl, rfl⟩
  · exact .int i t
  · exact .str x t
theorem dk_reads {P : Program} {w : World} {h : Heap} : ∀ {kvs : List (Key × V)} {ps : List (PyData × PyData)} {vs : List (Key × Value)} {es : List DictEntry}, DkAll kvs ps → KV kvs vs → Pairs (mixKind P w) es vs →
    ReadsAll h (es.map (·.key)) (ps.map (·.1)) [] ∧ ReadsAll h (es.map (·.val)) (ps.map (·.2)) []
  | [], [], _, _, _, r, q => by
    cases r
    cases q
    exact ⟨.nil, .nil⟩
  | (k, v) :: kvs, _ :: ps, _, _, .cons hv ht, r, q => by
    cases r with
    | cons r1 r2 =>
      cases q with
      | cons q1 q2 q3 =>
        obtain ⟨a, b⟩ := dk_reads ht r2 q3
        obtain ⟨e1, e2⟩ := r1
        refine ⟨.cons (as := []) (bs := []) ?_ a, .cons (as := []) (bs := []) ?_ b⟩
        · rw [← e1] at q1
          exact kP_reads q1
        · have z := vP_reads (h := h) e2 hv
          rw [← q2] at z
          exact z
section
variable {X : Cx} {T : Tab} {F : Fr} {B H : Hp} {σ : L2.St} {G : Lo}
theorem isK_dk : ∀ {kvs : List (Key × V)} {es : List (Key × D)} {ps : List (PyData × PyData)}, IsK T B kvs es → toPyK es = some ps → DkAll kvs ps
  | _, _, _, .nil, e => by
    cases e
    exact .nil
  | _, _, _, .cons (k := k) (d := d) (ds := ds) h t, e => by
    unfold toPyK at e
    cases e1 : dP d with
    | none =>
      simp only [e1] at e
      cases e
    | some x =>
      cases e2 : toPyK ds with
      | none =>
        simp only [e1, e2] at e
        cases e
      | some l =>
        simp only [e1, e2] at e
        cases e
        refine .cons ?_ (isK_dk t e2)
        cases d with
        | non => cases h; exact e1
        | bl b => cases h; exact e1
        | int b => cases h; exact e1
        | str b => cases h; exact e1
        | _ => cases e1
theorem call_reprX (hr : RoomG 0 X.A) : CallR X (.builtin "repr") (fun xs H Q => ∃ x p, xs = [x] ∧ (Dp X.K H x p ∧ p.hasDict = false ∨ ∃ a kvs ps, x = .ref a ∧ Rd H a (.dK kvs) ∧ DkAll kvs ps ∧ p = .dict ps) ∧ p.showable = true ∧ p.depth ≤ 60 ∧ p.shown.length ≤ sizeLine ∧ Q (.str p.shown) H) := by
  intro pins s σ H xs us Q I r h
  obtain ⟨x, p, rfl, hd, h1, h3, h4, q⟩ := h
  rcases hd with ⟨hd, h2⟩ | ⟨a, kvs, ps, rfl, ha, hk, rfl⟩
  · exact call_reprD hr pins s σ H [x] us Q I r ⟨x, p, rfl, hd, h1, h2, h3, h4, q⟩
  · obtain ⟨u, rfl, ru⟩ := r.one
    obtain rfl : u = Value.ref a := ru
    have hu := hr.rm.units
    obtain ⟨z, hm, vs, rel, o, es, ep, e, ed, dat, _, pr, _⟩ := (show ObjOk X.prog X.w H s.heap a (.dK kvs) from ha.ok I.hok)
    obtain ⟨ra, rb⟩ := dk_reads (h := s.heap) hk rel pr
    refine repr_of_reads' (Reads.dict (as := []) (bs := []) e ed.1 dat ra rb) h1 (fun _ z => ?_) hr.gs (by omega) (fun _ _ e => e) (fun h' u tk hk => ⟨.str _, H, I.kept hk, ⟨_, rfl⟩, q⟩) h4
    have z2 : sysModules = a := by simpa using z
    rw [z2] at hm
    simp at hm
theorem cd_reprX (hr : RoomG 0 X.A) : CallD X T F (.builtin "repr") (g1 wReprX) := by
  intro hK hc
  refine ⟨_, call_reprX hr, fun B H σ G vs os K Q S hos h k => ?_⟩
  unfold g1 at h
  split at h
  · rename_i o
    cases hos with
    | cons h1 t =>
      cases t
      split at h
      · rename_i d ed
        obtain ⟨p, ⟨ep, p1, p2, p3, p4⟩, q⟩ := h
        refine ⟨_, p, rfl, ?_, p1, p3, p4, k _ _ (Post.imm S (.str _) q)⟩
        rw [hK]
        have see := S.see h1 ed
        have plain : (∀ es, d ≠ .dct es) → Dp T.K H _ p ∧ p.hasDict = false := fun hn => by
          have e2 : toPy d = some p := by
            cases d with
            | dct es => exact absurd rfl (hn es)
            | _ => exact ep
          refine ⟨See.dp S.bh see e2, ?_⟩
          cases d with
          | dct es => exact absurd rfl (hn es)
          | _ => simpa using p2
        cases d with
        | dct es =>
          right
          obtain ⟨a, kvs, rfl, ha, l⟩ := see
          have ep2 : (match toPyK es with | some l => some (PyData.dict l) | none => none) = some p := ep
          cases e2 : toPyK es with
          | none =>
            rw [e2] at ep2
            cases ep2
          | some ps =>
            rw [e2] at ep2
            cases ep2
            exact ⟨a, kvs, ps, rfl, ha, isK_dk l e2, rfl⟩
        | _ => exact .inl (plain fun es z => nomatch z)
      · exact h.elim
  · exact h.elim
end
end Fx
end
section
set_option Elab.async false
set_option linter.all false
set_option maxRecDepth 100000
set_option maxHeartbeats 2000000
/-! Fx35: [.., a + "x", t.replace(..), ..]: behind the text a token is out -/
namespace Fx
open PySem PySem.Spec PyProof.Rows L2
section
variable {X : Cx} {T : Tab} {F : Fr} {a b c e e2 : Expr} {es : List Expr} {pos : Pos} {ta tb tc te t2 : RE}
variable {B B' H H' : Hp} {σ : L2.St} {G G' : Lo} {v : V} {o : Opd} {W : WD}
theorem pdk_bin {op : Operator} {g : G2} {y : Str} {j : Nat} {c0 : Pos} (ho : OpD X T F (binaryOp op) g) (ha : PD X T F a ta) : PDk X T F (.BinOp a op (.Constant (.str y) j c0) pos) (tBin g ta (Fx.tC (.str y))) := by
  refine ⟨fun hK hc B H σ G K S h pins s I => ?_⟩
  obtain ⟨r, hr, q⟩ := ho hK hc
  refine wpAny_BinOp (thn (ha.run hK hc B H σ G _ S h pins s I) fun v s1 ⟨x, H1, I1, r1, B1, o, G1, S1, k1, h1, _, z⟩ => ?_)
  refine Calls.Constant_str ?_
  have z2 : g G1 o (.imm (.str y)) K := z
  have h2 := hr pins { s1 with toks := s1.toks + 1 } σ H1 x (.str y) v (.str y s1.toks) (Post T F B H σ G K) (I1.tok _) r1 ⟨_, rfl⟩ (q B1 H1 σ G1 x (.str y) o (.imm (.str y)) K _ S1 h1 (.str y) z2 fun v H' => Post.more k1)
  exact wpAny_mono (PySem.wpAny_toks_of (n := 1) (by show 1 ≤ s1.toks + 1; omega) h2) (fun a s' x => x) (fun _ _ x => x.2)
theorem run_fzk (ha : PDk X T F e te) (hK : X.K = T.K) (hc : X.calm = true) {K : D → Lo → Prop} (S : Sta T F B H σ G) (h : tFz te G K) (pins : List (Addr × Obj)) (s : Shared) (I : Inv X pins σ H s) :
    wpAny (model X.prog X.w) X.A (eval e X.env) (fun v s1 => 1 ≤ s1.toks ∧ EP X pins σ (fun v H' => ∃ B' d G', Sta T F B' H' σ G' ∧ Kp B H σ G B' H' G' ∧ Is T B' v d ∧ K d G') v s1) X.xe s := by
  refine thn (ha.run hK hc B H σ G _ S h pins s I) fun v s1 ⟨h1, x, H1, I1, r1, B1, o, G1, S1, k1, w1, n1, q⟩ => ⟨h1, x, H1, I1, r1, ?_⟩
  dsimp only at q
  cases e1 : frz1 G1 o with
  | none =>
    rw [e1] at q
    exact q.elim
  | some r =>
    rw [e1] at q
    obtain ⟨d, G2⟩ := r
    obtain ⟨B2, S2, k2, i2⟩ := frz_ok k1 S1 w1 n1 e1
    exact ⟨B2, d, G2, S2, k2, i2, q⟩
theorem pdl_k1 {tr : RL} (h2 : PDk X T F e2 t2) (ha : PD1 X T F e te) (hr : PDL X T F es tr) (h0 : starEach (e2 :: e :: es) X.env = (false, eval e2 X.env) :: starEach (e :: es) X.env := by rfl) (hs : starEach (e :: es) X.env = (false, eval e X.env) :: starEach es X.env := by rfl) :
    PDL X T F (e2 :: e :: es) (tLCons t2 (tLCons te tr)) := by
  refine ⟨fun hK hc B H σ G K S h pos pins s I => ?_⟩
  have h' : tFz t2 G fun d2 G0 => tFz te G0 fun d G1 => tr G1 fun ds G2 => K (d2 :: d :: ds) G2 := h
  rw [h0]
  show wpAny _ _ (spliced ((false, eval e2 X.env) :: backTo pos (starEach (e :: es) X.env))) _ _ s
  refine Calls.spliced_cons (thn (run_fzk h2 hK hc S h' pins s I) fun v0 s0 ⟨t0, x0, H0, I0, r0, B0, d0, G0, S0, k0, i0, q0'⟩ => ?_)
  have q0 : tCons (tG1 X e) (tGA X es) σ H0 (fun vs H' => ∃ B' ds G', Sta T F B' H' σ G' ∧ Kp B0 H0 σ G0 B' H' G' ∧ IsL T B' vs ds ∧ K (d0 :: ds) G') := by
    refine tG1_mono (run_fz1 ha hK hc S0 q0') fun v H1 ⟨B1, d, G1, S1, k1, i1, q⟩ => ?_
    refine tGA_mono (hr.run hK hc B1 H1 σ G1 _ S1 q) fun vs H2 ⟨B2, ds, G2, S2, k2, i2, q2⟩ => ?_
    exact ⟨B2, d :: ds, G2, S2, k1.trans k2, .cons (i1.mono k2.b) i2, q2⟩
  refine thn (pat_cons (pet_G X e) (fun pos pins s σ H Q _ I h => h pos pins s I) hs pos pins s0 σ H0 _ t0 I0 q0) fun us s2 ⟨vs, H2, I2, r2, B2, ds, G2, S2, k2, i2, q2⟩ => ?_
  exact ⟨x0 :: vs, H2, I2, .cons r0 r2, B2, d0 :: ds, G2, S2, k0.trans k2, .cons (i0.mono k2.b) i2, q2⟩
end
end Fx
end
section
set_option Elab.async false
set_option linter.all false
set_option maxRecDepth 100000
set_option maxHeartbeats 2000000
/-! Fx36: != of two lists of own instances that are equal one by one -/
namespace GQ
open PySem PySem.SeqAt
open AutoSeq1 (wpAny_loadPart')
open MeetsSeq MeetsSeq2 MeetsSeq3 SeqRoads2
section
variable {prog : Program} {w : World} {A : Around}
theorem ne_loopG (l b : Addr) (items items2 : Array Value) (hsz : items.size = items2.size) (I : Nat → Shared → Prop)
    (look : ∀ i s, I i s → s.heap.IsList l items ∧ s.heap.IsList b items2) (k : Nat) :
    ∀ (i : Nat) (R : Result → Shared → Prop) (A : Around), items.size - i = k →
      (turn : ∀ i (h1 : i < items.size) (h2 : i < items2.size) s, I i s → wpAny (model prog w) A.in1 (eqBool items[i] items2[i]) (fun r s' => r = true ∧ I (i + 1) s') (fun e s' => R (.error e) s') s) →
      (fin : ∀ s, I items.size s → R (.ok (.ret (.bool false))) s) → ∀ s, i ≤ items.size → I i s → wpAny (model prog w) A.in1 (Builtin.«list.__eq__.loop» ⟨[.ref l, .ref b, rawInt i, rawInt 3], []⟩) (FinOf prog w A R) (fun e s' => R (.error e) s') s := by
  induction k with
  | zero =>
    intro i R A hk turn fin s hi h
    obtain ⟨⟨⟨cls, dd, data, sl⟩, ho, hc, n, hd⟩, ⟨⟨cls2, dd2, data2, sl2⟩, ho2, hc2, n2, hd2⟩⟩ := look i s h
    simp only at hc hd hc2 hd2
    subst hc hd hc2 hd2
    have hi0 : i = items.size := by omega
    have hf := fin s (hi0 ▸ h)
    obtain ⟨hp, g, d, tk, os⟩ := s
    wp_walk using wpAny_loadPart' ho, wpAny_loadPart' ho2
    have hi1 : items[((i : Nat) : Int).toNat]? = none := by simp; omega
    have hi2 : items2[((i : Nat) : Int).toNat]? = none := by simp; omega
    rw [hi1, hi2]
    wp_walk using wpAny_loadPart' ho, wpAny_loadPart' ho2
    show R (.ok (.ret (.bool (items.size != items2.size)))) _
    rw [hsz]
    simpa using hf
  | succ k ih =>
    intro i R A hk turn fin s hi h
    obtain ⟨⟨⟨cls, dd, data, sl⟩, ho, hc, n, hd⟩, ⟨⟨cls2, dd2, data2, sl2⟩, ho2, hc2, n2, hd2⟩⟩ := look i s h
    simp only at hc hd hc2 hd2
    subst hc hd hc2 hd2
    have hlt : i < items.size := by omega
    have hlt2 : i < items2.size := by omega
    have t := turn i hlt hlt2 s h
    obtain ⟨hp, g, d, tk, os⟩ := s
    wp_walk using wpAny_loadPart' ho, wpAny_loadPart' ho2
    have hi1 : items[((i : Nat) : Int).toNat]? = some items[i] := by simp [hlt]
    have hi2 : items2[((i : Nat) : Int).toNat]? = some items2[i] := by simp [hlt2]
    have hc : ((i : Int) + 1) = ((i + 1 : Nat) : Int) := by push_cast; rfl
    rw [hi1, hi2]
    refine wpAny_bind (wpAny_mono t (fun r s2 q2 => ?_) fun _ _ x => x)
    obtain ⟨hr, q2⟩ := q2
    subst hr
    wp_walk
    rw [hc]
    exact ⟨plainId_quiet plain_eq_loop _, codeAny_builtin entry_eq_loop (by
      rw [Around.under_plainId plain_eq_loop _]
      exact ih (i + 1) R A (by omega) turn fin s2 hlt q2)⟩
theorem list_neG (l b : Addr) (items items2 : Array Value) (hsz : items.size = items2.size) {R : Result → Shared → Prop} (I : Nat → Shared → Prop)
    (look : ∀ i s, I i s → s.heap.IsList l items ∧ s.heap.IsList b items2)
    (turn : ∀ i (h1 : i < items.size) (h2 : i < items2.size) s, I i s → wpAny (model prog w) A.in1 (eqBool items[i] items2[i]) (fun r s' => r = true ∧ I (i + 1) s') (fun e s' => R (.error e) s') s)
    (fin : ∀ s, I items.size s → R (.ok (.ret (.bool false))) s) {s : Shared} (h : I 0 s) :
    wpAny (model prog w) A.in1 (Builtin.«list.__ne__» ⟨[.ref l, .ref b], []⟩) (FinOf prog w A R) (fun e s' => R (.error e) s') s := by
  obtain ⟨⟨⟨cls, dd, data, sl⟩, ho, hc, n, hd⟩, ⟨⟨cls2, dd2, data2, sl2⟩, ho2, hc2, n2, hd2⟩⟩ := look 0 s h
  simp only at hc hd hc2 hd2
  subst hc hd hc2 hd2
  have f3 := AutoSeq1.sub_list_list
  have hne : ¬ (items.size != items2.size) = true := by simp [hsz]
  have h' := ne_loopG (prog := prog) (w := w) l b items items2 hsz I look items.size 0 R A (by omega) turn fin s (Nat.zero_le _) h
  obtain ⟨hp, g, d, tk, os⟩ := s
  wp_walk using wpAny_loadPart' ho, wpAny_loadPart' ho2
  exact ⟨plainId_quiet plain_eq_loop _, codeAny_builtin entry_eq_loop (by
    rw [Around.under_plainId plain_eq_loop _]
    exact h')⟩
end
section
variable {prog : Program} {w : World} {A : Around} {E : Value → Shared → Prop} {s : Shared}
theorem rc_listNeG {l b : Addr} {items items2 : Array Value} {Q : Value → Shared → Prop} (hsz : items.size = items2.size) (hu : A.units < cLine) (I : Nat → Shared → Prop)
    (look : ∀ i s, I i s → s.heap.IsList l items ∧ s.heap.IsList b items2)
    (turn : ∀ i (h1 : i < items.size) (h2 : i < items2.size) s, I i s → wpAny (model prog w) A.in1 (eqBool items[i] items2[i]) (fun r s' => r = true ∧ I (i + 1) s') E s)
    (fin : ∀ s, I items.size s → Q (.bool false) s) (h : I 0 s) : wpAny (model prog w) A (richCompare .NotEq (.ref l) (.ref b)) Q E s := by
  obtain ⟨⟨⟨cls, dd, data, sl⟩, ho, hc, n, hd⟩, ⟨⟨cls2, dd2, data2, sl2⟩, ho2, hc2, n2, hd2⟩⟩ := look 0 s h
  simp only at hc hd hc2 hd2
  subst hc hd hc2 hd2
  refine wpAny_richCompare_same_room (op := .NotEq) ⟨_, ho, rfl⟩ ⟨_, ho2, rfl⟩ F.slot_list_ne (call_here F.slot_list_ne ⟨_, ho, rfl⟩ F.entry_list_ne (F.args_list_ne_2 _ _) ?_) hu
  exact list_neG (R := wants (fun v s' => v ≠ .notImplemented ∧ Q v s') E) l b items items2 hsz I look turn (fun s' q => ⟨(fun x => nomatch x), fin s' q⟩) h
end
end GQ
namespace Fx
open PySem PySem.Spec PyProof.Rows L2
section
variable {X : Cx} {T : Tab} {F : Fr} {B H : Hp} {σ : L2.St} {G : Lo}
theorem vals_ref : ∀ {vs : List V} {us us' : List Value}, Vals vs us → Vals vs us' → (∀ v ∈ vs, ∃ a, v = .ref a) → us = us'
  | [], _, _, .nil, .nil, _ => rfl
  | v :: vs, _, _, .cons r t, .cons r' t', h => by
    obtain ⟨a, rfl⟩ := h _ (List.mem_cons_self ..)
    rw [vals_ref t t' fun v m => h v (List.mem_cons_of_mem _ m)]
    cases r
    cases r'
    rfl
theorem slts_ref {vs : List V} {ds : List D} (l : IsL T B vs ds) (h : ∀ (i : Nat) (d : D), ds[i]? = some d → ∃ c fs, d = .slt c fs) : ∀ v ∈ vs, ∃ a, v = .ref a := by
  intro v m
  obtain ⟨i, hi, e⟩ := List.getElem_of_mem m
  have j1 : i < ds.length := by rw [← l.length]; exact hi
  obtain ⟨x1, g1, g2⟩ := l.get (i := i) (List.getElem?_eq_getElem j1)
  rw [List.getElem?_eq_getElem hi] at g1
  obtain ⟨c, fs, e2⟩ := h i _ (List.getElem?_eq_getElem j1)
  rw [e2] at g2
  cases g2 with
  | slt => exact ⟨_, by rw [← e]; injection g1⟩
def rNeLO (T : Tab) (c : Nat) (Sq : Spec) : R2 := fun x y H Q => ∃ (F : Fr) (B : Hp) (σ : L2.St) (G : Lo) (ds es : List D), Sta T F B H σ G ∧ Is T B x (.lst ds) ∧ Is T B y (.lst es) ∧ prT c Sq ds es ∧ ∀ B' H', Sta T F B' H' σ G → Kp B H σ G B' H' G → Q (.bl false) H'
theorem op_neLO {nS c : Nat} {Sq : Spec} (hK : X.K = T.K) (he : EqCls X T nS c Sq) : OpR X (compareOp .NotEq) (rNeLO T c Sq) := by
  intro pins s σ0 H x y v u Q I rx ry h
  obtain ⟨F, B, σ, G, ds, es, S, ix, iy, pr, q⟩ := h
  obtain ⟨len, pr⟩ := prT_at pr
  obtain ⟨g, k, e1, e2, Fn, hr⟩ := he.eq
  cases ix with
  | lst ha la =>
    cases iy with
    | lst hb lb =>
      rename_i a vs b ws
      cases rx
      cases ry
      obtain ⟨its, r, e, z⟩ := I.list (SqL.of (S.bh _ _ ha))
      obtain ⟨its2, r2, e2', z2⟩ := I.list (SqL.of (S.bh _ _ hb))
      have hsz : its.toArray.size = its2.toArray.size := by
        rw [List.size_toArray, List.size_toArray, ← r.length, ← r2.length, la.length, lb.length]
        exact len
      show wpAny (model X.prog X.w) X.A (richCompare .NotEq (.ref a) (.ref b)) _ _ s
      refine GQ.rc_listNeG hsz hr.rm.units0 (fun _ s' => s'.heap.IsList a its.toArray ∧ s'.heap.IsList b its2.toArray ∧ ∃ B' H', Inv X pins σ0 H' s' ∧ Sta T F B' H' σ G ∧ Kp B H σ G B' H' G) (fun i s' w => ⟨w.1, w.2.1⟩) (fun i h1 h2 s' w => ?_) (fun s' w => ?_) ⟨e.isList, e2'.isList, B, H, I, S, Kp.refl⟩
      · obtain ⟨w1, w2, B1, H1, I1, S1, k1⟩ := w
        have i1 : i < its.length := by simpa using h1
        have i2 : i < its2.length := by simpa using h2
        have j1 : i < ds.length := by rw [← la.length, r.length]; exact i1
        have j2 : i < es.length := by rw [← len]; exact j1
        obtain ⟨x1, g1, g2⟩ := la.get (i := i) (List.getElem?_eq_getElem j1)
        obtain ⟨y1, g3, g4⟩ := lb.get (i := i) (List.getElem?_eq_getElem j2)
        obtain ⟨u1, f1, f2⟩ := r.get (i := i) g1
        obtain ⟨u2, f3, f4⟩ := r2.get (i := i) g3
        rw [List.getElem?_eq_getElem i1] at f1
        rw [List.getElem?_eq_getElem i2] at f3
        have e1 : its.toArray[i] = u1 := by simpa using f1
        have e2 : its2.toArray[i] = u2 := by simpa using f3
        rw [e1, e2]
        refine wpAny_mono (pair_eq hK he S1 I1 (g2.mono k1.b) (g4.mono k1.b) f2 f4 (pr i _ _ (List.getElem?_eq_getElem j1) (List.getElem?_eq_getElem j2))) (fun r' s2 q2 => ?_) fun _ _ x => x
        obtain ⟨hr2, B2, H2, I2, S2, k2⟩ := q2
        obtain ⟨jts, q1, q3, _⟩ := I2.list (SqL.of (S2.bh _ _ ((k1.trans k2).b _ _ ha)))
        obtain ⟨jts2, q4, q6, _⟩ := I2.list (SqL.of (S2.bh _ _ ((k1.trans k2).b _ _ hb)))
        have f1 := vals_ref r q1 (slts_ref la fun i d h => by
          have hi : i < es.length := by rw [← len]; exact (List.getElem?_eq_some_iff.1 h).1
          obtain ⟨fs, gs, z, _⟩ := pr i d _ h (List.getElem?_eq_getElem hi)
          exact ⟨_, _, z⟩)
        have f2 := vals_ref r2 q4 (slts_ref lb fun i d h => by
          have hi : i < ds.length := by rw [len]; exact (List.getElem?_eq_some_iff.1 h).1
          obtain ⟨fs, gs, _, z, _⟩ := pr i _ d (List.getElem?_eq_getElem hi) h
          exact ⟨_, _, z⟩)
        exact ⟨hr2, f1 ▸ q3.isList, f2 ▸ q6.isList, B2, H2, I2, S2, k1.trans k2⟩
      · obtain ⟨w1, w2, B1, H1, I1, S1, k1⟩ := w
        exact ⟨.bl false, H1, I1, rfl, q B1 H1 S1 k1⟩
@[simp ↓] def gNeLO (c : Nat) (Sq : Spec) : G2 := fun G o p K => match o, p with
  | .imm (.lst ds), .imm (.lst es) => prT c Sq ds es ∧ K (.imm (.bl false)) G
  | _, _ => False
theorem opd_neLO {nS c : Nat} {Sq : Spec} (hr : X.K = T.K → EqCls X T nS c Sq) : OpD X T F (compareOp .NotEq) (gNeLO c Sq) := by
  intro hK hc
  refine ⟨_, op_neLO hK (hr hK), fun B H σ G x y o p K Q S hx hy h k => ?_⟩
  unfold gNeLO at h
  split at h
  · rename_i ds es
    obtain ⟨pr, h⟩ := h
    exact ⟨F, B, σ, G, ds, es, S, hx, hy, pr, fun B' H' S' k' => k _ _ (Post.more k' (Post.imm S' (.bl _) h))⟩
  · exact h.elim
/-- what is told is data from here on -/
@[simp ↓] def tFzE (te : RE) : RE := fun G K => tFz te G fun d G1 => K (.imm d) G1
theorem pd_fzE {e : Expr} {te : RE} (ha : PD X T F e te) : PD X T F e (tFzE te) := by
  refine ⟨fun hK hc B H σ G K S h => ?_⟩
  refine tG_mono (run_fz ha hK hc S h) fun v H1 ⟨B1, d, G1, S1, k1, i1, q⟩ => ?_
  exact Post.more k1 (Post.imm S1 i1 q)
/-- a, b, c = x, y, z, all data -/
@[simp ↓] def sPar3 (i j l : Nat) (t : RL) : RS := fun D G => t G fun ds G1 => match ds with
  | [d1, d2, d3] => match asg G1 i (.imm d1) with
    | some G2 => match asg G2 j (.imm d2) with
      | some G3 => match asg G3 l (.imm d3) with
        | some G4 => D.nx G4
        | none => False
      | none => False
    | none => False
  | _ => False
theorem pds_par3 {x y z : Str} {px py pz pt : Pos} {kt k2 pt2} {a b c : Expr} {tr : RL} (i j l : Nat) (ha : PDL X T F [a, b, c] tr) (hN : X.N.Nodup) (hi : X.N[i]? = some x := by rfl) (hj : X.N[j]? = some y := by rfl) (hl : X.N[l]? = some z := by rfl) (hij : i ≠ j := by decide) (hil : i ≠ l := by decide) (hjl : j ≠ l := by decide)
    (hx : X.env.scope.names.lookup x = some .local := by rfl) (hy : X.env.scope.names.lookup y = some .local := by rfl) (hz : X.env.scope.names.lookup z = some .local := by rfl)
    (hw : swappedStores [.Tuple [.Name x px, .Name y py, .Name z pz] kt pt] (.Tuple [a, b, c] k2 pt2) X.env = pure (some [x, y, z]) := by rfl)
    (hs : swapsWithSole [.Tuple [.Name x px, .Name y py, .Name z pz] kt pt] (.Tuple [a, b, c] k2 pt2) pos.line X.env = pure false := by rfl) : PDS X T F (.Assign [.Tuple [.Name x px, .Name y py, .Name z pz] kt pt] (.Tuple [a, b, c] k2 pt2) pos) (sPar3 i j l tr) := by
  refine ⟨fun hK hc B H σ G D S h pins s I => ?_⟩
  have n1 : i < σ.length := by
    rw [I.len]
    exact (List.getElem?_eq_some_iff.mp hi).1
  have n2 : j < σ.length := by
    rw [I.len]
    exact (List.getElem?_eq_some_iff.mp hj).1
  have n3 : l < σ.length := by
    rw [I.len]
    exact (List.getElem?_eq_some_iff.mp hl).1
  refine tGS_of (ps_par3 hc hN hi hj hl hij hil hjl hx hy hz (pa_G X _) hw hs) ?_ pins s I
  refine tGA_mono (ha.run hK hc B H σ G _ S h) fun vs H1 ⟨B1, ds, G1, S1, k1, i1, q⟩ => ?_
  dsimp only at q
  split at q
  · rename_i d1 d2 d3
    cases i1 with
    | cons w1 i1 =>
      cases i1 with
      | cons w2 i1 =>
        cases i1 with
        | cons w3 i1 =>
          cases i1
          refine ⟨_, _, _, rfl, ?_⟩
          cases e1 : asg G1 i (.imm d1) with
          | none => rw [e1] at q; exact q.elim
          | some G2 =>
            rw [e1] at q
            obtain ⟨B2, S2, b2⟩ := asg_ok S1 n1 (show OpdOk T F B1 H1 σ G1 _ (.imm d1) from w1) e1
            dsimp only at q
            cases e2 : asg G2 j (.imm d2) with
            | none => rw [e2] at q; exact q.elim
            | some G3 =>
              rw [e2] at q
              obtain ⟨B3, S3, b3⟩ := asg_ok S2 (by rw [List.length_set]; exact n2) (show OpdOk T F B2 H1 _ G2 _ (.imm d2) from w2.mono b2) e2
              dsimp only at q
              cases e3 : asg G3 l (.imm d3) with
              | none => rw [e3] at q; exact q.elim
              | some G4 =>
                rw [e3] at q
                obtain ⟨B4, S4, b4⟩ := asg_ok S3 (by rw [List.length_set, List.length_set]; exact n3) (show OpdOk T F B3 H1 _ G3 _ (.imm d3) from w3.mono (b2.trans b3)) e3
                exact ⟨B4, G4, S4, ((k1.b.trans b2).trans b3).trans b4, q⟩
  · exact q.elim
end
end Fx
end
section
set_option Elab.async false
set_option linter.all false
set_option maxRecDepth 100000
set_option maxHeartbeats 2000000
/-! Fx37: try: .. except C: return None -/
namespace Fx
open PySem PySem.Spec PyProof.Rows L2
section
variable {X : Cx} {T : Tab} {F : Fr} {B H : Hp} {σ : L2.St} {G : Lo}
/-- the frame as it stands, what is data at B taken as given -/
def Fr.at (F : Fr) (B : Hp) : Fr := ⟨B, F.H0, F.A0⟩
theorem SlotOk.fr {F F2 : Fr} (h0 : F2.H0 = F.H0) (a0 : F2.A0 = F.A0) {v : Option V} : ∀ {s : Slot}, SlotOk T F B H v s → SlotOk T F2 B H v s
  | .no, _ => trivial
  | .imm _, h => h
  | .own _, h => by
    obtain ⟨p, a, b, c, d⟩ := h
    exact ⟨p, a, b, c, by rw [h0]; exact d⟩
  | .par _ _, h => by
    obtain ⟨p, a, b, c, d⟩ := h
    exact ⟨p, a, b, c, by rw [a0]; exact d⟩
theorem Sta.into (S : Sta T F B H σ G) : Sta T (F.at B) B H σ G :=
  ⟨S.bh, Same.refl _, S.h0, S.a0, fun _ _ h => h, S.len, fun i s e => (S.sl i s e).fr rfl rfl, S.dj, S.al, S.tb⟩
theorem Sta.back {B' H' : Hp} {σ' : L2.St} {G' : Lo} (S : Sta T F B H σ G) (S2 : Sta T (F.at B) B' H' σ' G') : Sta T F B' H' σ' G' ∧ Same B B' :=
  ⟨⟨S2.bh, S.b0.trans S2.b0, S2.h0, S2.a0, fun a h1 h2 => S2.nb a h1 (S.nb a h1 h2), S2.len, fun i s e => (S2.sl i s e).fr rfl rfl, S2.dj, S2.al, S2.tb⟩, S2.b0⟩
theorem OpdOk.fr {F F2 : Fr} (h0 : F2.H0 = F.H0) {v : V} : ∀ {o : Opd}, OpdOk T F B H σ G v o → OpdOk T F2 B H σ G v o
  | .imm _, h => h
  | .own _, h => h
  | .new _, h => by
    obtain ⟨p, a, b, c, d, e⟩ := h
    exact ⟨p, a, b, c, by rw [h0]; exact d, e⟩
/-- try: body except C: return None, C being above all classes from n to m -/
@[simp ↓] def sTryN (n m : Nat) (tb : WD → RS) : RS := fun D G => tb (fun c _ G1 => n ≤ c ∧ c < m ∧ D.rt (.imm .non) G1) D G
theorem pds_tryN {body : List Stmt} {x : Str} {fe : Value} {np pos pos' p1 p2 : Pos} {j} {tb : WD → RS} (n m : Nat) (hc : L2.Names X x fe) (hx : X.K = T.K → ∀ c, n ≤ c → c < m → PySem.W.exmOne T.K (.ref (T.cl c)) fe = some true)
    (hb : ∀ (pn : List (Addr × Obj)) (xe : Value → Shared → Prop) (F : Fr) (W : WD), PassD (X.tr pn xe) T F W → PDB (X.tr pn xe) T F body (tb W))
    (hs : X.stack = X.env :: X.outer := by rfl) (hf : X.env.frame = some X.env.locals := by rfl) :
    PDS X T F (.Try body [.ExceptHandler (some (.Name x np)) none [.Return (some (.Constant .none j p1)) p2] pos'] [] [] pos) (sTryN n m tb) := by
  refine ⟨fun hK hcm B H σ G D S h => ?_⟩
  refine tGS_of (L2N.ps_try_many (X := X) (Wout := fun _ _ _ _ => False) (tb := fun W D σ H => ∀ (pn : List (Addr × Obj)) (xe : Value → Shared → Prop), L2N.Takes (X.tr pn xe) W → tGB (X.tr pn xe) body D σ H) (l := [(fe, fun _ _ _ => L2.tRet (L2.tC .non))]) hs hf (fun _ _ ⟨_, _, _, _, _, _, _, _, _, _, _, _, _, _, _, _, z⟩ => z.elim)
    (fun W pn xe tk _ => ⟨fun pins s σ H D I h => h pn xe tk pins s I⟩)
    (.cons hc (fun a oe cls d pn _ _ => pss_one (ps_ret pe_non)) .nil)) ?_
  intro pn xe tk
  have S2 := S.into
  have hp : PassD (X.tr pn xe) T (F.at B) (fun c _ G1 => n ≤ c ∧ c < m ∧ D.rt (.imm .non) G1) := by
    refine L2N.Takes.imp tk fun cls d σ' H' ⟨B', G', c, dv, e1, e2, S', c1, c2, q⟩ => ?_
    subst e1
    obtain ⟨S3, sm⟩ := S.back S'
    refine ⟨true, by rw [hK]; exact hx hK c c1 c2, fun _ a _ => ?_, fun z => nomatch z⟩
    exact ⟨B', .imm .non, G', σ', S3, sm, Is.non, q⟩
  refine tGB_mono ((hb pn xe (F.at B) _ hp).run hK hcm B H σ G D S2 h) (fun σ' H' ⟨B', G', S', _, q⟩ => ?_) (fun v H' ⟨B', o, G', σ', S', _, w, q⟩ => ?_) (fun σ' H' ⟨B', G', S', _, q⟩ => ?_) (fun σ' H' ⟨B', G', S', _, q⟩ => ?_)
  · obtain ⟨S3, sm⟩ := S.back S'
    exact ⟨B', G', S3, sm, q⟩
  · obtain ⟨S3, sm⟩ := S.back S'
    exact ⟨B', o, G', σ', S3, sm, w.fr rfl, q⟩
  · obtain ⟨S3, sm⟩ := S.back S'
    exact ⟨B', G', S3, sm, q⟩
  · obtain ⟨S3, sm⟩ := S.back S'
    exact ⟨B', G', S3, sm, q⟩
end
end Fx
end
section
set_option Elab.async false
set_option linter.all false
set_option maxRecDepth 100000
set_option maxHeartbeats 2000000
/-! Fx38: a slot of the own object that is being made; str(int) -/
namespace Fx
open PySem PySem.Spec PyProof.Rows L2
section
variable {X : Cx} {T : Tab} {F : Fr} {B H : Hp} {σ : L2.St} {G : Lo}
/-- x.f, x the frame's own object in slot i -/
@[simp ↓] def tSlO (i c j : Nat) : RE := fun G K => match ownW G i with
  | some (.obj c' fs) => c' = c ∧ (match fs[j]? with
    | some (some d) => K (.imm d) G
    | _ => False)
  | _ => False
theorem pd_slO {x f : Str} {xp pos : Pos} {p : Addr} (i c j : Nat) (hc : SlX.SCls X.K (T.cl c)) (h1 : SlX.Slot1 X.K (T.cl c) f p j) (hN : X.N[i]? = some x := by rfl) (hv : Vis X.env.scope x := by first | exact Or.inl rfl | exact Or.inr (Or.inl rfl) | exact Or.inr (Or.inr rfl))
    (hd : (x == ("__debug__" : Str)) = false := by decide) (hcd : (x == ("__classdict__" : Str)) = false := by decide) (hb : attributeBase (.Name x xp) f X.env (eval (.Name x xp) X.env) = eval (.Name x xp) X.env := by rfl) : PD X T F (.Attribute (.Name x xp) f pos) (tSlO i c j) := by
  refine ⟨fun hK hcm B H σ G K S h => tG_of (SlX.pe_sl (pe_var (i := i) hN hv hd hcd) hb) ?_⟩
  unfold tSlO at h
  split at h
  · rename_i c' fs ew
    obtain ⟨rfl, q⟩ := h
    split at q
    · rename_i d ed
      obtain ⟨a, e1, e2, e3, dx, vs, e4, e5, e6⟩ := own_at S ew
      obtain ⟨v, v1, v2⟩ := e6.2 j d ed
      exact ⟨.ref a, e1, a, _, dx, p, vs, j, v, rfl, .inr ⟨e4, S.bh _ _ e5⟩, hc, h1, v1, Post.imm S v2 q⟩
    · exact q.elim
  · exact h.elim
@[simp ↓] def fStrI (d : D) (K : Opd → Prop) : Prop := match d with
  | .int i => i.natAbs.log2 < 1920 ∧ K (.imm (.str (toString i)))
  | _ => False
theorem cd_strI : CallD X T F (.type "str") (g1 fStrI) := by
  refine calld_1 (fun _ _ => call_str_int) fun B H σ G v o d K Q hK S h s _ q k => ?_
  unfold fStrI at q
  split at q
  · cases s
    exact ⟨_, rfl, q.1, k _ _ (Post.imm S (.str _) q.2)⟩
  · exact q.elim
/-- range(a, b) -/
@[simp ↓] def iR2 (tr : RL) : RI := fun G K => tr G fun ds G1 => match ds with
  | [.int i, .int j] => (-(2 ^ 62) ≤ i ∧ i < 2 ^ 62 ∧ -(2 ^ 62) ≤ j ∧ j < 2 ^ 62) ∧ K (rngD i (j - i).toNat) G1
  | _ => False
theorem pdi_range2 {tg a b : Expr} {p pos : Pos} {tr : RL} (hm : X.mg "range" = none) (he : PDL X T F [a, b] tr) (hg : Gl X "range" := by rfl) (hs : starEach [a, b] X.env = [(false, eval a X.env), (false, eval b X.env)] := by rfl) (hs2 : starEach [b] X.env = [(false, eval b X.env)] := by rfl) :
    PDI X T F tg (.Call (.Name "range" p) [a, b] [] pos) (iR2 tr) := by
  refine ⟨fun hK hc B H σ G K S h => tGI_of (pi_range2 hg hm (pa_G X _) hs hs2) (tGA_mono (he.run hK hc B H σ G _ S h) fun vs H1 ⟨B1, ds, G1, S1, k1, i1, q⟩ => ?_)⟩
  dsimp only at q
  split at q
  · rename_i i j
    cases i1 with
    | cons w1 i1 =>
      cases i1 with
      | cons w2 i1 =>
        cases i1
        cases w1
        cases w2
        exact ⟨i, j, rfl, q.1, ⟨B1, _, G1, S1, k1, ito_rng _ _, q.2⟩⟩
  · exact q.elim
end
end Fx
end
section
set_option Elab.async false
set_option linter.all false
set_option maxRecDepth 100000
set_option maxHeartbeats 2000000
/-! Fx39: {.. for k, v in x.f.items()}, x the own object that is being made -/
namespace Fx
open PySem PySem.Spec PyProof.Rows L2
section
variable {X : Cx} {T : Tab} {F : Fr} {B H : Hp} {σ : L2.St} {G : Lo}
theorem kp_un {B' H' : Hp} {G' : Lo} {d : Addr} {od : Obj} {kvs : List (Key × V)} (S : Sta T F B H σ G) (hd : B d = some (.dK kvs)) (k : Kp (upd B d (.frz od (.dK kvs))) (upd H d (.frz od (.dK kvs))) σ G B' H' G') : Kp B H σ G (upd B' d (.dK kvs)) (upd H' d (.dK kvs)) G' := by
  have hd2 := S.bh _ _ hd
  refine ⟨fun a u q => ?_, fun a u q n w => ?_, fun a h1 h2 w => ?_, k.g, fun a h1 => ?_⟩
  · by_cases z : a = d
    · subst z
      rw [hd] at q
      cases q
      exact upd_same
    · rw [upd_ne z]
      exact k.b _ _ (by rw [upd_ne z]; exact q)
  · by_cases z : a = d
    · subst z
      rw [hd2] at q
      cases q
      exact upd_same
    · rw [upd_ne z]
      exact k.h _ _ (by rw [upd_ne z]; exact q) n w
  · have z : a ≠ d := fun z => by rw [z, hd] at h2; cases h2
    rw [upd_ne z]
    exact k.n _ (by rw [upd_ne z]; exact h1) (by rw [upd_ne z]; exact h2) w
  · by_cases z : a = d
    · subst z
      rw [upd_same]
      exact fun z => nomatch z
    · rw [upd_ne z]
      exact k.t _ (by rw [upd_ne z]; exact h1)
theorem post_un {d : Addr} {od : Obj} {kvs : List (Key × V)} {K : Opd → Lo → Prop} (S : Sta T F B H σ G) (hd : B d = some (.dK kvs)) {v : V} {H' : Hp} (h : Post T (lkF F d) (upd B d (.frz od (.dK kvs))) (upd H d (.frz od (.dK kvs))) σ G K v H') : H' d = some (.frz od (.dK kvs)) ∧ Post T F B H σ G K v (upd H' d (.dK kvs)) := by
  obtain ⟨B', o, G', S', k', w, nw, q⟩ := h
  have bd : B' d = some (.frz od (.dK kvs)) := k'.b _ _ upd_same
  refine ⟨S'.bh _ _ bd, upd B' d (.dK kvs), o, G', S.unlock hd S' bd, kp_un S hd k', w.unlock S' bd, fun p x e1 e2 => ?_, q⟩
  have z := nw p x e1 e2
  by_cases y : p = d
  · rw [y, upd_same] at z
    cases z
  · rwa [upd_ne y] at z
@[simp ↓] def tDcIt (ts : RE) (g : RG) (tt : RT) (tk te : RE) (vs : List Nat) : RE := fun G K => ts G fun o G1 => match o with
  | .imm (.dct es) => dcGo g tt tk te vs K (es.map itD) [] G1
  | _ => False
theorem pd_dcIt {x f : Str} {xp pe apos cpos : Pos} {p : Addr} {tg : List Expr} {kk : Nat} {tpos pos : Pos} {kx elt : Expr} {ifs : List Expr} {scope : Scope} {own : List (Str × Nat)} {g : RG} {vg : TG} {is : List Nat} {tt : RT} {tk te : RE} (i c j : Nat) (hc : SlX.SCls X.K (T.cl c)) (h1 : SlX.Slot1 X.K (T.cl c) f p j) (hN : X.N.Nodup) (ok : BlkOk X.N X.env.scope scope own)
    (hg : ∀ F, Blk X scope fun Y => PDC Y T F (.Tuple tg kk tpos) g vg is) (ht : ∀ F, Blk X scope fun Y => PDTs Y T F ifs tt) (hk : ∀ F, Blk X scope fun Y => PD Y T F kx tk) (he : ∀ F, Blk X scope fun Y => PD Y T F elt te)
    (hx : X.N[i]? = some x := by rfl) (hv : Vis X.env.scope x := by first | exact Or.inl rfl | exact Or.inr (Or.inl rfl) | exact Or.inr (Or.inr rfl)) (hdb : (x == ("__debug__" : Str)) = false := by decide) (hcd : (x == ("__classdict__" : Str)) = false := by decide)
    (hb : attributeBase (.Name x xp) f X.env (eval (.Name x xp) X.env) = eval (.Name x xp) X.env := by rfl)
    (hbase : attributeBase (.Attribute (.Name x xp) f pe) "items" X.env (eval (.Attribute (.Name x xp) f pe) X.env) = eval (.Attribute (.Name x xp) f pe) X.env := by rfl) (hline : (apos.endLine == cpos.line) = true := by rfl)
    (hs : ∀ i ∈ is, i ∈ own.map (·.2) := by decide) (hf : ∀ z, foldedSetIterable (.Call (.Attribute (.Attribute (.Name x xp) f pe) "items" apos) [] [] cpos) X.env z = pure z := by intro _; rfl) :
    PD X T F (.DictComp kx elt [⟨.Tuple tg kk tpos, .Call (.Attribute (.Attribute (.Name x xp) f pe) "items" apos) [] [] cpos, ifs, 0⟩] scope pos) (tDcIt (tSlO i c j) g tt tk te (own.map (·.2))) := by
  refine ⟨fun hK hcm B H σ G K S h pins s I => ?_⟩
  have dc := pe_dc (pos := pos) hcm hN (pi_G X (.Tuple tg kk tpos) (.Call (.Attribute (.Attribute (.Name x xp) f pe) "items" apos) [] [] cpos)) ok (fun s H C cl fp => (hg F s H C cl fp).pg) (pts_Bk (es := ifs)) (pe_Bk (e := kx)) (pe_Bk (e := elt)) hf
  have pit := pi_items (X := X) (elts := tg) (kk := kk) (tpos := tpos) (SlX.pe_sl (X := X) (f := f) (pos := pe) (pe_var (X := X) (i := i) (pos := xp) hx hv hdb hcd) hb) hbase hline
  unfold tDcIt tSlO at h
  split at h
  · rename_i c' fs ew
    obtain ⟨rfl, q⟩ := h
    split at q
    · rename_i d0 ed
      split at q
      · rename_i es eo
        cases eo
        obtain ⟨a, e1, e2, e3, dx, vs, e4, e5, e6⟩ := own_at S ew
        obtain ⟨v, v1, v2⟩ := e6.2 j _ ed
        cases v2 with
        | @dct d kvs _ hd lk =>
          rcases hd with hd | ⟨od, hd⟩
          · refine (pe_lock dc).run pins s σ H _ I ⟨d, .dK kvs, S.bh _ _ hd, trivial, fun od => ?_⟩
            have S1 := S.lock (od := od) hd
            have na : a ≠ d := fun z => by
              rw [z, S.bh _ _ hd] at e4
              cases e4
            have nx : dx ≠ d := fun z => by
              rw [z, hd] at e5
              cases e5
            refine run_dc0 (F := lkF F d) (hg _) (ht _) (hk _) (he _) hs s hK hcm I.len S1 (K := K) ?_ fun v H' z => post_un S hd z
            refine tGI_of pit ⟨.ref a, e1, a, _, dx, p, vs, j, .ref d, rfl, .inr ⟨by rw [upd_ne na]; exact e4, by rw [upd_ne nx]; exact S.bh _ _ e5⟩, hc, h1, v1, d, od, kvs, rfl, upd_same, ?_⟩
            exact ⟨_, es.map itD, G, S1, Kp.refl, ito_items upd_same (lk.mvU (mv_lock hd)), q⟩
          · refine dc.run pins s σ H _ I ?_
            refine run_dc0 (F := F) (hg _) (ht _) (hk _) (he _) hs s hK hcm I.len S (K := K) ?_ fun v H' z => z
            refine tGI_of pit ⟨.ref a, e1, a, _, dx, p, vs, j, .ref d, rfl, .inr ⟨e4, S.bh _ _ e5⟩, hc, h1, v1, d, od, kvs, rfl, S.bh _ _ hd, ?_⟩
            exact ⟨_, es.map itD, G, S, Kp.refl, ito_items hd lk, q⟩
      · exact q.elim
    · exact q.elim
  · exact h.elim
end
end Fx
end
section
set_option Elab.async false
set_option linter.all false
set_option maxRecDepth 100000
set_option maxHeartbeats 4000000
/-! Fx40: sorted(xs), xs texts. -/
namespace SrtO
open PySem PyProof.Rows Srt
section
variable {prog : Program} {w : World} {A : Around} {E : Value → Shared → Prop} {s : Shared}
def sv : Value → PySem.Str
  | .str x _ => x
  | _ => PySem.Str.ofString ""
def ltSv (v u : Value) : Bool := decide ((sv v).cps.toList < (sv u).cps.toList)
theorem swo_str : Swo ltSv := by
  refine ⟨fun x y h => ?_, fun x y z h1 h2 => ?_⟩
  · have a := of_decide_eq_true (p := (sv x).cps.toList < (sv y).cps.toList) h
    exact decide_eq_false (p := (sv y).cps.toList < (sv x).cps.toList) (List.lt_asymm a)
  · have a := of_decide_eq_false (p := (sv y).cps.toList < (sv x).cps.toList) h1
    have b := of_decide_eq_false (p := (sv z).cps.toList < (sv y).cps.toList) h2
    exact decide_eq_false (p := (sv z).cps.toList < (sv x).cps.toList) (List.not_lt.mpr (List.le_trans (List.not_lt.mp a) (List.not_lt.mp b)))
theorem strs_mem : ∀ {vs : List Value} {ns : List PySem.Str}, StrsAre vs ns → ∀ v ∈ vs, ∃ i t, v = Value.str i t
  | _, _, .nil, v, h => absurd h (by simp)
  | _, _, .cons n t r, v, h => by
    rcases List.mem_cons.mp h with e | h
    · exact ⟨n, t, e⟩
    · exact strs_mem r v h
theorem strs_sv : ∀ {vs : List Value}, (∀ v ∈ vs, ∃ i t, v = Value.str i t) → StrsAre vs (vs.map sv)
  | [], _ => .nil
  | v :: vs, h => by
    obtain ⟨i, t, e⟩ := h v List.mem_cons_self
    subst e
    exact .cons i t (strs_sv fun u hu => h u (List.mem_cons_of_mem _ hu))
theorem sv_strs : ∀ {vs : List Value} {ns : List PySem.Str}, StrsAre vs ns → vs.map sv = ns
  | _, _, .nil => rfl
  | _, _, .cons n t r => congrArg (n :: ·) (sv_strs r)
theorem str_cmp {vs : List Value} {ns : List PySem.Str} (hI : StrsAre vs ns) : Cmp prog w A s oneType' (fun p => p.1 ∈ vs) (lt2 ltSv) := by
  intro p q hm hm'
  obtain ⟨a, t, e⟩ := strs_mem hI _ hm
  obtain ⟨b, u, e'⟩ := strs_mem hI _ hm'
  show wpAny (model prog w) A (keyLt' oneType' p.1 q.1) (fun r s' => s' = s ∧ r = ltSv p.1 q.1) (fun _ _ => False) s
  rw [e, e', keyLt'_oneType]
  exact oneLt_str ⟨rfl, rfl⟩
theorem strs_sortable {a : Addr} {vs : List Value} {ns : List PySem.Str} (hI : StrsAre vs ns) (h2 : 2 ≤ vs.length) : SortableO prog w A s a vs ltSv := by
  intro h' _
  refine ⟨oneType', fun Q E hq => ?_, str_cmp hI⟩
  match vs, hI, h2 with
  | v1 :: v2 :: rest, hI, _ =>
    rw [keyKind_strs hI]
    exact wpAny_pure hq
  | [], _, h => exact absurd h (by decide)
  | [v], _, h => exact absurd h (by simp)
theorem strs_out {vs out : List Value} {ns : List PySem.Str} (hI : StrsAre vs ns) (hs : Srtd ltSv out) (hb : Stb ltSv out vs) : StrsAre out (out.map sv) ∧ (out.map sv).Perm ns ∧ (out.map sv).Pairwise (fun a b => ¬ b.cps.toList < a.cps.toList) := by
  refine ⟨strs_sv fun v hv => strs_mem hI v (hb.perm.mem_iff.mp hv), ?_, ?_⟩
  · have q := hb.perm.map sv
    rw [sv_strs hI] at q
    exact q
  · exact List.pairwise_map.mpr (hs.imp fun {x y} h => of_decide_eq_false (p := (sv y).cps.toList < (sv x).cps.toList) h)
end
end SrtO
namespace Fx
open PySem PySem.Spec PyProof.Rows L2
def SrtS (ys : List Str) : Prop := ys.Pairwise (fun a b => ¬ b.cps.toList < a.cps.toList)
/-- sorted(xs), texts, any number of them -/
def rSortedS (K : PySem.W.Frag) : List V → Hp → VK → Prop := fun vs H Q => ∃ (a : Addr) (ns : List Str), vs = [V.ref a] ∧ SqL K H a (ns.map V.str) ∧
  ∀ (ns' : List Str) (p : Addr), ns'.Perm ns → SrtS ns' → H p = none → Q (.ref p) (upd H p (.lst (ns'.map V.str)))
section
variable {X : Cx} {T : Tab} {F : Fr}
theorem cr_sortedS : CallR X (.builtin "sorted") (rSortedS X.K) := by
  intro pins s σ H vs us Q I r h
  obtain ⟨a, ns, rfl, hs, q⟩ := h
  obtain ⟨its, rv, hl, hz⟩ := I.list hs
  rw [Vals.ref1 r]
  have hi := rv.strs
  refine SrtO.sorted_ord SrtO.swo_str hl.isList (by rw [← rv.length]; exact hz) (fun h2 h₁ a' _ _ => SrtO.strs_sortable hi h2) fun out h1 h2 => ?_
  obtain ⟨k1, k2, k3⟩ := SrtO.strs_out hi h1 h2
  obtain ⟨ep, he'⟩ := PyProof.Rows.sortedAll_at s.heap its out.toArray
  have hlen : ((out.map SrtO.sv).map V.str).length ≤ sizeLine := by
    rw [List.length_map, k2.length_eq]
    rw [List.length_map] at hz
    exact hz
  exact ⟨.ref _, upd H (s.heap.objs.size + 1) (.lst ((out.map SrtO.sv).map V.str)), I.laid (t' := s.toks) (fun _ _ => PyProof.Rows.sortedAll_old) (Nat.le_succ _) ⟨hlen, out, ep, vals_of_strs k1, he'⟩, rfl, q _ _ k2 k3 (I.hok.fresh (Nat.le_succ _))⟩
/-- sorted(xs) -/
@[simp ↓] def fSort (d : D) (K : Opd → Prop) : Prop := match d with
  | .lst ds => match strsD ds with
    | some xs => ∀ ys : List Str, ys.Perm xs → SrtS ys → K (.new (.lst (ys.map .str)))
    | none => False
  | _ => False
theorem cd_sorted : CallD X T F (.builtin "sorted") (g1 fSort) := by
  refine calld_1 (fun _ _ => cr_sortedS) fun B H σ G v o d K Q hK S h s _ q k => ?_
  unfold fSort at q
  split at q
  · rename_i ds
    obtain ⟨a, vs, rfl, ha, l⟩ := s
    split at q
    · rename_i xs e
      have ev := strsD_ok l e
      subst ev
      exact ⟨a, xs, rfl, SqL.of ha, fun ys p h1 h2 hp => k _ _ (Post.newL S hp (isL_strs ys) (q ys h1 h2))⟩
    · exact q.elim
  · exact q.elim
end
/-- one such list alone -/
theorem srt_unique {xs ys : List Str} (h1 : SrtS xs) (h2 : SrtS ys) (p : xs.Perm ys) : xs = ys := by
  refine p.eq_of_pairwise (fun a b _ _ h1 h2 => ?_) h1 h2
  have := List.le_antisymm (List.not_lt.mp h1) (List.not_lt.mp h2)
  cases a
  cases b
  simp only [Str.mk.injEq]
  exact Array.toList_inj.mp this
end Fx
end
section
set_option Elab.async false
set_option linter.all false
set_option maxRecDepth 100000
set_option maxHeartbeats 4000000
/-! Fx41: x in o by an own __contains__; [*d], d a dict of texts -/
namespace Fx
open PySem PySem.Spec PyProof.Rows L2
section
variable {X : Cx} {T : Tab} {F : Fr} {B H : Hp} {σ : L2.St} {G : Lo}
@[simp ↓] def gInO (c : Nat) (Sq : Spec) : G2 := fun G o p K => match o, p with
  | .imm d, .imm (.slt c' fs) => c' = c ∧ Sq [.imm (.slt c' fs), .imm d] (fun r _ => match r with
    | .imm (.bl b) => K (.imm (.bl b)) G
    | _ => False) (fun _ _ _ => False)
  | _, _ => False
@[simp ↓] def gNotInO (c : Nat) (Sq : Spec) : G2 := fun G o p K => match o, p with
  | .imm d, .imm (.slt c' fs) => c' = c ∧ Sq [.imm (.slt c' fs), .imm d] (fun r _ => match r with
    | .imm (.bl b) => K (.imm (.bl (!b))) G
    | _ => False) (fun _ _ _ => False)
  | _, _ => False
theorem op_inO {C g : Addr} {k : Nat} {sp : Sp} (hs : PySem.W.findIn X.K (.ref C) "__contains__" = some (some (.ref g))) (hf : PySem.W.isFn X.K (.ref g) = true) (Fn : FnG X.prog X.w X.K X.mg X.base (L2N.CX X.prog X.w) k g sp) (hr : RoomG k X.A) :
    OpR X (compareOp .In) (fun x y H Q => ∃ a dx vs, y = .ref a ∧ SlX.Slt H a C dx vs ∧ sp [y, x] H (fun v H' => ∃ b, v = .bl b ∧ Q (.bl b) H') (fun _ _ _ => False)) := by
  intro pins s σ H x y v u Q I rx ry h
  obtain ⟨a, dx, vs, rfl, ha, q⟩ := h
  obtain rfl : u = Value.ref a := ry
  obtain ⟨sl, od, _, J, _⟩ := SlX.slt_inst I ha
  obtain ⟨m, hF⟩ := I.fr
  refine PySem.W.in_K hF I.ok.mod.kin J hs hf ?_
  refine wpAny_mono (call_G Fn hr I.env0 I (us := [.ref a, v]) (ws := [.ref a, x]) (.cons rfl (.cons rx .nil)) q) (fun w s' z => ?_) fun _ _ x => x
  obtain ⟨z', H', I', rz, b, rfl, qz⟩ := z
  obtain rfl : w = Value.bool b := rz
  exact wpAny_truthy_bool ⟨.bl b, H', I', rfl, qz⟩
theorem op_notInO {C g : Addr} {k : Nat} {sp : Sp} (hs : PySem.W.findIn X.K (.ref C) "__contains__" = some (some (.ref g))) (hf : PySem.W.isFn X.K (.ref g) = true) (Fn : FnG X.prog X.w X.K X.mg X.base (L2N.CX X.prog X.w) k g sp) (hr : RoomG k X.A) :
    OpR X (compareOp .NotIn) (fun x y H Q => ∃ a dx vs, y = .ref a ∧ SlX.Slt H a C dx vs ∧ sp [y, x] H (fun v H' => ∃ b, v = .bl b ∧ Q (.bl (!b)) H') (fun _ _ _ => False)) := by
  intro pins s σ H x y v u Q I rx ry h
  obtain ⟨a, dx, vs, rfl, ha, q⟩ := h
  obtain rfl : u = Value.ref a := ry
  obtain ⟨sl, od, _, J, _⟩ := SlX.slt_inst I ha
  obtain ⟨m, hF⟩ := I.fr
  refine PySem.W.notIn_K hF I.ok.mod.kin J hs hf ?_
  refine wpAny_mono (call_G Fn hr I.env0 I (us := [.ref a, v]) (ws := [.ref a, x]) (.cons rfl (.cons rx .nil)) q) (fun w s' z => ?_) fun _ _ x => x
  obtain ⟨z', H', I', rz, b, rfl, qz⟩ := z
  obtain rfl : w = Value.bool b := rz
  exact wpAny_truthy_bool ⟨.bl (!b), H', I', rfl, qz⟩
theorem opd_inO {g : Addr} {k : Nat} {Sq : Spec} (c : Nat) (hs : PySem.W.findIn X.K (.ref (T.cl c)) "__contains__" = some (some (.ref g))) (hf : PySem.W.isFn X.K (.ref g) = true) (Fn : FnX X T k g Sq) (hr : RoomG k X.A) : OpD X T F (compareOp .In) (gInO c Sq) := by
  intro hK hcm
  refine ⟨_, op_inO hs hf Fn hr, fun B H σ G x y o p K Q S hx hy h hq => ?_⟩
  unfold gInO at h
  split at h
  · rename_i d c2 gs
    obtain ⟨rfl, h⟩ := h
    obtain ⟨b, dy, ws, rfl, hsl2, l2⟩ := slt_of (d := .non) S (show See T B H y (.slt c2 gs) from hy)
    refine ⟨b, dy, _, rfl, hsl2, B, _, [], _, _, S.bh, S.tb, .imm hy (.imm hx .nil), List.nodup_nil, h, fun v B' H' outs o r hr2 k2 => ?_, fun c d dv B' H' outs r hx k => k⟩
    split at k2
    · rename_i b'
      cases hr2
      exact ⟨b', rfl, hq _ _ (Post.called (is := []) (A1 := []) (o := .imm (.bl b')) S trivial List.nodup_nil r (.bl _) (by unfold putB; exact k2))⟩
    · exact k2.elim
  · exact h.elim
theorem opd_notInO {g : Addr} {k : Nat} {Sq : Spec} (c : Nat) (hs : PySem.W.findIn X.K (.ref (T.cl c)) "__contains__" = some (some (.ref g))) (hf : PySem.W.isFn X.K (.ref g) = true) (Fn : FnX X T k g Sq) (hr : RoomG k X.A) : OpD X T F (compareOp .NotIn) (gNotInO c Sq) := by
  intro hK hcm
  refine ⟨_, op_notInO hs hf Fn hr, fun B H σ G x y o p K Q S hx hy h hq => ?_⟩
  unfold gNotInO at h
  split at h
  · rename_i d c2 gs
    obtain ⟨rfl, h⟩ := h
    obtain ⟨b, dy, ws, rfl, hsl2, l2⟩ := slt_of (d := .non) S (show See T B H y (.slt c2 gs) from hy)
    refine ⟨b, dy, _, rfl, hsl2, B, _, [], _, _, S.bh, S.tb, .imm hy (.imm hx .nil), List.nodup_nil, h, fun v B' H' outs o r hr2 k2 => ?_, fun c d dv B' H' outs r hx k => k⟩
    split at k2
    · rename_i b'
      cases hr2
      exact ⟨b', rfl, hq _ _ (Post.called (is := []) (A1 := []) (o := .imm (.bl (!b'))) S trivial List.nodup_nil r (.bl _) (by unfold putB; exact k2))⟩
    · exact k2.elim
  · exact h.elim
/-! ### [*d] -/
theorem isK_fst : ∀ {kvs : List (Key × V)} {es : List (Key × D)}, IsK T B kvs es → kvs.map (·.1) = es.map (·.1) := fun h =>
  h.ind (motive := fun kvs es => kvs.map (·.1) = es.map (·.1)) rfl fun k v d vs ds _ _ ih => by rw [List.map_cons, List.map_cons, ih]
theorem star_dct {pins : List (Addr × Obj)} {s : Shared} {a : Addr} {kvs : List (Key × V)} {ks : List Str} {E : Value → Shared → Prop} {Q : List Value → Shared → Prop} (hcalm : X.calm = true) (I : Inv X pins σ H s) (hd : Rd H a (.dK kvs)) (hks : kvs.map (·.1) = ks.map Sum.inr) (h64 : ks.length ≤ 1000)
    (hQ : ∀ us s', Inv X pins σ H s' → Vals (ks.map V.str) us → Q us s') : PySem.W.StarOf (model X.prog X.w) X.A E (.ref a) Q s := by
  obtain ⟨z, lo, vs, rel, dd⟩ := dk_rd I.hok hd
  obtain ⟨ep, hat⟩ := dd.dictAt
  have hkeys : vs.map (·.1) = ks.map Sum.inr := rel.keys.symm.trans hks
  have hl : vs.length = ks.length := by
    have e := congrArg List.length hkeys
    rw [List.length_map, List.length_map] at e
    exact e
  have h16 : vs.length ≤ sizeLine := by rw [hl, sizeLine_eq]; omega
  have z : wpAny (model X.prog X.w) X.A (collect (.ref a)) Q E s := by
    refine PySem.W.kdu_collect (A := X.A) (PySem.W.kdl_dict (knd := mixKind X.prog X.w) (kvs := vs) (ep := ep) lo) (I.ok.hd hcalm) hat h16 fun h' tk acc hk hacc => ?_
    have hal : acc.toList.length = ks.length := by rw [Array.length_toList, hacc.1, hl]
    have hS : StrsAre acc.toList ks := L2.strs_at hal fun j v e => by
      obtain ⟨k, x, e1, e2⟩ := hacc.2 j v (by rw [← Array.getElem?_toList]; exact e)
      have e3 : (vs.map (·.1))[j]? = some k := by rw [List.getElem?_map, e1]; all_goals rfl
      rw [hkeys, List.getElem?_map] at e3
      cases e4 : ks[j]? with
      | none => rw [e4] at e3; cases e3
      | some y =>
        rw [e4] at e3
        have e5 : Sum.inr y = k := Option.some.inj e3
        subst e5
        obtain ⟨t, ev⟩ := Value.isStrOf_shape (x := y) (v := v) e2
        exact ⟨y, t, rfl, ev⟩
    exact hQ _ _ (I.kept hk) (vals_of_strs hS)
  unfold PySem.W.StarOf notIterableAtAll
  obtain ⟨o, es, ho, ex, _⟩ := hat
  have hT : s.TypeIs (.ref a) "dict" := ⟨o, ho, ex.1⟩
  exact wpAny_bind (wpAny_specialOf hT F.slot_dict_iter.lookup (wpAny_pure ⟨rfl, z⟩))
def tStarD (te : TE) (t : TA) : TA := fun σ H Q => te σ H fun x H1 => ∃ (p : Addr) (kvs : List (Key × V)) (ks : List Str), x = V.ref p ∧ Rd H1 p (.dK kvs) ∧ kvs.map (·.1) = ks.map Sum.inr ∧ ks.length ≤ 1000 ∧ t σ H1 fun ys H2 => Q (ks.map V.str ++ ys) H2
theorem pa_starD {e : Expr} {es : List Expr} {te : TE} {t : TA} {p : Pos} (hcalm : X.calm = true) (he : PE X e te) (hr : PA X es t) (hs : starEach (.Starred e p :: es) X.env = (true, eval e X.env) :: starEach es X.env := by rfl) : PA X (.Starred e p :: es) (tStarD te t) := by
  refine ⟨fun pos pins s σ H Q I h => ?_⟩
  refine PySem.W.items_star (thn (he.run pins s σ H _ I h) fun v s1 ⟨y, H1, I1, ry, a, kvs, ks, ey, hd, hk, hl, q⟩ => ?_) hs
  subst ey
  obtain rfl : v = Value.ref a := ry
  refine star_dct hcalm I1 hd hk hl fun us s2 I2 rv => ?_
  exact thn (hr.run pos pins s2 σ H1 _ I2 q) fun ws s3 ⟨vs, H3, I3, r3, q3⟩ => ⟨ks.map V.str ++ vs, H3, I3, rv.append r3, q3⟩
/-- [*d] -/
@[simp ↓] def tLStD (t : RE) (r : RL) : RL := fun G K => tFz t G fun d G1 => match d with
  | .dct es => ∃ ks : List Str, es.map (·.1) = ks.map Sum.inr ∧ ks.length ≤ 1000 ∧ r G1 fun ds G2 => K (ks.map D.str ++ ds) G2
  | _ => False
theorem pdl_starD {e : Expr} {es : List Expr} {te : RE} {tr : RL} {p : Pos} (ha : PD X T F e te) (hr : PDL X T F es tr) (hs : starEach (.Starred e p :: es) X.env = (true, eval e X.env) :: starEach es X.env := by rfl) : PDL X T F (.Starred e p :: es) (tLStD te tr) := by
  refine ⟨fun hK hc B H σ G K S h => tGA_of (pa_starD hc (pe_G X e) (pa_G X es) hs) ?_⟩
  refine tG_mono (run_fz ha hK hc S h) fun v H1 ⟨B1, d, G1, S1, k1, i1, q⟩ => ?_
  cases i1 with
  | dct h l =>
    obtain ⟨ks, e1, e2, q⟩ := q
    refine ⟨_, _, ks, rfl, rd_mono S1.bh h, (isK_fst l).trans e1, e2, tGA_mono (hr.run hK hc B1 H1 σ G1 _ S1 q) fun ws H2 ⟨B2, ds, G2, S2, k2, i2, q2⟩ => ?_⟩
    exact ⟨B2, _, G2, S2, k1.trans k2, (isL_strs ks).append i2, q2⟩
  | _ => exact q.elim
end
end Fx
end
section
set_option Elab.async false
set_option linter.all false
set_option maxRecDepth 100000
set_option maxHeartbeats 2000000
/-! Fx42: exceptions made as values -/
namespace Fx
open PySem PySem.Spec PyProof.Rows L2
section
variable {X : Cx} {pins : List (Addr × Obj)} {σ : L2.St} {H : Hp} {s : Shared}
theorem exG_ne {cls : Value} {dx : Option Addr} {a : Addr} {o : HO} (n : ∀ φ, o ≠ .ext φ) : o ≠ ExG cls dx a := fun z => n _ (z.trans rfl)
/-- an object that was not there at the entry and is tracked by none is tracked from now on -/
theorem inv_trackG {a : Addr} {cls : Value} {dx : Option Addr} {oe : Obj} {vs : Array Value} (I : Inv X pins σ H s) (ha : s.heap.get? a = some oe) (hz : Zc cls dx oe) (hd : oe.data = .fields vs) (na : H a = none) (n0 : X.s_0.heap.get? a = none) (np : ∀ p ∈ X.pn ++ pins, p.1 ≠ a) :
    Inv X pins σ (upd H a (ExG cls dx a)) s := by
  have nL : X.env.locals ≠ a := fun z => by
    obtain ⟨m, ⟨o, es, ep, ho, hdd, _⟩, _⟩ := I.loc
    rw [z, ha] at ho
    cases ho
    rw [hd] at hdd
    cases hdd
  have nC : ∀ x c, X.env.cells.lookup x = some c → c ≠ a := fun x c e z => by
    obtain ⟨v, o, ho, hdd⟩ := I.cell x c e
    rw [z, ha] at ho
    cases ho
    rw [hd] at hdd
    cases hdd
  have n1 : ∀ b o, X.s_0.heap.get? b = some o → b ≠ a := fun b o e z => by
    rw [z, n0] at e
    cases e
  have nH : ∀ {b u}, H b = some u → b ≠ a := fun {b u} e => ne_of_none e na
  refine ⟨I.ok, I.os, I.bare, ⟨I.base.keep, I.base.slot, fun b o e n hx => ?_, I.base.there, fun b xs e => ?_, fun b o u e => ?_, fun b ps e => ?_⟩, I.loc, I.cell, ?_, fun x c e => ?_, fun p hp => ?_, fun b u e => ?_, I.len⟩
  · rw [upd_ne (n1 b o e)]
    exact I.base.free b o e n hx
  · have q := I.base.tups b xs e
    rw [upd_ne (nH q)]
    exact q
  · have q := I.base.frzs b o u e
    rw [upd_ne (nH q)]
    exact q
  · obtain ⟨m, q⟩ := I.base.tbls b ps e
    exact ⟨m, by rw [upd_ne (nH q)]; exact q⟩
  · rw [upd_ne nL]
    exact I.free
  · rw [upd_ne (nC x c e)]
    exact I.freeC x c e
  · obtain ⟨e, n, ne, nf, d⟩ := I.pin p hp
    exact ⟨e, by rw [upd_ne (np p hp)]; exact n, ne, nf, d⟩
  · by_cases hb : b = a
    · subst hb
      rw [upd_same] at e
      cases e
      exact ⟨⟨oe, vs, ha, hz, hd⟩, ⟨oe, ha⟩, fun _ _ ⟨o, v, q1, q2, q3⟩ k => ⟨o, v, k _ q1, q2, q3⟩⟩
    · rw [upd_ne hb] at e
      exact (I.hok b u e).stay (fun c v _ q => q) (fun c q => by rw [upd_ne (nH q)]; exact q) fun c xs q => by rw [upd_ne (nH q)]; exact q
theorem pe_mk {e : Expr} {t : L2.St → Hp → XK → Prop} (he : L2N.PMk X e t) (hex : X.ex = []) : PE X e (fun σ H Q => t σ H fun cls d H' => ∀ a, H' a = none → Q (.ref a) (upd H' a (ExG cls d a))) := by
  refine ⟨fun pins s σ H Q I h => ?_⟩
  refine wpAny_mono (he pins s σ H _ I h) (fun u s' z => ?_) fun _ _ x => x
  obtain ⟨a, oe, vs, sI, H', cls, d, rfl, J, k, hne, ha, hz, hd, h1, na, os, ag, r, q⟩ := z
  have J2 : Inv X pins σ H' s' := J.landed (B := sI.heap) (fun b o e _ => e) k (fun b o e _ => ⟨o.slots, k b o e⟩) os ag
  have n0 : X.s_0.heap.get? a = none := by
    cases z : X.s_0.heap.get? a with
    | none => rfl
    | some o =>
      obtain ⟨o', y⟩ := J.base.there a o z (by rw [hex]; exact fun z => nomatch z)
      rw [hne] at y
      cases y
  have np2 : ∀ p ∈ X.pn ++ pins, p.1 ≠ a := fun p hp z => by
    obtain ⟨y, _⟩ := J.pin p hp
    rw [z, hne] at y
    cases y
  exact ⟨.ref a, _, inv_trackG J2 ha hz.zc hd na n0 np2, rfl, q a na⟩
theorem pe_mkZ {e : Expr} {t : L2.St → Hp → XK → Prop} (he : L2.PMk X e t) (hex : X.ex = []) : PE X e (fun σ H Q => t σ H fun cls d H' => ∀ a, H' a = none → Q (.ref a) (upd H' a (ExG cls d a))) := by
  refine ⟨fun pins s σ H Q I h => ?_⟩
  refine wpAny_mono (he pins s σ H _ I h) (fun u s' z => ?_) fun _ _ x => x
  obtain ⟨a, oe, vs, sI, H', cls, d, rfl, J, k, hne, ha, hz, hd, h1, na, os, ag, r, q⟩ := z
  have J2 : Inv X pins σ H' s' := J.landed (B := sI.heap) (fun b o e _ => e) k (fun b o e _ => ⟨o.slots, k b o e⟩) os ag
  have n0 : X.s_0.heap.get? a = none := by
    cases z : X.s_0.heap.get? a with
    | none => rfl
    | some o =>
      obtain ⟨o', y⟩ := J.base.there a o z (by rw [hex]; exact fun z => nomatch z)
      rw [hne] at y
      cases y
  have np2 : ∀ p ∈ X.pn ++ pins, p.1 ≠ a := fun p hp z => by
    obtain ⟨y, _⟩ := J.pin p hp
    rw [z, hne] at y
    cases y
  exact ⟨.ref a, _, inv_trackG J2 ha hz hd na n0 np2, rfl, q a na⟩
def rIsV (K : PySem.W.Frag) : List V → Hp → VK → Prop := fun xs H Q => ∃ (a : Addr) (c : V) (u : Value) (b : Bool), xs = [.ref a, c] ∧ H a = some (ExG (.type "ValueError") none a) ∧ (∀ w, RelV c w → w = u) ∧ PySem.W.kitOne K (.type "ValueError") u = some b ∧ Q (.bl b) H
theorem ve_lk : typeLookup (.type "ValueError") "__class__" = pure (some (.builtin "object.__class__")) := by rw [typeLookup_type, builtinLookup_eq_fast]; kernel_rfl
theorem ve_so : isSubtype (.type "ValueError") (.type (".".intercalate ("object.__class__".cutAt '.').dropLast)) = pure true := by rw [isSubtype_type]; kernel_rfl
theorem call_isV : CallR X (.builtin "isinstance") (rIsV X.K) := by
  intro pins s σ H xs us Q I r h
  obtain ⟨a, c, u, b, rfl, ha, hc, hk, q⟩ := h
  obtain ⟨u1, u2, rfl, r1, r2⟩ := r.two
  cases (show u1 = Value.ref a from r1)
  cases hc _ r2
  obtain ⟨⟨oe, vs, he, hz, hd⟩, _, _⟩ := I.hok a _ ha
  exact PySem.W.kia_one (PySem.W.kitx_bexc PySem.F.attr_ValueError ve_lk ve_so (by decide)) I.kIn ⟨oe, he, hz.1⟩ hk (fun z => nomatch z) fun tk => ⟨.bl b, H, I.tok _, rfl, q⟩
end
section
variable {X : Cx} {T : Tab} {F : Fr} {B H : Hp} {σ : L2.St} {G : Lo} {e : Expr} {te : RE}
/-- C(e) as a value -/
@[simp ↓] def tExc (c : Nat) (te : RE) : RE := fun G K => tFz te G fun d G1 => K (.imm (.exc c d)) G1
theorem pd_exc {D f : Addr} {k : Nat} {x : Str} {p pos : Pos} (c : Nat) (IF : IniF X.prog X.K D f) (IC : IniC X.K (T.cl c) D f) (hr : RoomG (k + 1) X.A) (hsup : X.mg "super" = none) (hm : X.mg x = some (.ref (T.cl c))) (he : PD X T F e te) (hex : X.ex = [] := by rfl) (hg : Gl X x := by rfl)
    (hdb : (x == ("__debug__" : Str)) = false := by decide) (hs : starEach [e] X.env = [(false, eval e X.env)] := by rfl) : PD X T F (.Call (.Name x p) [e] [] pos) (tExc c te) := by
  refine ⟨fun hK hc B H σ G K S h => tG_of (pe_mk (pmk_ini IF IC hr.rm hsup hm (pe_G X e) hg hdb hs) hex) ?_⟩
  refine tG_mono (run_fz he hK hc S h) fun v H1 ⟨B1, d, G1, S1, k1, i1, q⟩ => fun dd hd a na => ?_
  have S2 := S1.fresh (u := .xd [("value", v)]) hd
  have k2 := Kp.fresh (u := .xd [("value", v)]) S1 hd
  have na1 : H1 a = none := by
    by_cases z : a = dd
    · rw [z]; exact hd
    · rw [upd_ne z] at na; exact na
  have ne : dd ≠ a := fun z => by
    subst z
    rw [upd_same] at na
    cases na
  refine Post.more (k1.trans k2) (Post.new S2 na (.exc (dx := dd) (v := v) upd_same ?_ ?_) q)
  · rw [upd_ne ne]
    exact upd_same
  · exact (i1.mono (same_upd (S1.bh.free hd))).mono (same_upd (S2.bh.free na))
/-- ValueError(e) as a value -/
@[simp ↓] def tVeE (te : RE) : RE := fun G K => tFz te G fun _ G1 => K (.imm (.ins 0 [])) G1
theorem pd_veE {x : Str} {p pos : Pos} (hm : X.mg x = none) (he : PD X T F e te) (hv : bootBuiltins x = some (.type "ValueError") := by decide +kernel) (hex : X.ex = [] := by rfl) (hg : Gl X x := by rfl) (hn : x ≠ "__name__" := by decide)
    (hdb : (x == ("__debug__" : Str)) = false := by decide) (hs : starEach [e] X.env = (false, eval e X.env) :: starEach [] X.env := by rfl) : PD X T F (.Call (.Name x p) [e] [] pos) (tVeE te) := by
  refine ⟨fun hK hc B H σ G K S h => tG_of (pe_mkZ (L2.pmk_exb L2.exb_ValueError hg hm hv (pa_cons (pe_G X e) pa_nil hs) hn hdb hs) hex) ?_⟩
  show tG X e σ H (fun v H1 => _)
  refine tG_mono (run_fz he hK hc S h) fun v H1 ⟨B1, d, G1, S1, k1, i1, q⟩ => ⟨by rw [sizeLine_eq]; exact (by decide : 1 ≤ 16777216), fun a na => ?_⟩
  exact Post.more k1 (Post.new S1 na (.ins upd_same) q)
/-- isinstance of exceptions alone -/
@[simp ↓] def isY (m : Nat) (g2 : Nat → Bool) (gv : Bool) : D → Option Bool
  | .exc c _ => if c < m then some (g2 c) else none
  | .ins _ _ => some gv
  | _ => none
theorem cd_isY {u : Value} {g2 : Nat → Bool} {gv : Bool} {m : Nat} {cd : D} (hcd : ∀ B v, Is T B v cd → ClsV v u) (hX : ∀ c, c < m → ExcK T.K (T.cl c) ∧ PySem.W.kitOne T.K (.ref (T.cl c)) u = some (g2 c)) (hv : PySem.W.kitOne T.K (.type "ValueError") u = some gv) :
    CallD X T F (.builtin "isinstance") (isI (isY m g2 gv) cd) := by
  intro hK hcm
  refine ⟨_, CallR.or call_isX call_isV, fun B H σ G vs os K Q S hos h k => ?_⟩
  unfold isI at h
  split at h
  · rename_i o cc
    obtain ⟨rfl, h⟩ := h
    split at h
    · rename_i d ed
      cases hos with
      | cons h1 t =>
        rename_i v1 vs1
        cases t with
        | cons h2 t2 =>
          rename_i v2 vs2
          cases t2
          cases d with
          | exc c e =>
            have h : match (if c < m then some (g2 c) else none) with | some b => K (.imm (.bl b)) G | none => False := h
            split at h
            · rename_i b eb
              split at eb
              · rename_i hc
                cases eb
                obtain ⟨z1, z2⟩ := hX c hc
                rw [← hK] at z1 z2
                cases (show Is T B v1 (.exc c e) from S.see h1 ed) with
                | exc i1 i2 i3 => exact .inl ⟨_, _, _, _, v2, u, _, rfl, S.bh _ _ i1, S.bh _ _ i2, z1, fun w hw => (hcd _ _ h2).eq hw, fun _ => .inr trivial, z2, k _ _ (Post.imm S (.bl _) h)⟩
              · cases eb
            · exact h.elim
          | ins c es =>
            have h : K (.imm (.bl gv)) G := h
            rw [← hK] at hv
            cases (show Is T B v1 (.ins c es) from S.see h1 ed) with
            | ins i1 => exact .inr ⟨_, v2, u, _, rfl, S.bh _ _ i1, fun w hw => (hcd _ _ h2).eq hw, hv, k _ _ (Post.imm S (.bl _) h)⟩
          | _ => exact h.elim
    · exact h.elim
  · exact h.elim
end
end Fx
end
section
set_option Elab.async false
set_option linter.all false
set_option maxRecDepth 100000
set_option maxHeartbeats 4000000
open PySem PySem.Spec PyProof.Rows L2 Fx
namespace Lk00
/-! the text -/
def top (i : Nat) : Stmt := PySem.Challenge.pw_flexpats_k00_errors_and_what_they_keep.main.body.getD i (.Pass ⟨0, 0, 0, 0⟩)
def meth (i j : Nat) : Stmt := match top i with
  | .ClassDef _ _ _ body _ _ _ _ _ _ _ => body.getD j (.Pass ⟨0, 0, 0, 0⟩)
  | _ => .Pass ⟨0, 0, 0, 0⟩
def tbl (K : PySem.W.Frag) : List (Addr × Str) := []
def fal : List FA := []
def ts : List FA := fal.map tabAd
def exnL : List Str := [("FlexError" : Str), ("BadPat" : Str), ("BadValues" : Str), ("BadRing" : Str), ("BadNumber" : Str), ("BadMove" : Str), ("NoGo" : Str), ("BadBook" : Str), ("NoFlex" : Str), ("BadScript" : Str), ("Stuck" : Str), ("Endless" : Str), ("TooMany" : Str), ("BadAbove" : Str), ("BadLog" : Str), ("BadStep" : Str), ("NoRing" : Str), ("BadOffers" : Str), ("BadWishes" : Str), ("BadPlace" : Str), ("TooGreat" : Str), ("NothingToUndo" : Str), ("NothingToRedo" : Str), ("NoTrial" : Str), ("BadJournal" : Str), ("BadSay" : Str)]
def exn (i : Nat) : Str := exnL.getD i (Str.ofString "")
def kxsB : FB := fun K => (List.range 26).all fun i => (List.range 26).all fun j => decide (PySem.W.kitOne K (.ref (He.ga K (exn i))) (.ref (He.ga K (exn j))) = some (decide (i = j) || decide (j = 0)))
def kvsB : FB := fun K => (List.range 26).all fun j => decide (PySem.W.kitOne K (.type "ValueError") (.ref (He.ga K (exn j))) = some false)
def kwsB : FB := fun K => (List.range 26).all fun j => decide (PySem.W.kitOne K (.ref (He.ga K (exn j))) (.type "ValueError") = some true)
theorem kxs_ok {K : PySem.W.Frag} (h : kxsB K = true) : ∀ i, i < 26 → ∀ j, j < 26 → PySem.W.kitOne K (.ref (He.ga K (exn i))) (.ref (He.ga K (exn j))) = some (decide (i = j) || decide (j = 0)) := fun i hi j hj => of_decide_eq_true (List.all_eq_true.mp (List.all_eq_true.mp h i (List.mem_range.mpr hi)) j (List.mem_range.mpr hj))
theorem kvs_ok {K : PySem.W.Frag} (h : kvsB K = true) : ∀ j, j < 26 → PySem.W.kitOne K (.type "ValueError") (.ref (He.ga K (exn j))) = some false := fun j hj => of_decide_eq_true (List.all_eq_true.mp h j (List.mem_range.mpr hj))
theorem kws_ok {K : PySem.W.Frag} (h : kwsB K = true) : ∀ j, j < 26 → PySem.W.kitOne K (.ref (He.ga K (exn j))) (.type "ValueError") = some true := fun j hj => of_decide_eq_true (List.all_eq_true.mp h j (List.mem_range.mpr hj))
def ex : List FB := [exckB "BadAbove", exckB "BadBook", exckB "BadJournal", exckB "BadLog", exckB "BadMove", exckB "BadNumber", exckB "BadOffers", exckB "BadPat", exckB "BadPlace", exckB "BadRing", exckB "BadSay", exckB "BadScript", exckB "BadStep", exckB "BadValues", exckB "BadWishes", exckB "Endless", exckB "FlexError", exckB "NoFlex", exckB "NoGo", exckB "NoRing", exckB "NoTrial", exckB "NothingToRedo", exckB "NothingToUndo", exckB "Stuck", exckB "TooGreat", exckB "TooMany", (He.Fa.glo "BadAbove").ok, (He.Fa.glo "BadBook").ok, (He.Fa.glo "BadJournal").ok, (He.Fa.glo "BadLog").ok, (He.Fa.glo "BadMove").ok, (He.Fa.glo "BadNumber").ok, (He.Fa.glo "BadOffers").ok, (He.Fa.glo "BadPat").ok, (He.Fa.glo "BadPlace").ok, (He.Fa.glo "BadRing").ok, (He.Fa.glo "BadSay").ok, (He.Fa.glo "BadScript").ok, (He.Fa.glo "BadStep").ok, (He.Fa.glo "BadValues").ok, (He.Fa.glo "BadWishes").ok, (He.Fa.glo "Endless").ok, (He.Fa.glo "FlexError").ok, (He.Fa.glo "NoFlex").ok, (He.Fa.glo "NoGo").ok, (He.Fa.glo "NoRing").ok, (He.Fa.glo "NoTrial").ok, (He.Fa.glo "NothingToRedo").ok, (He.Fa.glo "NothingToUndo").ok, (He.Fa.glo "Stuck").ok, (He.Fa.glo "TooGreat").ok, (He.Fa.glo "TooMany").ok, (He.Fa.glo "_law_is_kept").ok, (He.Fa.glo "_law_made").ok, (He.Fa.glo "_law_marked").ok, (He.Fa.glo "law").ok, iniCB "BadAbove" "FlexError", iniCB "BadBook" "FlexError", iniCB "BadJournal" "FlexError", iniCB "BadLog" "FlexError", iniCB "BadMove" "FlexError", iniCB "BadNumber" "FlexError", iniCB "BadOffers" "FlexError", iniCB "BadPat" "FlexError", iniCB "BadPlace" "FlexError", iniCB "BadRing" "FlexError", iniCB "BadSay" "FlexError", iniCB "BadScript" "FlexError", iniCB "BadStep" "FlexError", iniCB "BadValues" "FlexError", iniCB "BadWishes" "FlexError", iniCB "Endless" "FlexError", iniCB "FlexError" "FlexError", iniCB "NoFlex" "FlexError", iniCB "NoGo" "FlexError", iniCB "NoRing" "FlexError", iniCB "NoTrial" "FlexError", iniCB "NothingToRedo" "FlexError", iniCB "NothingToUndo" "FlexError", iniCB "Stuck" "FlexError", iniCB "TooGreat" "FlexError", iniCB "TooMany" "FlexError", (He.Fa.keep "_law_is_kept").ok, (He.Fa.keep "_law_made").ok, (He.Fa.keep "_law_marked").ok, (He.Fa.free "ValueError").ok, (He.Fa.free "all").ok, (He.Fa.free "enumerate").ok, (He.Fa.free "int").ok, (He.Fa.free "isinstance").ok, (He.Fa.free "range").ok, (He.Fa.free "repr").ok, (He.Fa.free "str").ok, (He.Fa.free "super").ok, kxsB, kvsB, kwsB, iniB PySem.Challenge.pw_flexpats_k00_errors_and_what_they_keep "FlexError"]
def fn : List FDef := [⟨fun K => (He.ga K "_law_made"), "_law_made", "_law_made", (top 28), [], []⟩, ⟨fun K => (He.ga K "_law_marked"), "_law_marked", "_law_marked", (top 29), [], []⟩, ⟨fun K => (He.ga K "_law_is_kept"), "_law_is_kept", "_law_is_kept", (top 30), [], []⟩, ⟨fun K => (He.ga K "law"), "law", "law", (top 31), [], []⟩, ⟨fun K => He.ma K (He.ga K "FlexError") "__init__", "__init__", "FlexError.__init__", meth 1 0, [], ["__class__"]⟩]
end Lk00
end
section
set_option Elab.async false
set_option linter.all false
set_option maxRecDepth 100000
set_option maxHeartbeats 0
namespace Lk00
open PySem PySem.Spec PyProof.Rows L2 Fx
abbrev R : PySem.W.OpenRow := PySem.W.OpenLaw.row PySem.Challenge.rw_flexpats_k00_errors_and_what_they_keep
abbrev hk : PySem.W.Hook := hookF 20000 ex fn ts
def ob (s : PySem.W.SharedT) : AlT := obsFG 20000 ex fn ts (HandSHeadRun.getT s)
theorem ob_eq (s : PySem.W.SharedT) : ob s = hk.obs s.abs := obsFG_eq (HandSHeadRun.getT_eq s)
def l1 : List PySem.Str := (["__name__", "FlexError", "BadPat", "BadValues", "BadRing", "BadNumber", "BadMove", "NoGo", "BadBook", "NoFlex", "BadScript", "Stuck", "Endless", "TooMany", "BadAbove"] : List PySem.Str)
def l2 : List PySem.Str := (["BadLog", "BadStep", "NoRing", "BadOffers", "BadWishes", "BadPlace", "TooGreat", "NothingToUndo", "NothingToRedo", "NoTrial", "BadJournal", "BadSay", "_law_made", "_law_marked", "_law_is_kept"] : List PySem.Str)
theorem run (w : World) : HandSHeadRun.RunEq R (PySem.W.view R.prog [31]) hk ob 20000 (l1 ++ l2) w := by
  intro os
  kernel_rfl
end Lk00
end
section
set_option Elab.async false
set_option linter.all false
set_option maxRecDepth 100000
set_option maxHeartbeats 4000000
namespace Fx
open PySem PySem.Spec PyProof.Rows L2
/-! readings, printed by gen.py -/
/-- _law_made : _law_value, _law_found -/
def t__law_made : RS := sSeq (sSet 1 (tLst (tLCons (tExc 1 (tVar 0)) (tLCons (tExc 2 (tVar 0)) (tLCons (tExc 3 (tVar 0)) (tLCons (tExc 4 (tVar 0)) (tLNil))))))) (sSeq (sDrop (tOw 1 wExtend (tLst (tLCons (tExc 5 (tVar 0)) (tLCons (tExc 6 (tVar 0)) (tLCons (tExc 7 (tVar 0)) (tLCons (tExc 8 (tVar 0)) (tLNil)))))))) (sSeq (sDrop (tOw 1 wExtend (tLst (tLCons (tExc 9 (tVar 0)) (tLCons (tExc 10 (tVar 0)) (tLCons (tExc 11 (tVar 0)) (tLCons (tExc 12 (tVar 0)) (tLNil)))))))) (sSeq (sDrop (tOw 1 wExtend (tLst (tLCons (tExc 13 (tVar 0)) (tLCons (tExc 14 (tVar 0)) (tLCons (tExc 15 (tVar 0)) (tLCons (tExc 16 (tVar 0)) (tLNil)))))))) (sSeq (sDrop (tOw 1 wExtend (tLst (tLCons (tExc 17 (tVar 0)) (tLCons (tExc 18 (tVar 0)) (tLCons (tExc 19 (tVar 0)) (tLCons (tExc 20 (tVar 0)) (tLNil)))))))) (sSeq (sDrop (tOw 1 wExtend (tLst (tLCons (tExc 21 (tVar 0)) (tLCons (tExc 22 (tVar 0)) (tLCons (tExc 23 (tVar 0)) (tLCons (tExc 24 (tVar 0)) (tLNil)))))))) (sSeq (sDrop (tOw 1 wExtend (tLst (tLCons (tExc 25 (tVar 0)) (tLNil))))) (sRet (tVar 1))))))))
/-- _law_marked : _law_error, _law_found -/
def t__law_marked : RS := sSeq (sSet 1 (tLst (tLCons (tCal (isI (isY 26 (fun c => decide (c = 1)) false) (.cls 1)) (tOCons (tVar 0) (tOCons (tC (.cls 1)) tONil))) (tLCons (tCal (isI (isY 26 (fun c => decide (c = 2)) false) (.cls 2)) (tOCons (tVar 0) (tOCons (tC (.cls 2)) tONil))) (tLCons (tCal (isI (isY 26 (fun c => decide (c = 3)) false) (.cls 3)) (tOCons (tVar 0) (tOCons (tC (.cls 3)) tONil))) (tLNil)))))) (sSeq (sDrop (tOw 1 wExtend (tLst (tLCons (tCal (isI (isY 26 (fun c => decide (c = 4)) false) (.cls 4)) (tOCons (tVar 0) (tOCons (tC (.cls 4)) tONil))) (tLCons (tCal (isI (isY 26 (fun c => decide (c = 5)) false) (.cls 5)) (tOCons (tVar 0) (tOCons (tC (.cls 5)) tONil))) (tLCons (tCal (isI (isY 26 (fun c => decide (c = 6)) false) (.cls 6)) (tOCons (tVar 0) (tOCons (tC (.cls 6)) tONil))) (tLNil))))))) (sSeq (sDrop (tOw 1 wExtend (tLst (tLCons (tCal (isI (isY 26 (fun c => decide (c = 7)) false) (.cls 7)) (tOCons (tVar 0) (tOCons (tC (.cls 7)) tONil))) (tLCons (tCal (isI (isY 26 (fun c => decide (c = 8)) false) (.cls 8)) (tOCons (tVar 0) (tOCons (tC (.cls 8)) tONil))) (tLCons (tCal (isI (isY 26 (fun c => decide (c = 9)) false) (.cls 9)) (tOCons (tVar 0) (tOCons (tC (.cls 9)) tONil))) (tLNil))))))) (sSeq (sDrop (tOw 1 wExtend (tLst (tLCons (tCal (isI (isY 26 (fun c => decide (c = 10)) false) (.cls 10)) (tOCons (tVar 0) (tOCons (tC (.cls 10)) tONil))) (tLCons (tCal (isI (isY 26 (fun c => decide (c = 11)) false) (.cls 11)) (tOCons (tVar 0) (tOCons (tC (.cls 11)) tONil))) (tLCons (tCal (isI (isY 26 (fun c => decide (c = 12)) false) (.cls 12)) (tOCons (tVar 0) (tOCons (tC (.cls 12)) tONil))) (tLNil))))))) (sSeq (sDrop (tOw 1 wExtend (tLst (tLCons (tCal (isI (isY 26 (fun c => decide (c = 13)) false) (.cls 13)) (tOCons (tVar 0) (tOCons (tC (.cls 13)) tONil))) (tLCons (tCal (isI (isY 26 (fun c => decide (c = 14)) false) (.cls 14)) (tOCons (tVar 0) (tOCons (tC (.cls 14)) tONil))) (tLCons (tCal (isI (isY 26 (fun c => decide (c = 15)) false) (.cls 15)) (tOCons (tVar 0) (tOCons (tC (.cls 15)) tONil))) (tLNil))))))) (sSeq (sDrop (tOw 1 wExtend (tLst (tLCons (tCal (isI (isY 26 (fun c => decide (c = 16)) false) (.cls 16)) (tOCons (tVar 0) (tOCons (tC (.cls 16)) tONil))) (tLCons (tCal (isI (isY 26 (fun c => decide (c = 17)) false) (.cls 17)) (tOCons (tVar 0) (tOCons (tC (.cls 17)) tONil))) (tLCons (tCal (isI (isY 26 (fun c => decide (c = 18)) false) (.cls 18)) (tOCons (tVar 0) (tOCons (tC (.cls 18)) tONil))) (tLNil))))))) (sSeq (sDrop (tOw 1 wExtend (tLst (tLCons (tCal (isI (isY 26 (fun c => decide (c = 19)) false) (.cls 19)) (tOCons (tVar 0) (tOCons (tC (.cls 19)) tONil))) (tLCons (tCal (isI (isY 26 (fun c => decide (c = 20)) false) (.cls 20)) (tOCons (tVar 0) (tOCons (tC (.cls 20)) tONil))) (tLCons (tCal (isI (isY 26 (fun c => decide (c = 21)) false) (.cls 21)) (tOCons (tVar 0) (tOCons (tC (.cls 21)) tONil))) (tLNil))))))) (sSeq (sDrop (tOw 1 wExtend (tLst (tLCons (tCal (isI (isY 26 (fun c => decide (c = 22)) false) (.cls 22)) (tOCons (tVar 0) (tOCons (tC (.cls 22)) tONil))) (tLCons (tCal (isI (isY 26 (fun c => decide (c = 23)) false) (.cls 23)) (tOCons (tVar 0) (tOCons (tC (.cls 23)) tONil))) (tLCons (tCal (isI (isY 26 (fun c => decide (c = 24)) false) (.cls 24)) (tOCons (tVar 0) (tOCons (tC (.cls 24)) tONil))) (tLNil))))))) (sSeq (sDrop (tOw 1 wExtend (tLst (tLCons (tCal (isI (isY 26 (fun c => decide (c = 25)) false) (.cls 25)) (tOCons (tVar 0) (tOCons (tC (.cls 25)) tONil))) (tLNil))))) (sRet (tVar 1))))))))))
/-- _law_is_kept : _law_value, _law_number, _law_error, _law_base, _law_at -/
def t__law_is_kept (c__law_made c__law_marked : Fx.Spec) : RS := sSeq (sFor (iEnu (tCallD c__law_made wN (tQF (tVar 0) (tQNil)))) (gUn [1, 2]) (sSeq (sIf (tOr (tTst (tBin gNe (tCallD c__law_marked wN (tQF (tVar 2) (tQNil))) (tLc (iR1 (tC (.int 25))) (gNm 4) (tYs) (tBin gEq (tVar 4) (tVar 1)) [4]))) (tTst (tBin gNe (tCal (g1 wReprX) (tOCons (tVal 0 26 (tVar 2)) (tONil))) (tCal (g1 wReprX) (tOCons (tVar 0) (tONil)))))) (sRet (tC (.bl false))) (sNext)) (sIf (tOr (tNot (tTst (tCal (isI (isY 26 (fun c => true) false) (.cls 0)) (tOCons (tVar 2) (tOCons (tC (.cls 0)) tONil))))) (tNot (tTst (tCal (isI (isY 26 (fun _ => true) true) (.ty "ValueError")) (tOCons (tVar 2) (tOCons (tC (.ty "ValueError")) tONil)))))) (sRet (tC (.bl false))) (sNext)))) (sSeq (sSet 3 (tExc 0 (tVar 0))) (sSeq (sIf (tOr (tTst (tBin gNe (tCal (g1 wReprX) (tOCons (tVal 0 26 (tVar 3)) (tONil))) (tCal (g1 wReprX) (tOCons (tVar 0) (tONil))))) (tOr (tTst (tBin gIn (tC (.bl true)) (tCallD c__law_marked wN (tQF (tVar 3) (tQNil))))) (tNot (tTst (tCal (isI (isY 26 (fun _ => true) true) (.ty "ValueError")) (tOCons (tVar 3) (tOCons (tC (.ty "ValueError")) tONil))))))) (sRet (tC (.bl false))) (sNext)) (sRet (tBin gNotIn (tC (.bl true)) (tCallD c__law_marked wN (tQF (tVeE (tVar 0)) (tQNil)))))))
/-- law : _law_script, _law_cell, _law_some, _law_value -/
def t_law (c__law_is_kept : Fx.Spec) : RS := sSeq (sSet 1 (tBin gMod (tCal (g1 fInt) (tOCons (tIf (tTst (tBin gNe (tVar 0) (tLst (tLNil)))) (tIx (tVar 0) (tC (.int 0))) (tC (.int 0))) (tONil))) (tBin gPow (tC (.int 10)) (tC (.int 9))))) (sSeq (sSet 2 (tLst (tLCons (tC .non) (tLCons (tVar 1) (tLCons (tNeg (tVar 1)) (tLCons (tC (.bl true)) (tLCons (tBin gAdd (tC (.str "text ")) (tCal (g1 fStrI) (tOCons (tVar 1) (tONil)))) (tLCons (tTup (tLCons (tVar 1) (tLCons (tC (.str "a")) (tLNil)))) (tLCons (tLst (tLCons (tVar 1) (tLNil))) (tLCons (tDct (tPCons (tC (.str "a")) (tVar 1) (tPNil))) (tLCons (tTup (tLNil)) (tLCons (tTup (tLCons (tTup (tLCons (tVar 1) (tLCons (tC .non) (tLNil)))) (tLCons (tLst (tLNil)) (tLNil)))) (tLNil))))))))))))) (sRet (tCal (g1 fAll) (tOCons (tLc (iAny (tVar 2)) (gNm 3) (tYs) (tCallD c__law_is_kept wN (tQF (tVar 3) (tQNil))) [3]) (tONil)))))
end Fx
end
section
set_option Elab.async false
set_option linter.all false
set_option maxRecDepth 100000
set_option maxHeartbeats 4000000
open PySem PySem.Spec PyProof.Rows L2 Fx
namespace Lk00
structure Env (K : PySem.W.Frag) (mg : Str → Option Value) : Prop where
  exck_BadAbove : ExcK K (He.ga K "BadAbove")
  exck_BadBook : ExcK K (He.ga K "BadBook")
  exck_BadJournal : ExcK K (He.ga K "BadJournal")
  exck_BadLog : ExcK K (He.ga K "BadLog")
  exck_BadMove : ExcK K (He.ga K "BadMove")
  exck_BadNumber : ExcK K (He.ga K "BadNumber")
  exck_BadOffers : ExcK K (He.ga K "BadOffers")
  exck_BadPat : ExcK K (He.ga K "BadPat")
  exck_BadPlace : ExcK K (He.ga K "BadPlace")
  exck_BadRing : ExcK K (He.ga K "BadRing")
  exck_BadSay : ExcK K (He.ga K "BadSay")
  exck_BadScript : ExcK K (He.ga K "BadScript")
  exck_BadStep : ExcK K (He.ga K "BadStep")
  exck_BadValues : ExcK K (He.ga K "BadValues")
  exck_BadWishes : ExcK K (He.ga K "BadWishes")
  exck_Endless : ExcK K (He.ga K "Endless")
  exck_FlexError : ExcK K (He.ga K "FlexError")
  exck_NoFlex : ExcK K (He.ga K "NoFlex")
  exck_NoGo : ExcK K (He.ga K "NoGo")
  exck_NoRing : ExcK K (He.ga K "NoRing")
  exck_NoTrial : ExcK K (He.ga K "NoTrial")
  exck_NothingToRedo : ExcK K (He.ga K "NothingToRedo")
  exck_NothingToUndo : ExcK K (He.ga K "NothingToUndo")
  exck_Stuck : ExcK K (He.ga K "Stuck")
  exck_TooGreat : ExcK K (He.ga K "TooGreat")
  exck_TooMany : ExcK K (He.ga K "TooMany")
  f_BadAbove : mg "BadAbove" = some (.ref (He.ga K "BadAbove"))
  f_BadBook : mg "BadBook" = some (.ref (He.ga K "BadBook"))
  f_BadJournal : mg "BadJournal" = some (.ref (He.ga K "BadJournal"))
  f_BadLog : mg "BadLog" = some (.ref (He.ga K "BadLog"))
  f_BadMove : mg "BadMove" = some (.ref (He.ga K "BadMove"))
  f_BadNumber : mg "BadNumber" = some (.ref (He.ga K "BadNumber"))
  f_BadOffers : mg "BadOffers" = some (.ref (He.ga K "BadOffers"))
  f_BadPat : mg "BadPat" = some (.ref (He.ga K "BadPat"))
  f_BadPlace : mg "BadPlace" = some (.ref (He.ga K "BadPlace"))
  f_BadRing : mg "BadRing" = some (.ref (He.ga K "BadRing"))
  f_BadSay : mg "BadSay" = some (.ref (He.ga K "BadSay"))
  f_BadScript : mg "BadScript" = some (.ref (He.ga K "BadScript"))
  f_BadStep : mg "BadStep" = some (.ref (He.ga K "BadStep"))
  f_BadValues : mg "BadValues" = some (.ref (He.ga K "BadValues"))
  f_BadWishes : mg "BadWishes" = some (.ref (He.ga K "BadWishes"))
  f_Endless : mg "Endless" = some (.ref (He.ga K "Endless"))
  f_FlexError : mg "FlexError" = some (.ref (He.ga K "FlexError"))
  f_NoFlex : mg "NoFlex" = some (.ref (He.ga K "NoFlex"))
  f_NoGo : mg "NoGo" = some (.ref (He.ga K "NoGo"))
  f_NoRing : mg "NoRing" = some (.ref (He.ga K "NoRing"))
  f_NoTrial : mg "NoTrial" = some (.ref (He.ga K "NoTrial"))
  f_NothingToRedo : mg "NothingToRedo" = some (.ref (He.ga K "NothingToRedo"))
  f_NothingToUndo : mg "NothingToUndo" = some (.ref (He.ga K "NothingToUndo"))
  f_Stuck : mg "Stuck" = some (.ref (He.ga K "Stuck"))
  f_TooGreat : mg "TooGreat" = some (.ref (He.ga K "TooGreat"))
  f_TooMany : mg "TooMany" = some (.ref (He.ga K "TooMany"))
  f__law_is_kept : mg "_law_is_kept" = some (.ref (He.ga K "_law_is_kept"))
  f__law_made : mg "_law_made" = some (.ref (He.ga K "_law_made"))
  f__law_marked : mg "_law_marked" = some (.ref (He.ga K "_law_marked"))
  f_law : mg "law" = some (.ref (He.ga K "law"))
  ic_BadAbove : IniC K (He.ga K "BadAbove") (He.ga K "FlexError") (He.ma K (He.ga K "FlexError") "__init__")
  ic_BadBook : IniC K (He.ga K "BadBook") (He.ga K "FlexError") (He.ma K (He.ga K "FlexError") "__init__")
  ic_BadJournal : IniC K (He.ga K "BadJournal") (He.ga K "FlexError") (He.ma K (He.ga K "FlexError") "__init__")
  ic_BadLog : IniC K (He.ga K "BadLog") (He.ga K "FlexError") (He.ma K (He.ga K "FlexError") "__init__")
  ic_BadMove : IniC K (He.ga K "BadMove") (He.ga K "FlexError") (He.ma K (He.ga K "FlexError") "__init__")
  ic_BadNumber : IniC K (He.ga K "BadNumber") (He.ga K "FlexError") (He.ma K (He.ga K "FlexError") "__init__")
  ic_BadOffers : IniC K (He.ga K "BadOffers") (He.ga K "FlexError") (He.ma K (He.ga K "FlexError") "__init__")
  ic_BadPat : IniC K (He.ga K "BadPat") (He.ga K "FlexError") (He.ma K (He.ga K "FlexError") "__init__")
  ic_BadPlace : IniC K (He.ga K "BadPlace") (He.ga K "FlexError") (He.ma K (He.ga K "FlexError") "__init__")
  ic_BadRing : IniC K (He.ga K "BadRing") (He.ga K "FlexError") (He.ma K (He.ga K "FlexError") "__init__")
  ic_BadSay : IniC K (He.ga K "BadSay") (He.ga K "FlexError") (He.ma K (He.ga K "FlexError") "__init__")
  ic_BadScript : IniC K (He.ga K "BadScript") (He.ga K "FlexError") (He.ma K (He.ga K "FlexError") "__init__")
  ic_BadStep : IniC K (He.ga K "BadStep") (He.ga K "FlexError") (He.ma K (He.ga K "FlexError") "__init__")
  ic_BadValues : IniC K (He.ga K "BadValues") (He.ga K "FlexError") (He.ma K (He.ga K "FlexError") "__init__")
  ic_BadWishes : IniC K (He.ga K "BadWishes") (He.ga K "FlexError") (He.ma K (He.ga K "FlexError") "__init__")
  ic_Endless : IniC K (He.ga K "Endless") (He.ga K "FlexError") (He.ma K (He.ga K "FlexError") "__init__")
  ic_FlexError : IniC K (He.ga K "FlexError") (He.ga K "FlexError") (He.ma K (He.ga K "FlexError") "__init__")
  ic_NoFlex : IniC K (He.ga K "NoFlex") (He.ga K "FlexError") (He.ma K (He.ga K "FlexError") "__init__")
  ic_NoGo : IniC K (He.ga K "NoGo") (He.ga K "FlexError") (He.ma K (He.ga K "FlexError") "__init__")
  ic_NoRing : IniC K (He.ga K "NoRing") (He.ga K "FlexError") (He.ma K (He.ga K "FlexError") "__init__")
  ic_NoTrial : IniC K (He.ga K "NoTrial") (He.ga K "FlexError") (He.ma K (He.ga K "FlexError") "__init__")
  ic_NothingToRedo : IniC K (He.ga K "NothingToRedo") (He.ga K "FlexError") (He.ma K (He.ga K "FlexError") "__init__")
  ic_NothingToUndo : IniC K (He.ga K "NothingToUndo") (He.ga K "FlexError") (He.ma K (He.ga K "FlexError") "__init__")
  ic_Stuck : IniC K (He.ga K "Stuck") (He.ga K "FlexError") (He.ma K (He.ga K "FlexError") "__init__")
  ic_TooGreat : IniC K (He.ga K "TooGreat") (He.ga K "FlexError") (He.ma K (He.ga K "FlexError") "__init__")
  ic_TooMany : IniC K (He.ga K "TooMany") (He.ga K "FlexError") (He.ma K (He.ga K "FlexError") "__init__")
  k__law_is_kept : PySem.W.keepIn K (.ref (He.ga K "_law_is_kept")) = true
  k__law_made : PySem.W.keepIn K (.ref (He.ga K "_law_made")) = true
  k__law_marked : PySem.W.keepIn K (.ref (He.ga K "_law_marked")) = true
  n_ValueError : mg "ValueError" = none
  n_all : mg "all" = none
  n_enumerate : mg "enumerate" = none
  n_int : mg "int" = none
  n_isinstance : mg "isinstance" = none
  n_range : mg "range" = none
  n_repr : mg "repr" = none
  n_str : mg "str" = none
  n_super : mg "super" = none
  kxs : ∀ i, i < 26 → ∀ j, j < 26 → PySem.W.kitOne K (.ref (He.ga K (exn i))) (.ref (He.ga K (exn j))) = some (decide (i = j) || decide (j = 0))
  kvs : ∀ j, j < 26 → PySem.W.kitOne K (.type "ValueError") (.ref (He.ga K (exn j))) = some false
  kws : ∀ j, j < 26 → PySem.W.kitOne K (.ref (He.ga K (exn j))) (.type "ValueError") = some true
def tab (K : PySem.W.Frag) : Tab := ⟨K, fun c => match c with
  | 0 => He.ga K "FlexError"
  | 1 => He.ga K "BadPat"
  | 2 => He.ga K "BadValues"
  | 3 => He.ga K "BadRing"
  | 4 => He.ga K "BadNumber"
  | 5 => He.ga K "BadMove"
  | 6 => He.ga K "NoGo"
  | 7 => He.ga K "BadBook"
  | 8 => He.ga K "NoFlex"
  | 9 => He.ga K "BadScript"
  | 10 => He.ga K "Stuck"
  | 11 => He.ga K "Endless"
  | 12 => He.ga K "TooMany"
  | 13 => He.ga K "BadAbove"
  | 14 => He.ga K "BadLog"
  | 15 => He.ga K "BadStep"
  | 16 => He.ga K "NoRing"
  | 17 => He.ga K "BadOffers"
  | 18 => He.ga K "BadWishes"
  | 19 => He.ga K "BadPlace"
  | 20 => He.ga K "TooGreat"
  | 21 => He.ga K "NothingToUndo"
  | 22 => He.ga K "NothingToRedo"
  | 23 => He.ga K "NoTrial"
  | 24 => He.ga K "BadJournal"
  | _ => He.ga K "BadSay", tbl K⟩
section
variable {P : Program} {w : World} {K : PySem.W.Frag} {mg : Str → Option Value} {base : Heap} {k : Nat}
theorem scls (En : Env K mg) : ∀ c, c < 0 → SlX.SCls (tab K).K ((tab K).cl c) ∧ SlX.SIsi (tab K).K ((tab K).cl c)
  | n + 0, h => absurd h (by omega)
theorem exks (En : Env K mg) : ∀ c, 0 ≤ c → c < 26 → ExcK (tab K).K ((tab K).cl c)
  | 0, _, _ => En.exck_FlexError
  | 1, _, _ => En.exck_BadPat
  | 2, _, _ => En.exck_BadValues
  | 3, _, _ => En.exck_BadRing
  | 4, _, _ => En.exck_BadNumber
  | 5, _, _ => En.exck_BadMove
  | 6, _, _ => En.exck_NoGo
  | 7, _, _ => En.exck_BadBook
  | 8, _, _ => En.exck_NoFlex
  | 9, _, _ => En.exck_BadScript
  | 10, _, _ => En.exck_Stuck
  | 11, _, _ => En.exck_Endless
  | 12, _, _ => En.exck_TooMany
  | 13, _, _ => En.exck_BadAbove
  | 14, _, _ => En.exck_BadLog
  | 15, _, _ => En.exck_BadStep
  | 16, _, _ => En.exck_NoRing
  | 17, _, _ => En.exck_BadOffers
  | 18, _, _ => En.exck_BadWishes
  | 19, _, _ => En.exck_BadPlace
  | 20, _, _ => En.exck_TooGreat
  | 21, _, _ => En.exck_NothingToUndo
  | 22, _, _ => En.exck_NothingToRedo
  | 23, _, _ => En.exck_NoTrial
  | 24, _, _ => En.exck_BadJournal
  | 25, _, _ => En.exck_BadSay
  | n + 26, _, h => absurd h (by omega)
theorem cl_exn {K : PySem.W.Frag} : ∀ c, c < 26 → (tab K).cl c = He.ga K (exn c)
  | 0, _ => rfl
  | 1, _ => rfl
  | 2, _ => rfl
  | 3, _ => rfl
  | 4, _ => rfl
  | 5, _ => rfl
  | 6, _ => rfl
  | 7, _ => rfl
  | 8, _ => rfl
  | 9, _ => rfl
  | 10, _ => rfl
  | 11, _ => rfl
  | 12, _ => rfl
  | 13, _ => rfl
  | 14, _ => rfl
  | 15, _ => rfl
  | 16, _ => rfl
  | 17, _ => rfl
  | 18, _ => rfl
  | 19, _ => rfl
  | 20, _ => rfl
  | 21, _ => rfl
  | 22, _ => rfl
  | 23, _ => rfl
  | 24, _ => rfl
  | 25, _ => rfl
  | n + 26, h => absurd h (by omega)
theorem kv_VE {K : PySem.W.Frag} : PySem.W.kitOne (tab K).K (.type "ValueError") (.type "ValueError") = some true := by kernel_rfl
theorem kv_own (En : Env K mg) : ∀ j, j < 26 → PySem.W.kitOne (tab K).K (.type "ValueError") (.ref ((tab K).cl j)) = some false := fun j h => by rw [cl_exn j h]; exact En.kvs j h
theorem yk_VE (En : Env K mg) : ∀ c, c < 26 → ExcK (tab K).K ((tab K).cl c) ∧ PySem.W.kitOne (tab K).K (.ref ((tab K).cl c)) (.type "ValueError") = some ((fun _ => true) c) := fun c h => ⟨exks En c (Nat.zero_le _) h, by rw [cl_exn c h]; exact En.kws c h⟩
theorem yk_BadAbove (En : Env K mg) : ∀ c, c < 26 → ExcK (tab K).K ((tab K).cl c) ∧ PySem.W.kitOne (tab K).K (.ref ((tab K).cl c)) (.ref ((tab K).cl 13)) = some ((fun c => decide (c = 13)) c) := fun c h => ⟨exks En c (Nat.zero_le _) h, by rw [cl_exn c h]; exact (En.kxs c h 13 (by decide)).trans (by simp)⟩
theorem yk_BadBook (En : Env K mg) : ∀ c, c < 26 → ExcK (tab K).K ((tab K).cl c) ∧ PySem.W.kitOne (tab K).K (.ref ((tab K).cl c)) (.ref ((tab K).cl 7)) = some ((fun c => decide (c = 7)) c) := fun c h => ⟨exks En c (Nat.zero_le _) h, by rw [cl_exn c h]; exact (En.kxs c h 7 (by decide)).trans (by simp)⟩
theorem yk_BadJournal (En : Env K mg) : ∀ c, c < 26 → ExcK (tab K).K ((tab K).cl c) ∧ PySem.W.kitOne (tab K).K (.ref ((tab K).cl c)) (.ref ((tab K).cl 24)) = some ((fun c => decide (c = 24)) c) := fun c h => ⟨exks En c (Nat.zero_le _) h, by rw [cl_exn c h]; exact (En.kxs c h 24 (by decide)).trans (by simp)⟩
theorem yk_BadLog (En : Env K mg) : ∀ c, c < 26 → ExcK (tab K).K ((tab K).cl c) ∧ PySem.W.kitOne (tab K).K (.ref ((tab K).cl c)) (.ref ((tab K).cl 14)) = some ((fun c => decide (c = 14)) c) := fun c h => ⟨exks En c (Nat.zero_le _) h, by rw [cl_exn c h]; exact (En.kxs c h 14 (by decide)).trans (by simp)⟩
theorem yk_BadMove (En : Env K mg) : ∀ c, c < 26 → ExcK (tab K).K ((tab K).cl c) ∧ PySem.W.kitOne (tab K).K (.ref ((tab K).cl c)) (.ref ((tab K).cl 5)) = some ((fun c => decide (c = 5)) c) := fun c h => ⟨exks En c (Nat.zero_le _) h, by rw [cl_exn c h]; exact (En.kxs c h 5 (by decide)).trans (by simp)⟩
theorem yk_BadNumber (En : Env K mg) : ∀ c, c < 26 → ExcK (tab K).K ((tab K).cl c) ∧ PySem.W.kitOne (tab K).K (.ref ((tab K).cl c)) (.ref ((tab K).cl 4)) = some ((fun c => decide (c = 4)) c) := fun c h => ⟨exks En c (Nat.zero_le _) h, by rw [cl_exn c h]; exact (En.kxs c h 4 (by decide)).trans (by simp)⟩
theorem yk_BadOffers (En : Env K mg) : ∀ c, c < 26 → ExcK (tab K).K ((tab K).cl c) ∧ PySem.W.kitOne (tab K).K (.ref ((tab K).cl c)) (.ref ((tab K).cl 17)) = some ((fun c => decide (c = 17)) c) := fun c h => ⟨exks En c (Nat.zero_le _) h, by rw [cl_exn c h]; exact (En.kxs c h 17 (by decide)).trans (by simp)⟩
theorem yk_BadPat (En : Env K mg) : ∀ c, c < 26 → ExcK (tab K).K ((tab K).cl c) ∧ PySem.W.kitOne (tab K).K (.ref ((tab K).cl c)) (.ref ((tab K).cl 1)) = some ((fun c => decide (c = 1)) c) := fun c h => ⟨exks En c (Nat.zero_le _) h, by rw [cl_exn c h]; exact (En.kxs c h 1 (by decide)).trans (by simp)⟩
theorem yk_BadPlace (En : Env K mg) : ∀ c, c < 26 → ExcK (tab K).K ((tab K).cl c) ∧ PySem.W.kitOne (tab K).K (.ref ((tab K).cl c)) (.ref ((tab K).cl 19)) = some ((fun c => decide (c = 19)) c) := fun c h => ⟨exks En c (Nat.zero_le _) h, by rw [cl_exn c h]; exact (En.kxs c h 19 (by decide)).trans (by simp)⟩
theorem yk_BadRing (En : Env K mg) : ∀ c, c < 26 → ExcK (tab K).K ((tab K).cl c) ∧ PySem.W.kitOne (tab K).K (.ref ((tab K).cl c)) (.ref ((tab K).cl 3)) = some ((fun c => decide (c = 3)) c) := fun c h => ⟨exks En c (Nat.zero_le _) h, by rw [cl_exn c h]; exact (En.kxs c h 3 (by decide)).trans (by simp)⟩
theorem yk_BadSay (En : Env K mg) : ∀ c, c < 26 → ExcK (tab K).K ((tab K).cl c) ∧ PySem.W.kitOne (tab K).K (.ref ((tab K).cl c)) (.ref ((tab K).cl 25)) = some ((fun c => decide (c = 25)) c) := fun c h => ⟨exks En c (Nat.zero_le _) h, by rw [cl_exn c h]; exact (En.kxs c h 25 (by decide)).trans (by simp)⟩
theorem yk_BadScript (En : Env K mg) : ∀ c, c < 26 → ExcK (tab K).K ((tab K).cl c) ∧ PySem.W.kitOne (tab K).K (.ref ((tab K).cl c)) (.ref ((tab K).cl 9)) = some ((fun c => decide (c = 9)) c) := fun c h => ⟨exks En c (Nat.zero_le _) h, by rw [cl_exn c h]; exact (En.kxs c h 9 (by decide)).trans (by simp)⟩
theorem yk_BadStep (En : Env K mg) : ∀ c, c < 26 → ExcK (tab K).K ((tab K).cl c) ∧ PySem.W.kitOne (tab K).K (.ref ((tab K).cl c)) (.ref ((tab K).cl 15)) = some ((fun c => decide (c = 15)) c) := fun c h => ⟨exks En c (Nat.zero_le _) h, by rw [cl_exn c h]; exact (En.kxs c h 15 (by decide)).trans (by simp)⟩
theorem yk_BadValues (En : Env K mg) : ∀ c, c < 26 → ExcK (tab K).K ((tab K).cl c) ∧ PySem.W.kitOne (tab K).K (.ref ((tab K).cl c)) (.ref ((tab K).cl 2)) = some ((fun c => decide (c = 2)) c) := fun c h => ⟨exks En c (Nat.zero_le _) h, by rw [cl_exn c h]; exact (En.kxs c h 2 (by decide)).trans (by simp)⟩
theorem yk_BadWishes (En : Env K mg) : ∀ c, c < 26 → ExcK (tab K).K ((tab K).cl c) ∧ PySem.W.kitOne (tab K).K (.ref ((tab K).cl c)) (.ref ((tab K).cl 18)) = some ((fun c => decide (c = 18)) c) := fun c h => ⟨exks En c (Nat.zero_le _) h, by rw [cl_exn c h]; exact (En.kxs c h 18 (by decide)).trans (by simp)⟩
theorem yk_Endless (En : Env K mg) : ∀ c, c < 26 → ExcK (tab K).K ((tab K).cl c) ∧ PySem.W.kitOne (tab K).K (.ref ((tab K).cl c)) (.ref ((tab K).cl 11)) = some ((fun c => decide (c = 11)) c) := fun c h => ⟨exks En c (Nat.zero_le _) h, by rw [cl_exn c h]; exact (En.kxs c h 11 (by decide)).trans (by simp)⟩
theorem yk_FlexError (En : Env K mg) : ∀ c, c < 26 → ExcK (tab K).K ((tab K).cl c) ∧ PySem.W.kitOne (tab K).K (.ref ((tab K).cl c)) (.ref ((tab K).cl 0)) = some ((fun c => true) c) := fun c h => ⟨exks En c (Nat.zero_le _) h, by rw [cl_exn c h]; exact (En.kxs c h 0 (by decide)).trans (by simp)⟩
theorem yk_NoFlex (En : Env K mg) : ∀ c, c < 26 → ExcK (tab K).K ((tab K).cl c) ∧ PySem.W.kitOne (tab K).K (.ref ((tab K).cl c)) (.ref ((tab K).cl 8)) = some ((fun c => decide (c = 8)) c) := fun c h => ⟨exks En c (Nat.zero_le _) h, by rw [cl_exn c h]; exact (En.kxs c h 8 (by decide)).trans (by simp)⟩
theorem yk_NoGo (En : Env K mg) : ∀ c, c < 26 → ExcK (tab K).K ((tab K).cl c) ∧ PySem.W.kitOne (tab K).K (.ref ((tab K).cl c)) (.ref ((tab K).cl 6)) = some ((fun c => decide (c = 6)) c) := fun c h => ⟨exks En c (Nat.zero_le _) h, by rw [cl_exn c h]; exact (En.kxs c h 6 (by decide)).trans (by simp)⟩
theorem yk_NoRing (En : Env K mg) : ∀ c, c < 26 → ExcK (tab K).K ((tab K).cl c) ∧ PySem.W.kitOne (tab K).K (.ref ((tab K).cl c)) (.ref ((tab K).cl 16)) = some ((fun c => decide (c = 16)) c) := fun c h => ⟨exks En c (Nat.zero_le _) h, by rw [cl_exn c h]; exact (En.kxs c h 16 (by decide)).trans (by simp)⟩
theorem yk_NoTrial (En : Env K mg) : ∀ c, c < 26 → ExcK (tab K).K ((tab K).cl c) ∧ PySem.W.kitOne (tab K).K (.ref ((tab K).cl c)) (.ref ((tab K).cl 23)) = some ((fun c => decide (c = 23)) c) := fun c h => ⟨exks En c (Nat.zero_le _) h, by rw [cl_exn c h]; exact (En.kxs c h 23 (by decide)).trans (by simp)⟩
theorem yk_NothingToRedo (En : Env K mg) : ∀ c, c < 26 → ExcK (tab K).K ((tab K).cl c) ∧ PySem.W.kitOne (tab K).K (.ref ((tab K).cl c)) (.ref ((tab K).cl 22)) = some ((fun c => decide (c = 22)) c) := fun c h => ⟨exks En c (Nat.zero_le _) h, by rw [cl_exn c h]; exact (En.kxs c h 22 (by decide)).trans (by simp)⟩
theorem yk_NothingToUndo (En : Env K mg) : ∀ c, c < 26 → ExcK (tab K).K ((tab K).cl c) ∧ PySem.W.kitOne (tab K).K (.ref ((tab K).cl c)) (.ref ((tab K).cl 21)) = some ((fun c => decide (c = 21)) c) := fun c h => ⟨exks En c (Nat.zero_le _) h, by rw [cl_exn c h]; exact (En.kxs c h 21 (by decide)).trans (by simp)⟩
theorem yk_Stuck (En : Env K mg) : ∀ c, c < 26 → ExcK (tab K).K ((tab K).cl c) ∧ PySem.W.kitOne (tab K).K (.ref ((tab K).cl c)) (.ref ((tab K).cl 10)) = some ((fun c => decide (c = 10)) c) := fun c h => ⟨exks En c (Nat.zero_le _) h, by rw [cl_exn c h]; exact (En.kxs c h 10 (by decide)).trans (by simp)⟩
theorem yk_TooGreat (En : Env K mg) : ∀ c, c < 26 → ExcK (tab K).K ((tab K).cl c) ∧ PySem.W.kitOne (tab K).K (.ref ((tab K).cl c)) (.ref ((tab K).cl 20)) = some ((fun c => decide (c = 20)) c) := fun c h => ⟨exks En c (Nat.zero_le _) h, by rw [cl_exn c h]; exact (En.kxs c h 20 (by decide)).trans (by simp)⟩
theorem yk_TooMany (En : Env K mg) : ∀ c, c < 26 → ExcK (tab K).K ((tab K).cl c) ∧ PySem.W.kitOne (tab K).K (.ref ((tab K).cl c)) (.ref ((tab K).cl 12)) = some ((fun c => decide (c = 12)) c) := fun c h => ⟨exks En c (Nat.zero_le _) h, by rw [cl_exn c h]; exact (En.kxs c h 12 (by decide)).trans (by simp)⟩
def N__law_made : List Str := ["_law_value", "_law_found"]
theorem sc__law_made : FnScope N__law_made ["_law_value"] (defScope (top 28)) := ⟨rfl, rfl, rfl, by decide +kernel, rfl, by decide +kernel, by decide +kernel⟩
theorem ok__law_made {fd : FuncData} (En : Env K mg) (IF : IniF P K (He.ga K "FlexError") (He.ma K (He.ga K "FlexError") "__init__")) (D : FnP K "_law_made" "_law_made" (top 28) (He.ga K "_law_made") fd) (Sq : Fx.Spec) (hlen : ∀ as Kn Kx, Sq as Kn Kx → as.length = 1) (hread : ∀ as Kn Kx, Sq as Kn Kx → t__law_made (sRets as Kn) (initG 2 as)) : FnGO P w K mg base (L2N.CX P w) (k + 2) (He.ga K "_law_made") fd ["_law_value"] (spOf (tab K) Sq) := by
  refine fn_ok (N := N__law_made) (tf := fun _ => t__law_made) D rfl sc__law_made hlen (fun cdv hcode A outer s H E F W hr hp => ?_) hread
  have nd := (sc__law_made).nd
  exact pdb_cons (pds_set 1 (pd_lst (pdl_cons (pd_exc 1 IF En.ic_BadPat hr En.n_super En.f_BadPat (pd_var 0)) (pdl_cons (pd_exc 2 IF En.ic_BadValues hr En.n_super En.f_BadValues (pd_var 0)) (pdl_cons (pd_exc 3 IF En.ic_BadRing hr En.n_super En.f_BadRing (pd_var 0)) (pdl_cons (pd_exc 4 IF En.ic_BadNumber hr En.n_super En.f_BadNumber (pd_var 0)) (pdl_nil)))))) nd) (pdb_cons (pds_expr (pd_extend 1 (pd_lst (pdl_cons (pd_exc 5 IF En.ic_BadMove hr En.n_super En.f_BadMove (pd_var 0)) (pdl_cons (pd_exc 6 IF En.ic_NoGo hr En.n_super En.f_NoGo (pd_var 0)) (pdl_cons (pd_exc 7 IF En.ic_BadBook hr En.n_super En.f_BadBook (pd_var 0)) (pdl_cons (pd_exc 8 IF En.ic_NoFlex hr En.n_super En.f_NoFlex (pd_var 0)) (pdl_nil)))))))) (pdb_cons (pds_expr (pd_extend 1 (pd_lst (pdl_cons (pd_exc 9 IF En.ic_BadScript hr En.n_super En.f_BadScript (pd_var 0)) (pdl_cons (pd_exc 10 IF En.ic_Stuck hr En.n_super En.f_Stuck (pd_var 0)) (pdl_cons (pd_exc 11 IF En.ic_Endless hr En.n_super En.f_Endless (pd_var 0)) (pdl_cons (pd_exc 12 IF En.ic_TooMany hr En.n_super En.f_TooMany (pd_var 0)) (pdl_nil)))))))) (pdb_cons (pds_expr (pd_extend 1 (pd_lst (pdl_cons (pd_exc 13 IF En.ic_BadAbove hr En.n_super En.f_BadAbove (pd_var 0)) (pdl_cons (pd_exc 14 IF En.ic_BadLog hr En.n_super En.f_BadLog (pd_var 0)) (pdl_cons (pd_exc 15 IF En.ic_BadStep hr En.n_super En.f_BadStep (pd_var 0)) (pdl_cons (pd_exc 16 IF En.ic_NoRing hr En.n_super En.f_NoRing (pd_var 0)) (pdl_nil)))))))) (pdb_cons (pds_expr (pd_extend 1 (pd_lst (pdl_cons (pd_exc 17 IF En.ic_BadOffers hr En.n_super En.f_BadOffers (pd_var 0)) (pdl_cons (pd_exc 18 IF En.ic_BadWishes hr En.n_super En.f_BadWishes (pd_var 0)) (pdl_cons (pd_exc 19 IF En.ic_BadPlace hr En.n_super En.f_BadPlace (pd_var 0)) (pdl_cons (pd_exc 20 IF En.ic_TooGreat hr En.n_super En.f_TooGreat (pd_var 0)) (pdl_nil)))))))) (pdb_cons (pds_expr (pd_extend 1 (pd_lst (pdl_cons (pd_exc 21 IF En.ic_NothingToUndo hr En.n_super En.f_NothingToUndo (pd_var 0)) (pdl_cons (pd_exc 22 IF En.ic_NothingToRedo hr En.n_super En.f_NothingToRedo (pd_var 0)) (pdl_cons (pd_exc 23 IF En.ic_NoTrial hr En.n_super En.f_NoTrial (pd_var 0)) (pdl_cons (pd_exc 24 IF En.ic_BadJournal hr En.n_super En.f_BadJournal (pd_var 0)) (pdl_nil)))))))) (pdb_cons (pds_expr (pd_extend 1 (pd_lst (pdl_cons (pd_exc 25 IF En.ic_BadSay hr En.n_super En.f_BadSay (pd_var 0)) (pdl_nil))))) (pdb_one (pds_ret (pd_var 1)))))))))
theorem b__law_made {fd : FuncData} (D : FnP K "_law_made" "_law_made" (top 28) (He.ga K "_law_made") fd) : Binds K fd ["_law_value"] [] := D.bindsN fun _ _ _ _ _ _ us hl => match us, hl with | [_], _ => rfl
def N__law_marked : List Str := ["_law_error", "_law_found"]
theorem sc__law_marked : FnScope N__law_marked ["_law_error"] (defScope (top 29)) := ⟨rfl, rfl, rfl, by decide +kernel, rfl, by decide +kernel, by decide +kernel⟩
theorem ok__law_marked {fd : FuncData} (En : Env K mg) (D : FnP K "_law_marked" "_law_marked" (top 29) (He.ga K "_law_marked") fd) (Sq : Fx.Spec) (hlen : ∀ as Kn Kx, Sq as Kn Kx → as.length = 1) (hread : ∀ as Kn Kx, Sq as Kn Kx → t__law_marked (sRets as Kn) (initG 2 as)) : FnGO P w K mg base (L2N.CX P w) (k + 2) (He.ga K "_law_marked") fd ["_law_error"] (spOf (tab K) Sq) := by
  refine fn_ok (N := N__law_marked) (tf := fun _ => t__law_marked) D rfl sc__law_marked hlen (fun cdv hcode A outer s H E F W hr hp => ?_) hread
  have nd := (sc__law_marked).nd
  exact pdb_cons (pds_set 1 (pd_lst (pdl_cons (pd_callB (cd_isY (fun _ _ h => by cases h; exact .own _) (yk_BadPat En) (kv_own En 1 (by decide))) En.n_isinstance (pdo_cons (pd_var 0) (pdo_cons (pd_gcls 1 En.f_BadPat) pdo_nil))) (pdl_cons (pd_callB (cd_isY (fun _ _ h => by cases h; exact .own _) (yk_BadValues En) (kv_own En 2 (by decide))) En.n_isinstance (pdo_cons (pd_var 0) (pdo_cons (pd_gcls 2 En.f_BadValues) pdo_nil))) (pdl_cons (pd_callB (cd_isY (fun _ _ h => by cases h; exact .own _) (yk_BadRing En) (kv_own En 3 (by decide))) En.n_isinstance (pdo_cons (pd_var 0) (pdo_cons (pd_gcls 3 En.f_BadRing) pdo_nil))) (pdl_nil))))) nd) (pdb_cons (pds_expr (pd_extend 1 (pd_lst (pdl_cons (pd_callB (cd_isY (fun _ _ h => by cases h; exact .own _) (yk_BadNumber En) (kv_own En 4 (by decide))) En.n_isinstance (pdo_cons (pd_var 0) (pdo_cons (pd_gcls 4 En.f_BadNumber) pdo_nil))) (pdl_cons (pd_callB (cd_isY (fun _ _ h => by cases h; exact .own _) (yk_BadMove En) (kv_own En 5 (by decide))) En.n_isinstance (pdo_cons (pd_var 0) (pdo_cons (pd_gcls 5 En.f_BadMove) pdo_nil))) (pdl_cons (pd_callB (cd_isY (fun _ _ h => by cases h; exact .own _) (yk_NoGo En) (kv_own En 6 (by decide))) En.n_isinstance (pdo_cons (pd_var 0) (pdo_cons (pd_gcls 6 En.f_NoGo) pdo_nil))) (pdl_nil))))))) (pdb_cons (pds_expr (pd_extend 1 (pd_lst (pdl_cons (pd_callB (cd_isY (fun _ _ h => by cases h; exact .own _) (yk_BadBook En) (kv_own En 7 (by decide))) En.n_isinstance (pdo_cons (pd_var 0) (pdo_cons (pd_gcls 7 En.f_BadBook) pdo_nil))) (pdl_cons (pd_callB (cd_isY (fun _ _ h => by cases h; exact .own _) (yk_NoFlex En) (kv_own En 8 (by decide))) En.n_isinstance (pdo_cons (pd_var 0) (pdo_cons (pd_gcls 8 En.f_NoFlex) pdo_nil))) (pdl_cons (pd_callB (cd_isY (fun _ _ h => by cases h; exact .own _) (yk_BadScript En) (kv_own En 9 (by decide))) En.n_isinstance (pdo_cons (pd_var 0) (pdo_cons (pd_gcls 9 En.f_BadScript) pdo_nil))) (pdl_nil))))))) (pdb_cons (pds_expr (pd_extend 1 (pd_lst (pdl_cons (pd_callB (cd_isY (fun _ _ h => by cases h; exact .own _) (yk_Stuck En) (kv_own En 10 (by decide))) En.n_isinstance (pdo_cons (pd_var 0) (pdo_cons (pd_gcls 10 En.f_Stuck) pdo_nil))) (pdl_cons (pd_callB (cd_isY (fun _ _ h => by cases h; exact .own _) (yk_Endless En) (kv_own En 11 (by decide))) En.n_isinstance (pdo_cons (pd_var 0) (pdo_cons (pd_gcls 11 En.f_Endless) pdo_nil))) (pdl_cons (pd_callB (cd_isY (fun _ _ h => by cases h; exact .own _) (yk_TooMany En) (kv_own En 12 (by decide))) En.n_isinstance (pdo_cons (pd_var 0) (pdo_cons (pd_gcls 12 En.f_TooMany) pdo_nil))) (pdl_nil))))))) (pdb_cons (pds_expr (pd_extend 1 (pd_lst (pdl_cons (pd_callB (cd_isY (fun _ _ h => by cases h; exact .own _) (yk_BadAbove En) (kv_own En 13 (by decide))) En.n_isinstance (pdo_cons (pd_var 0) (pdo_cons (pd_gcls 13 En.f_BadAbove) pdo_nil))) (pdl_cons (pd_callB (cd_isY (fun _ _ h => by cases h; exact .own _) (yk_BadLog En) (kv_own En 14 (by decide))) En.n_isinstance (pdo_cons (pd_var 0) (pdo_cons (pd_gcls 14 En.f_BadLog) pdo_nil))) (pdl_cons (pd_callB (cd_isY (fun _ _ h => by cases h; exact .own _) (yk_BadStep En) (kv_own En 15 (by decide))) En.n_isinstance (pdo_cons (pd_var 0) (pdo_cons (pd_gcls 15 En.f_BadStep) pdo_nil))) (pdl_nil))))))) (pdb_cons (pds_expr (pd_extend 1 (pd_lst (pdl_cons (pd_callB (cd_isY (fun _ _ h => by cases h; exact .own _) (yk_NoRing En) (kv_own En 16 (by decide))) En.n_isinstance (pdo_cons (pd_var 0) (pdo_cons (pd_gcls 16 En.f_NoRing) pdo_nil))) (pdl_cons (pd_callB (cd_isY (fun _ _ h => by cases h; exact .own _) (yk_BadOffers En) (kv_own En 17 (by decide))) En.n_isinstance (pdo_cons (pd_var 0) (pdo_cons (pd_gcls 17 En.f_BadOffers) pdo_nil))) (pdl_cons (pd_callB (cd_isY (fun _ _ h => by cases h; exact .own _) (yk_BadWishes En) (kv_own En 18 (by decide))) En.n_isinstance (pdo_cons (pd_var 0) (pdo_cons (pd_gcls 18 En.f_BadWishes) pdo_nil))) (pdl_nil))))))) (pdb_cons (pds_expr (pd_extend 1 (pd_lst (pdl_cons (pd_callB (cd_isY (fun _ _ h => by cases h; exact .own _) (yk_BadPlace En) (kv_own En 19 (by decide))) En.n_isinstance (pdo_cons (pd_var 0) (pdo_cons (pd_gcls 19 En.f_BadPlace) pdo_nil))) (pdl_cons (pd_callB (cd_isY (fun _ _ h => by cases h; exact .own _) (yk_TooGreat En) (kv_own En 20 (by decide))) En.n_isinstance (pdo_cons (pd_var 0) (pdo_cons (pd_gcls 20 En.f_TooGreat) pdo_nil))) (pdl_cons (pd_callB (cd_isY (fun _ _ h => by cases h; exact .own _) (yk_NothingToUndo En) (kv_own En 21 (by decide))) En.n_isinstance (pdo_cons (pd_var 0) (pdo_cons (pd_gcls 21 En.f_NothingToUndo) pdo_nil))) (pdl_nil))))))) (pdb_cons (pds_expr (pd_extend 1 (pd_lst (pdl_cons (pd_callB (cd_isY (fun _ _ h => by cases h; exact .own _) (yk_NothingToRedo En) (kv_own En 22 (by decide))) En.n_isinstance (pdo_cons (pd_var 0) (pdo_cons (pd_gcls 22 En.f_NothingToRedo) pdo_nil))) (pdl_cons (pd_callB (cd_isY (fun _ _ h => by cases h; exact .own _) (yk_NoTrial En) (kv_own En 23 (by decide))) En.n_isinstance (pdo_cons (pd_var 0) (pdo_cons (pd_gcls 23 En.f_NoTrial) pdo_nil))) (pdl_cons (pd_callB (cd_isY (fun _ _ h => by cases h; exact .own _) (yk_BadJournal En) (kv_own En 24 (by decide))) En.n_isinstance (pdo_cons (pd_var 0) (pdo_cons (pd_gcls 24 En.f_BadJournal) pdo_nil))) (pdl_nil))))))) (pdb_cons (pds_expr (pd_extend 1 (pd_lst (pdl_cons (pd_callB (cd_isY (fun _ _ h => by cases h; exact .own _) (yk_BadSay En) (kv_own En 25 (by decide))) En.n_isinstance (pdo_cons (pd_var 0) (pdo_cons (pd_gcls 25 En.f_BadSay) pdo_nil))) (pdl_nil))))) (pdb_one (pds_ret (pd_var 1)))))))))))
theorem b__law_marked {fd : FuncData} (D : FnP K "_law_marked" "_law_marked" (top 29) (He.ga K "_law_marked") fd) : Binds K fd ["_law_error"] [] := D.bindsN fun _ _ _ _ _ _ us hl => match us, hl with | [_], _ => rfl
def N__law_is_kept : List Str := ["_law_value", "_law_number", "_law_error", "_law_base", "_law_at"]
theorem sc__law_is_kept : FnScope N__law_is_kept ["_law_value"] (defScope (top 30)) := ⟨rfl, rfl, rfl, by decide +kernel, rfl, by decide +kernel, by decide +kernel⟩
theorem ok__law_is_kept {c__law_made c__law_marked : Fx.Spec} {fd : FuncData} (En : Env K mg) (F__law_made : FnG P w K mg base (L2N.CX P w) k (He.ga K "_law_made") (spOf (tab K) c__law_made)) (F__law_marked : FnG P w K mg base (L2N.CX P w) k (He.ga K "_law_marked") (spOf (tab K) c__law_marked)) (IF : IniF P K (He.ga K "FlexError") (He.ma K (He.ga K "FlexError") "__init__")) (D : FnP K "_law_is_kept" "_law_is_kept" (top 30) (He.ga K "_law_is_kept") fd) (Sq : Fx.Spec) (hlen : ∀ as Kn Kx, Sq as Kn Kx → as.length = 1) (hread : ∀ as Kn Kx, Sq as Kn Kx → t__law_is_kept c__law_made c__law_marked (sRets as Kn) (initG 5 as)) : FnGO P w K mg base (L2N.CX P w) (k + 2) (He.ga K "_law_is_kept") fd ["_law_value"] (spOf (tab K) Sq) := by
  refine fn_ok (N := N__law_is_kept) (tf := fun _ => t__law_is_kept c__law_made c__law_marked) D rfl sc__law_is_kept hlen (fun cdv hcode A outer s H E F W hr hp => ?_) hread
  have nd := (sc__law_is_kept).nd
  exact pdb_cons (pds_for (passes_of rfl) (pdi_enum En.n_enumerate (pd_call F__law_made (hr.mono (Nat.le_succ _)) En.f__law_made En.k__law_made pN (pdq_fz (pd_var 0) (pdq_nil)))) (pdg_un [1, 2] (pgs_names_cons nd (pgs_names_cons nd (pgs_names_nil))) (hl := (by decide : ∀ i ∈ ([1, 2] : List Nat), i < N__law_is_kept.length))) (pdb_cons (pds_if (PDV.t (pdv_or (pdt_cmp (opd_ne hr.rm) (pd_call F__law_marked (hr.mono (Nat.le_succ _)) En.f__law_marked En.k__law_marked pN (pdq_fz (pd_var 2) (pdq_nil))) (pd_lc (own := [("_law_at", 4)]) nd (pdi_range1 En.n_range (pd_int)) (blk_of (N := N__law_is_kept) (sc := defScope (top 30)) (by decide +kernel)) (fun _ _ _ _ _ => pdc_name 4 nd) (fun _ _ _ _ _ => pdts_nil) (fun _ _ _ _ _ => pd_cmp (opd_eq hr.rm) (pd_var 4) (pd_var 1)))) (pdv_or1 (pdt_cmp (opd_ne hr.rm) (pd_callB (cd_reprX (hr.mono (Nat.zero_le _))) En.n_repr (pdo_cons (pd_val (pd_var 2) (exks En)) (pdo_nil))) (pd_callB (cd_reprX (hr.mono (Nat.zero_le _))) En.n_repr (pdo_cons (pd_var 0) (pdo_nil))))))) (pdb_one (pds_ret (pd_bl))) (pdb_nil)) (pdb_one (pds_if (PDV.t (pdv_or (pdt_not (pdt_val (pd_callB (cd_isY (fun _ _ h => by cases h; exact .own _) (yk_FlexError En) (kv_own En 0 (by decide))) En.n_isinstance (pdo_cons (pd_var 2) (pdo_cons (pd_gcls 0 En.f_FlexError) pdo_nil))))) (pdv_or1 (pdt_not (pdt_val (pd_callB (cd_isY (fun _ _ h => by cases h; exact .ty _) (yk_VE En) kv_VE) En.n_isinstance (pdo_cons (pd_var 2) (pdo_cons (pd_gty En.n_ValueError) pdo_nil)))))))) (pdb_one (pds_ret (pd_bl))) (pdb_nil))))) (pdb_cons (pds_set 3 (pd_exc 0 IF En.ic_FlexError hr En.n_super En.f_FlexError (pd_var 0)) nd) (pdb_cons (pds_if (PDV.t (pdv_or (pdt_cmp (opd_ne hr.rm) (pd_callB (cd_reprX (hr.mono (Nat.zero_le _))) En.n_repr (pdo_cons (pd_val (pd_var 3) (exks En)) (pdo_nil))) (pd_callB (cd_reprX (hr.mono (Nat.zero_le _))) En.n_repr (pdo_cons (pd_var 0) (pdo_nil)))) (pdv_or (pdt_cmp opd_in (pd_bl) (pd_call F__law_marked (hr.mono (Nat.le_succ _)) En.f__law_marked En.k__law_marked pN (pdq_fz (pd_var 3) (pdq_nil)))) (pdv_or1 (pdt_not (pdt_val (pd_callB (cd_isY (fun _ _ h => by cases h; exact .ty _) (yk_VE En) kv_VE) En.n_isinstance (pdo_cons (pd_var 3) (pdo_cons (pd_gty En.n_ValueError) pdo_nil))))))))) (pdb_one (pds_ret (pd_bl))) (pdb_nil)) (pdb_one (pds_ret (pd_cmp opd_notIn (pd_bl) (pd_call F__law_marked (hr.mono (Nat.le_succ _)) En.f__law_marked En.k__law_marked pN (pdq_fz (pd_veE En.n_ValueError (pd_var 0)) (pdq_nil))))))))
theorem b__law_is_kept {fd : FuncData} (D : FnP K "_law_is_kept" "_law_is_kept" (top 30) (He.ga K "_law_is_kept") fd) : Binds K fd ["_law_value"] [] := D.bindsN fun _ _ _ _ _ _ us hl => match us, hl with | [_], _ => rfl
def N_law : List Str := ["_law_script", "_law_cell", "_law_some", "_law_value"]
theorem sc_law : FnScope N_law ["_law_script"] (defScope (top 31)) := ⟨rfl, rfl, rfl, by decide +kernel, rfl, by decide +kernel, by decide +kernel⟩
theorem ok_law {c__law_is_kept : Fx.Spec} {fd : FuncData} (En : Env K mg) (F__law_is_kept : FnG P w K mg base (L2N.CX P w) k (He.ga K "_law_is_kept") (spOf (tab K) c__law_is_kept)) (D : FnP K "law" "law" (top 31) (He.ga K "law") fd) (Sq : Fx.Spec) (hlen : ∀ as Kn Kx, Sq as Kn Kx → as.length = 1) (hread : ∀ as Kn Kx, Sq as Kn Kx → t_law c__law_is_kept (sRets as Kn) (initG 4 as)) : FnGO P w K mg base (L2N.CX P w) (k + 2) (He.ga K "law") fd ["_law_script"] (spOf (tab K) Sq) := by
  refine fn_ok (N := N_law) (tf := fun _ => t_law c__law_is_kept) D rfl sc_law hlen (fun cdv hcode A outer s H E F W hr hp => ?_) hread
  have nd := (sc_law).nd
  exact pdb_cons (pds_set 1 (pd_bin opd_mod (pd_callTy (cd_int) En.n_int (pdo_cons (pd_if (pdt_cmp (opd_ne hr.rm) (pd_var 0) (pd_lst (pdl_nil))) (pd_ix (pd_var 0) (pd_int)) (pd_int)) (pdo_nil))) (pd_bin opd_pow (pd_int) (pd_int))) nd) (pdb_cons (pds_set 2 (pd_lst (pdl_cons (pd_non) (pdl_cons (pd_var 1) (pdl_cons (pd_neg (pd_var 1)) (pdl_cons (pd_bl) (pdl_cons (pd_bin opd_add (pd_str) (pd_callTy (cd_strI) En.n_str (pdo_cons (pd_var 1) (pdo_nil)))) (pdl_cons (pd_tup (pdl_cons (pd_var 1) (pdl_cons (pd_str) (pdl_nil)))) (pdl_cons (pd_lst (pdl_cons (pd_var 1) (pdl_nil))) (pdl_cons (pd_dct (allG_cons (allG_nil)) (pdp_cons (allG_nil) (pd_str) (pd_var 1) (pdp_nil))) (pdl_cons (pd_tup (pdl_nil)) (pdl_cons (pd_tup (pdl_cons (pd_tup (pdl_cons (pd_var 1) (pdl_cons (pd_non) (pdl_nil)))) (pdl_cons (pd_lst (pdl_nil)) (pdl_nil)))) (pdl_nil)))))))))))) nd) (pdb_one (pds_ret (pd_callB (cd_all) En.n_all (pdo_cons (pd_lc (own := [("_law_value", 3)]) nd (pdi_any (pd_var 2)) (blk_of (N := N_law) (sc := defScope (top 31)) (by decide +kernel)) (fun _ _ _ _ _ => pdc_name 3 nd) (fun _ _ _ _ _ => pdts_nil) (fun _ _ _ _ _ => pd_call F__law_is_kept (hr.mono (Nat.le_succ _)) En.f__law_is_kept En.k__law_is_kept pN (pdq_fz (pd_var 3) (pdq_nil)))) (pdo_nil))))))
theorem b_law {fd : FuncData} (D : FnP K "law" "law" (top 31) (He.ga K "law") fd) : Binds K fd ["_law_script"] [] := D.bindsN fun _ _ _ _ _ _ us hl => match us, hl with | [_], _ => rfl
end
theorem env {K : PySem.W.Frag} {h : Heap} {mg : Str → Option Value} (X : K.In h) (Gm : h.Ns mainGlobals mg) (c : SaysF ex fn K) : Env K mg := ⟨exckB_ok (c.fact 0 rfl), exckB_ok (c.fact 1 rfl), exckB_ok (c.fact 2 rfl), exckB_ok (c.fact 3 rfl), exckB_ok (c.fact 4 rfl), exckB_ok (c.fact 5 rfl), exckB_ok (c.fact 6 rfl), exckB_ok (c.fact 7 rfl), exckB_ok (c.fact 8 rfl), exckB_ok (c.fact 9 rfl), exckB_ok (c.fact 10 rfl), exckB_ok (c.fact 11 rfl), exckB_ok (c.fact 12 rfl), exckB_ok (c.fact 13 rfl), exckB_ok (c.fact 14 rfl), exckB_ok (c.fact 15 rfl), exckB_ok (c.fact 16 rfl), exckB_ok (c.fact 17 rfl), exckB_ok (c.fact 18 rfl), exckB_ok (c.fact 19 rfl), exckB_ok (c.fact 20 rfl), exckB_ok (c.fact 21 rfl), exckB_ok (c.fact 22 rfl), exckB_ok (c.fact 23 rfl), exckB_ok (c.fact 24 rfl), exckB_ok (c.fact 25 rfl), He.glo_ok X Gm (c.fact 26 rfl), He.glo_ok X Gm (c.fact 27 rfl), He.glo_ok X Gm (c.fact 28 rfl), He.glo_ok X Gm (c.fact 29 rfl), He.glo_ok X Gm (c.fact 30 rfl), He.glo_ok X Gm (c.fact 31 rfl), He.glo_ok X Gm (c.fact 32 rfl), He.glo_ok X Gm (c.fact 33 rfl), He.glo_ok X Gm (c.fact 34 rfl), He.glo_ok X Gm (c.fact 35 rfl), He.glo_ok X Gm (c.fact 36 rfl), He.glo_ok X Gm (c.fact 37 rfl), He.glo_ok X Gm (c.fact 38 rfl), He.glo_ok X Gm (c.fact 39 rfl), He.glo_ok X Gm (c.fact 40 rfl), He.glo_ok X Gm (c.fact 41 rfl), He.glo_ok X Gm (c.fact 42 rfl), He.glo_ok X Gm (c.fact 43 rfl), He.glo_ok X Gm (c.fact 44 rfl), He.glo_ok X Gm (c.fact 45 rfl), He.glo_ok X Gm (c.fact 46 rfl), He.glo_ok X Gm (c.fact 47 rfl), He.glo_ok X Gm (c.fact 48 rfl), He.glo_ok X Gm (c.fact 49 rfl), He.glo_ok X Gm (c.fact 50 rfl), He.glo_ok X Gm (c.fact 51 rfl), He.glo_ok X Gm (c.fact 52 rfl), He.glo_ok X Gm (c.fact 53 rfl), He.glo_ok X Gm (c.fact 54 rfl), He.glo_ok X Gm (c.fact 55 rfl), iniCB_ok (c.fact 56 rfl), iniCB_ok (c.fact 57 rfl), iniCB_ok (c.fact 58 rfl), iniCB_ok (c.fact 59 rfl), iniCB_ok (c.fact 60 rfl), iniCB_ok (c.fact 61 rfl), iniCB_ok (c.fact 62 rfl), iniCB_ok (c.fact 63 rfl), iniCB_ok (c.fact 64 rfl), iniCB_ok (c.fact 65 rfl), iniCB_ok (c.fact 66 rfl), iniCB_ok (c.fact 67 rfl), iniCB_ok (c.fact 68 rfl), iniCB_ok (c.fact 69 rfl), iniCB_ok (c.fact 70 rfl), iniCB_ok (c.fact 71 rfl), iniCB_ok (c.fact 72 rfl), iniCB_ok (c.fact 73 rfl), iniCB_ok (c.fact 74 rfl), iniCB_ok (c.fact 75 rfl), iniCB_ok (c.fact 76 rfl), iniCB_ok (c.fact 77 rfl), iniCB_ok (c.fact 78 rfl), iniCB_ok (c.fact 79 rfl), iniCB_ok (c.fact 80 rfl), iniCB_ok (c.fact 81 rfl), He.keep_ok (c.fact 82 rfl), He.keep_ok (c.fact 83 rfl), He.keep_ok (c.fact 84 rfl), He.free_ok X Gm (c.fact 85 rfl), He.free_ok X Gm (c.fact 86 rfl), He.free_ok X Gm (c.fact 87 rfl), He.free_ok X Gm (c.fact 88 rfl), He.free_ok X Gm (c.fact 89 rfl), He.free_ok X Gm (c.fact 90 rfl), He.free_ok X Gm (c.fact 91 rfl), He.free_ok X Gm (c.fact 92 rfl), He.free_ok X Gm (c.fact 93 rfl), kxs_ok (c.fact 94 rfl), kvs_ok (c.fact 95 rfl), kws_ok (c.fact 96 rfl)⟩
end Lk00
end
section
set_option linter.all false
set_option maxRecDepth 100000
set_option maxHeartbeats 1000000
set_option exponentiation.threshold 20000
namespace Fx
open PySem PySem.Spec PyProof.Rows L2 SX
def Pot (k : Nat) (ds : List D) : Prop := ∃ a b c : Int, ds = [.int a, .int b, .int c] ∧ 0 ≤ a ∧ 0 ≤ b ∧ b < 2305843009213693951 ∧ 0 ≤ c ∧ c ≤ k
theorem len_app (x y : Str) : (x ++ y).length = x.length + y.length := strLen_append x y
theorem ofS_eq (a b : String) : (Str.ofString a = Str.ofString b) = (a = b) := by
  refine propext ⟨fun h => ?_, fun h => by rw [h]⟩
  rw [Str.ofString_eq_byList] at h
  have h1 : a.toList.map Char.toNat = b.toList.map Char.toNat := by
    have h2 := congrArg (fun x => x.cps.toList) h
    simpa [Str.ofStringByList] using h2
  have h3 : a.toList = b.toList := (List.map_inj_right fun x y e => Char.ext (UInt32.toNat_inj.mp e)).mp h1
  first
    | exact String.toList_inj.mp h3
    | exact String.ext h3
end Fx
end
section
set_option linter.all false
set_option maxRecDepth 100000
set_option maxHeartbeats 1000000
set_option exponentiation.threshold 20000
namespace Fx
open PySem PySem.Spec PyProof.Rows L2 SX
theorem seq_hide {t u : RS} {D : En} {G : Lo} (h : ∀ N : Lo → Prop, (∀ G', u D G' → N G') → t { D with nx := N } G) : sSeq t u D G := h _ fun _ q => q
theorem ret_hide {as : List Arg} {K : KN} {t : RS} {G : Lo} (h : ∀ D : En, (∀ o G outs r, outsG G 0 0 as = some outs → retG G o = some r → K r outs → D.rt o G) → (∀ G outs, outsG G 0 0 as = some outs → K (.imm .non) outs → D.nx G) → t D G) : t (sRets as K) G :=
  h _ (fun _ _ _ _ a b c => ⟨_, _, a, b, c⟩) fun _ _ a b => ⟨_, a, b⟩
end Fx
end
section
set_option linter.all false
set_option maxRecDepth 100000
set_option maxHeartbeats 1000000
set_option exponentiation.threshold 20000
namespace Fx
open PySem PySem.Spec PyProof.Rows L2 SX
theorem if_hide {c : RT} {t u : RS} {W : En} {G : Lo} (h : ∀ M : Bool → Lo → Prop, (∀ b G1, (if b = true then t W G1 else u W G1) → M b G1) → c G M) : sIf c t u W G := h _ fun _ _ q => q
theorem or_hide {t u : RT} {G : Lo} {K : Bool → Lo → Prop} (h : ∀ M : Bool → Lo → Prop, (∀ b G1, (if b = true then K true G1 else u G1 K) → M b G1) → t G M) : tOr t u G K := h _ fun _ _ q => q
theorem not_hide {t : RT} {G : Lo} {K : Bool → Lo → Prop} (h : ∀ M : Bool → Lo → Prop, (∀ b G1, K (!b) G1 → M b G1) → t G M) : tNot t G K := h _ fun _ _ q => q
theorem bin_hide {g : G2} {ta tb : RE} {G : Lo} {K : Opd → Lo → Prop} (h : ∀ M : Opd → Lo → Prop, (∀ o G1, (tb G1 fun p G2 => g G2 o p K) → M o G1) → ta G M) : tBin g ta tb G K := h _ fun _ _ q => q
theorem tst_hide {t : RE} {G : Lo} {K : Bool → Lo → Prop} (h : ∀ M : Opd → Lo → Prop, (∀ b G1, K b G1 → M (.imm (.bl b)) G1) → t G M) : tTst t G K := h _ fun _ _ q => q
theorem all_true : ∀ j : Nat, blsD (List.replicate j (D.bl true)) = some (List.replicate j true)
  | 0 => rfl
  | j + 1 => by
    show (match blsD (List.replicate j (D.bl true)) with | some l => some (true :: l) | none => none) = _
    rw [all_true j]
    rfl
end Fx
end
section
set_option linter.all false
set_option maxRecDepth 100000
set_option maxHeartbeats 1000000
set_option exponentiation.threshold 20000
namespace Fx
open PySem PySem.Spec PyProof.Rows L2 SX
theorem if_h {c : RT} {t u : RS} {D : En} {G : Lo} (h : ∀ N : Bool → Lo → Prop, (∀ G', t D G' → N true G') → (∀ G', u D G' → N false G') → c G N) : sIf c t u D G :=
  h _ (fun _ q => by rw [if_pos rfl]; exact q) fun _ q => by rw [if_neg Bool.false_ne_true]; exact q
end Fx
end
section
set_option linter.all false
set_option maxRecDepth 100000
set_option maxHeartbeats 1000000
set_option exponentiation.threshold 20000
namespace Fx
open PySem PySem.Spec PyProof.Rows L2 SX
theorem tupleText_le (ts : List Str) : (tupleText ts).length ≤ piled ts + 3 := by
  unfold tupleText
  rw [strLen_append, strLen_append]
  have e1 : ((("(" : String) : Str)).length = 1 := rfl
  have e3 : (((if ts.length == 1 then ",)" else ")" : String) : Str)).length ≤ 2 := by split <;> decide
  rw [e1]
  by_cases h : ts = []
  · subst h
    have : (Str.join ", " []).length = 0 := rfl
    omega
  · have := join_length_add ts h
    omega
theorem piled_le (m : Nat) : ∀ ts : List Str, (∀ t ∈ ts, t.length ≤ m) → piled ts ≤ (m + 2) * ts.length
  | [], _ => by simp [piled]
  | t :: ts, h => by
    have h1 := h t List.mem_cons_self
    have h2 := piled_le m ts fun u hu => h u (List.mem_cons_of_mem _ hu)
    rw [piled_cons, List.length_cons, Nat.mul_succ]
    omega
theorem shownAll_map : ∀ xs : List PyData, PyData.shownAll xs = xs.map PyData.shown
  | [] => rfl
  | x :: xs => by
    show PyData.shown x :: PyData.shownAll xs = _
    rw [shownAll_map xs]
    rfl
theorem shown_tuple (xs : List PyData) (m : Nat) (h : ∀ x ∈ xs, x.shown.length ≤ m) : (PyData.tuple xs).shown.length ≤ (m + 2) * xs.length + 3 := by
  show (tupleText (PyData.shownAll xs)).length ≤ _
  rw [shownAll_map]
  have h1 := tupleText_le (xs.map PyData.shown)
  have h2 := piled_le m (xs.map PyData.shown) fun t ht => by
    obtain ⟨x, hx, rfl⟩ := List.mem_map.mp ht
    exact h x hx
  rw [List.length_map] at h2
  omega
end Fx
end
section
set_option linter.all false
set_option maxRecDepth 100000
set_option maxHeartbeats 1000000
set_option exponentiation.threshold 20000
namespace Fx
open PySem PySem.Spec PyProof.Rows L2 SX
set_option Elab.async false
/-! errors made, marked, kept -/
def exD (v : D) (c : Nat) : D := .exc c v
def S_made : Spec := fun as K _ => ∃ v : D, as = [.imm v] ∧ K (.new (.lst ((List.range' 1 25).map (exD v)))) []
theorem rd_made : ∀ as Kn Kx, S_made as Kn Kx → t__law_made (sRets as Kn) (initG 2 as) := by
  rintro as Kn Kx ⟨v, rfl, q⟩
  have sz : sizeLine = 16777216 := sizeLine_eq
  unfold t__law_made
  refine ret_hide fun D0 hR _ => ?_
  have hR2 : ∀ ds, ds = (List.range' 1 25).map (exD v) → D0.rt (.own 1) [.imm v, .own (.lst ds)] := fun ds e => by subst e; exact hR _ _ [] _ rfl rfl q
  clear hR q
  refine seq_hide fun N1 h1 => ?_
  simp
  refine ⟨by omega, h1 _ (seq_hide fun N2 h2 => ?_)⟩
  simp
  refine ⟨by omega, by omega, h2 _ (seq_hide fun N3 h3 => ?_)⟩
  simp
  refine ⟨by omega, by omega, h3 _ (seq_hide fun N4 h4 => ?_)⟩
  simp
  refine ⟨by omega, by omega, h4 _ (seq_hide fun N5 h5 => ?_)⟩
  simp
  refine ⟨by omega, by omega, h5 _ (seq_hide fun N6 h6 => ?_)⟩
  simp
  refine ⟨by omega, by omega, h6 _ (seq_hide fun N7 h7 => ?_)⟩
  simp
  refine ⟨by omega, by omega, h7 _ ?_⟩
  simp
  exact hR2 _ rfl
def marks (c : Nat) : List D := (List.range 25).map fun j => D.bl (decide (c = j + 1))
def S_marked : Spec := fun as K _ => ∃ (d : D) (c : Nat), as = [.imm d] ∧ c < 26 ∧ (d = .ins 0 [] ∧ c = 0 ∨ ∃ v, d = .exc c v) ∧ K (.new (.lst (marks c))) []
theorem rd_marked : ∀ as Kn Kx, S_marked as Kn Kx → t__law_marked (sRets as Kn) (initG 2 as) := by
  rintro as Kn Kx ⟨d, c, rfl, hc, hd, q⟩
  have sz : sizeLine = 16777216 := sizeLine_eq
  have hy : ∀ (j : Nat), j ≠ 0 → isY 26 (fun c => decide (c = j)) false d = some (decide (c = j)) := fun j hj => by
    rcases hd with ⟨rfl, rfl⟩ | ⟨v, rfl⟩
    · show some false = some (decide (0 = j))
      rw [decide_eq_false (fun z => hj z.symm)]
    · show (if c < 26 then _ else none) = _
      rw [if_pos hc]
  unfold t__law_marked
  refine ret_hide fun D0 hR _ => ?_
  have hR2 : ∀ ds, ds = marks c → D0.rt (.own 1) [.imm d, .own (.lst ds)] := fun ds e => by subst e; exact hR _ _ [] _ rfl rfl q
  clear hR q hd
  refine seq_hide fun N1 h1 => ?_
  simp [-isY, hy]
  refine ⟨by omega, h1 _ (seq_hide fun N2 h2 => ?_)⟩
  simp [-isY, hy]
  refine ⟨by omega, by omega, h2 _ (seq_hide fun N3 h3 => ?_)⟩
  simp [-isY, hy]
  refine ⟨by omega, by omega, h3 _ (seq_hide fun N4 h4 => ?_)⟩
  simp [-isY, hy]
  refine ⟨by omega, by omega, h4 _ (seq_hide fun N5 h5 => ?_)⟩
  simp [-isY, hy]
  refine ⟨by omega, by omega, h5 _ (seq_hide fun N6 h6 => ?_)⟩
  simp [-isY, hy]
  refine ⟨by omega, by omega, h6 _ (seq_hide fun N7 h7 => ?_)⟩
  simp [-isY, hy]
  refine ⟨by omega, by omega, h7 _ (seq_hide fun N8 h8 => ?_)⟩
  simp [-isY, hy]
  refine ⟨by omega, by omega, h8 _ (seq_hide fun N9 h9 => ?_)⟩
  simp [-isY, hy]
  refine ⟨by omega, by omega, h9 _ ?_⟩
  simp
  exact hR2 _ rfl
end Fx
end
section
set_option linter.all false
set_option maxRecDepth 100000
set_option maxHeartbeats 1000000
set_option exponentiation.threshold 20000
namespace Fx
open PySem PySem.Spec PyProof.Rows L2 SX
set_option Elab.async false
/-! whether errors keep a value -/
def bools (c : Nat) : List Bool := (List.range 25).map fun j => decide (c = j + 1)
theorem marks_b (c : Nat) : marks c = (bools c).map D.bl := by
  unfold marks bools
  rw [List.map_map]
  rfl
theorem toPyL_b : ∀ bs : List Bool, toPyL (bs.map D.bl) = some (bs.map PyData.bool)
  | [] => rfl
  | b :: bs => by
    show (match toPy (.bl b), toPyL (bs.map D.bl) with | some x, some l => some (x :: l) | _, _ => none) = _
    rw [toPyL_b bs]
    rfl
theorem toPy_m (c : Nat) : toPy (.lst (marks c)) = some (.list ((bools c).map PyData.bool)) := by
  rw [marks_b]
  show (match toPyL ((bools c).map D.bl) with | some l => some (PyData.list l) | none => none) = _
  rw [toPyL_b]
theorem mk_shaped : ∀ c : Fin 26, SeqAt.shaped (.list ((bools c.val).map PyData.bool)) = true ∧ PyData.eqv (.list ((bools c.val).map PyData.bool)) (.list ((bools c.val).map PyData.bool)) = true := by decide +kernel
theorem flL_b : ∀ bs : List Bool, flL (bs.map D.bl) = some (bs.map V.bl)
  | [] => rfl
  | b :: bs => by
    show (match flD (.bl b), flL (bs.map D.bl) with | some x, some l => some (x :: l) | _, _ => none) = _
    rw [flL_b bs]
    rfl
theorem at_comp (a0 a2 a3 : Slot) (i : Nat) (K : Opd → Lo → Prop) : ∀ (m lo : Nat) (acc : List D) (s4 : Slot), isPar (some s4) = false → acc.length + m ≤ 1000 →
    (∀ s4' : Slot, isPar (some s4') = false → K (.new (.lst (acc ++ (List.range' lo m).map fun j => D.bl (decide ((i : Nat) + 1 = j + 1))))) [a0, .imm (.int i), a2, a3, s4']) →
    lcGo (gNm 4) tYs (tBin gEq (tVar 4) (tVar 1)) [4] K (rngD lo m) acc [a0, .imm (.int i), a2, a3, s4]
  | 0, lo, acc, s4, h4, _, h => by
    simp [rngD]
    simpa using h s4 h4
  | m + 1, lo, acc, s4, h4, ha, h => by
    have sz : sizeLine = 16777216 := sizeLine_eq
    have er : rngD (lo : Int) (m + 1) = .int lo :: rngD ((lo + 1 : Nat) : Int) m := by
      show D.int lo :: rngD ((lo : Int) + 1) m = _
      push_cast
      rfl
    have ed : decide ((lo : Int) = (i : Int)) = decide (i + 1 = lo + 1) := by
      by_cases z : lo = i
      · subst z; simp
      · have z1 : ¬ (lo : Int) = (i : Int) := by omega
        have z2 : ¬ i + 1 = lo + 1 := by omega
        rw [decide_eq_false z1, decide_eq_false z2]
    have ih := at_comp a0 a2 a3 i K m (lo + 1) (acc ++ [.bl (decide (i + 1 = lo + 1))]) .no rfl (by simp; omega) fun s4' q => by
      rw [List.append_assoc]
      exact h s4' q
    rw [er]
    generalize rngD ((lo + 1 : Nat) : Int) m = rest at ih ⊢
    simp [-lcGo, lcGo.eq_2]
    rw [ed]
    exact ⟨by omega, ih⟩
def keptR : RS := sSeq (sIf (tOr (tTst (tBin gNe (tCallD S_marked wN (tQF (tVar 2) (tQNil))) (tLc (iR1 (tC (.int 25))) (gNm 4) (tYs) (tBin gEq (tVar 4) (tVar 1)) [4]))) (tTst (tBin gNe (tCal (g1 wReprX) (tOCons (tVal 0 26 (tVar 2)) (tONil))) (tCal (g1 wReprX) (tOCons (tVar 0) (tONil)))))) (sRet (tC (.bl false))) (sNext)) (sIf (tOr (tNot (tTst (tCal (isI (isY 26 (fun c => true) false) (.cls 0)) (tOCons (tVar 2) (tOCons (tC (.cls 0)) tONil))))) (tNot (tTst (tCal (isI (isY 26 (fun _ => true) true) (.ty "ValueError")) (tOCons (tVar 2) (tOCons (tC (.ty "ValueError")) tONil)))))) (sRet (tC (.bl false))) (sNext))
theorem kept_loop (v : D) (p : PyData) (hp : RepOk v p) (s3 : Slot) (D0 : En) : ∀ (m i : Nat) (s1 s2 s4 : Slot), isPar (some s1) = false → isPar (some s2) = false → isPar (some s4) = false → i + m ≤ 25 → (∀ s1' s2' s4' : Slot, D0.nx [.imm v, s1', s2', s3, s4']) →
    forGo (gUn [1, 2]) keptR D0 (enuD i ((List.range' (i + 1) m).map (exD v))) [.imm v, s1, s2, s3, s4]
  | 0, i, s1, s2, s4, _, _, _, _, h => h s1 s2 s4
  | m + 1, i, s1, s2, s4, h1, h2, h4, hi, h => by
    have sz : sizeLine = 16777216 := sizeLine_eq
    have ih := kept_loop v p hp s3 D0 m (i + 1)
    have er : enuD i ((List.range' (i + 1) (m + 1)).map (exD v)) = .tup [.int i, exD v (i + 1)] :: enuD (i + 1) ((List.range' (i + 1 + 1) m).map (exD v)) := rfl
    rw [er]
    have as12 : asgs [.imm v, s1, s2, s3, s4] [1, 2] [.int i, exD v (i + 1)] = some [.imm v, .imm (.int i), .imm (exD v (i + 1)), s3, s4] := by
      cases s1 with
      | par _ _ => cases h1
      | _ =>
        cases s2 with
        | par _ _ => cases h2
        | _ => rfl
    show match asgs _ [1, 2] [.int i, exD v (i + 1)] with | some G1 => _ | none => False
    rw [as12]
    dsimp only
    generalize hF : forGo (gUn [1, 2]) keptR D0 (enuD (i + 1) ((List.range' (i + 1 + 1) m).map (exD v))) = Fo at ih ⊢
    unfold keptR
    refine seq_hide fun N hN => if_hide fun M hM => or_hide fun M1 hM1 => ?_
    refine tst_hide fun M2 hM2 => ?_
    simp [-lcGo, exD]
    refine ⟨_, i + 1, rfl, by omega, .inr ⟨v, rfl⟩, ?_⟩
    simp [-lcGo]
    refine at_comp _ _ _ i _ 25 0 [] s4 h4 (by simp) fun s4' q4 => ?_
    have em : ([] ++ (List.range' 0 25).map fun j => D.bl (decide ((i : Nat) + 1 = j + 1))) = marks (i + 1) := rfl
    have tm : toPyL (marks (i + 1)) = some ((bools (i + 1)).map PyData.bool) := by rw [marks_b, toPyL_b]
    obtain ⟨w1, w2⟩ := mk_shaped ⟨i + 1, by omega⟩
    rw [em]
    simp [tm]
    refine ⟨w1, ?_⟩
    rw [w2]
    refine hM2 _ _ (hM1 _ _ ?_)
    clear hM2 hM1
    simp
    refine ⟨by omega, p, hp, p, hp, ?_⟩
    have df : (!decide (p.shown = p.shown)) = false := by simp
    rw [df]
    refine hM _ _ ?_
    clear hM
    simp
    refine hN _ ?_
    clear hN
    simp
    rw [if_pos (by omega)]
    simp
    exact ih _ _ _ rfl rfl q4 (by omega) h
theorem no_true : inV (.bl true) ((bools 0).map V.bl) = false := by decide +kernel
def S_kept : Spec := fun as K _ => ∃ (v : D) (p : PyData), as = [.imm v] ∧ RepOk v p ∧ K (.imm (.bl true)) []
theorem rd_kept : ∀ as Kn Kx, S_kept as Kn Kx → t__law_is_kept S_made S_marked (sRets as Kn) (initG 5 as) := by
  rintro as Kn Kx ⟨v, p, rfl, hp, q⟩
  have sz : sizeLine = 16777216 := sizeLine_eq
  refine ret_hide fun D0 hR _ => ?_
  have hR2 : ∀ s1 s2 s3 s4, D0.rt (.imm (.bl true)) [.imm v, s1, s2, s3, s4] := fun s1 s2 s3 s4 => hR _ _ [] _ rfl rfl q
  clear hR q
  unfold t__law_is_kept
  refine seq_hide fun N hN => ?_
  simp [-forGo]
  refine ⟨v, rfl, ?_⟩
  simp [-forGo]
  refine kept_loop v p hp _ _ 25 0 .no .no .no rfl rfl rfl (by decide) fun s1 s2 s4 => ?_
  refine hN _ (seq_hide fun N2 hN2 => ?_)
  clear hN
  simp
  refine hN2 _ (seq_hide fun N3 hN3 => if_hide fun M hM => or_hide fun M1 hM1 => ?_)
  clear hN2
  have tm : flL (marks 0) = some ((bools 0).map V.bl) := by rw [marks_b, flL_b]
  simp
  refine ⟨p, hp, p, hp, ?_⟩
  have df : (!decide (p.shown = p.shown)) = false := by simp
  rw [df]
  refine hM1 _ _ ?_
  clear hM1
  simp
  refine ⟨_, 0, rfl, by decide, .inr ⟨v, rfl⟩, ?_⟩
  simp [tm]
  rw [no_true]
  simp
  refine hM _ _ ?_
  clear hM
  simp
  refine hN3 _ ?_
  simp
  refine ⟨_, 0, rfl, by decide, .inl ⟨rfl, rfl⟩, ?_⟩
  simp [tm]
  rw [no_true]
  exact hR2 _ _ _ _
end Fx
end
section
set_option linter.all false
set_option maxRecDepth 100000
set_option maxHeartbeats 1000000
set_option exponentiation.threshold 20000
namespace Fx
open PySem PySem.Spec PyProof.Rows L2 SX
set_option Elab.async false
/-! the law -/
theorem log_ok {i : Int} (h : i.natAbs < 1000000000) : i.natAbs.log2 < 1920 := by
  by_cases z : i.natAbs = 0
  · rw [z]; decide
  · have : i.natAbs.log2 < 30 := (Nat.log2_lt z).mpr (Nat.lt_of_lt_of_le h (by decide))
    omega
theorem int_len {i : Int} (h : i.natAbs < 1000000000) : (Str.ofString (toString i)).length ≤ 1921 := int_text_len_1921 (log_ok h)
theorem text_sgn (s : String) : ∀ c ∈ (Str.ofString s).cps.toList, c < 16 ^ 8 := fun c hc => by
  rw [signs_ofString] at hc
  obtain ⟨d, _, rfl⟩ := List.mem_map.mp hc
  exact Nat.lt_of_lt_of_le d.val.toNat_lt (by decide)
theorem rep_int {i : Int} (h : i.natAbs < 1000000000) : RepOk (.int i) (.int i) := by
  have hl := log_ok h
  have sz := int_len h
  refine ⟨rfl, by simp [PyData.showable]; exact hl, rfl, Nat.zero_le _, ?_⟩
  rw [sizeLine_eq]
  show (Str.ofString (toString i)).length ≤ _
  omega
theorem kept_comp (a0 a1 a2 : Slot) (K : Opd → Lo → Prop) : ∀ (vs : List D) (j : Nat) (s3 : Slot), isPar (some s3) = false → (∀ v ∈ vs, ∃ p, RepOk v p) → j + vs.length ≤ 1000 → (∀ s3' : Slot, K (.new (.lst (List.replicate (j + vs.length) (.bl true)))) [a0, a1, a2, s3']) →
    lcGo (gNm 3) tYs (tCallD S_kept wN (tQF (tVar 3) (tQNil))) [3] K vs (List.replicate j (.bl true)) [a0, a1, a2, s3]
  | [], j, s3, _, _, _, h => h s3
  | v :: vs, j, s3, h3, hv, hl, h => by
    have sz : sizeLine = 16777216 := sizeLine_eq
    have hl' : j + (vs.length + 1) ≤ 1000 := hl
    obtain ⟨p, hp⟩ := hv v List.mem_cons_self
    have ih := kept_comp a0 a1 a2 K vs (j + 1) .no rfl (fun w hw => hv w (List.mem_cons_of_mem _ hw)) (by omega) (by rw [show j + 1 + vs.length = j + (vs.length + 1) by omega]; exact h)
    have e : List.replicate j (D.bl true) ++ [D.bl true] = List.replicate (j + 1) (D.bl true) := (List.replicate_succ' ..).symm
    simp [-lcGo, lcGo.eq_2]
    refine ⟨v, p, rfl, hp, ?_⟩
    simp [-lcGo]
    refine ⟨by omega, ?_⟩
    rw [e]
    exact ih
theorem ints_lay : ∀ ns : List Int, PyData.canLayAll0 (ns.map PyData.int) = true ∧ PyData.depthAll (ns.map PyData.int) = 0
  | [] => ⟨rfl, rfl⟩
  | n :: ns => by
    obtain ⟨a, b⟩ := ints_lay ns
    refine ⟨?_, ?_⟩
    · show (PyData.canLay0 (.int n) && PyData.canLayAll0 (ns.map PyData.int)) = true
      rw [a]
      rfl
    · show max (PyData.depth (.int n)) (PyData.depthAll (ns.map PyData.int)) = 0
      rw [b]
      rfl
theorem ints_shaped (ns : List Int) : SeqAt.shaped (.list (ns.map PyData.int)) = true := by
  obtain ⟨a, b⟩ := ints_lay ns
  unfold SeqAt.shaped
  rw [Bool.and_eq_true_iff]
  refine ⟨a, decide_eq_true ?_⟩
  show PyData.depthAll (ns.map PyData.int) + 1 ≤ 64
  rw [b]
  decide
theorem listText_one (t : Str) : (listText [t]).length = t.length + 2 := by
  show ((Str.ofString "[" ++ t) ++ Str.ofString "]").length = _
  rw [len_app, len_app]
  have e1 : (Str.ofString "[").length = 1 := by decide
  have e2 : (Str.ofString "]").length = 1 := by decide
  omega
theorem dep_le {p : PyData} {k : Nat} (h : p.depth = k) (hk : k ≤ 60) : p.depth ≤ 60 := by omega
theorem app_sgn (a b : Str) : (a ++ b).cps.toList = a.cps.toList ++ b.cps.toList := by
  show (a.cps ++ b.cps).toList = _
  simp
theorem dictText_le (ts : List Str) : (dictText ts).length ≤ piled ts + 3 := by
  unfold dictText
  rw [strLen_append, strLen_append]
  have e1 : ((("{" : String) : Str)).length = 1 := rfl
  have e2 : ((("}" : String) : Str)).length = 1 := rfl
  rw [e1, e2]
  by_cases h : ts = []
  · subst h
    have : (Str.join ", " []).length = 0 := rfl
    omega
  · have := join_length_add ts h
    omega
theorem rep_str (s : String) (h : (Str.ofString s).length ≤ 3000) : RepOk (.str (Str.ofString s)) (.str (Str.ofString s)) := by
  refine ⟨rfl, rfl, rfl, Nat.zero_le _, ?_⟩
  have h1 := StrLaws.reprText_len (Str.ofString s) (text_sgn s)
  rw [sizeLine_eq]
  show (reprText (Str.ofString s)).length ≤ _
  omega
theorem vals_ok {i : Int} (i0 : 0 ≤ i) (i1 : i < 1000000000) : ∀ v ∈ [D.non, D.int i, D.int (-i), D.bl true, D.str (Str.ofString "text " ++ Str.ofString (Int.repr i)), D.tup [D.int i, D.str (Str.ofString "a")], D.lst [D.int i], D.dct [(Sum.inr (Str.ofString "a"), D.int i)], D.tup [], D.tup [D.tup [D.int i, D.non], D.lst []]], ∃ p, RepOk v p := by
  have hn : i.natAbs < 1000000000 := by omega
  have hm : (-i).natAbs < 1000000000 := by omega
  have lg := log_ok hn
  have li : (PyData.int i).shown.length ≤ 1921 := int_len hn
  have sz : sizeLine = 16777216 := sizeLine_eq
  have sw : PyData.showable (.int i) = true := decide_eq_true lg
  intro v hv
  simp only [List.mem_cons, List.not_mem_nil, or_false] at hv
  rcases hv with rfl | rfl | rfl | rfl | rfl | rfl | rfl | rfl | rfl | rfl
  · exact ⟨.none, rfl, rfl, rfl, Nat.zero_le _, by rw [sz]; decide +kernel⟩
  · exact ⟨_, rep_int hn⟩
  · exact ⟨_, rep_int hm⟩
  · exact ⟨.bool true, rfl, rfl, rfl, Nat.zero_le _, by rw [sz]; decide +kernel⟩
  · have l2 : (Str.ofString (toString i)).length ≤ 1921 := int_len hn
    refine ⟨.str _, rfl, rfl, rfl, Nat.zero_le _, ?_⟩
    have h1 := StrLaws.reprText_len (Str.ofString "text " ++ Str.ofString (Int.repr i)) fun c hc => by
      rw [app_sgn] at hc
      rcases List.mem_append.mp hc with h | h
      · exact text_sgn _ c h
      · exact text_sgn _ c h
    have h2 : (Str.ofString "text ").length = 5 := by decide
    have l2 : (Str.ofString (Int.repr i)).length ≤ 1921 := l2
    rw [len_app] at h1
    rw [sz]
    show (reprText (Str.ofString "text " ++ Str.ofString (Int.repr i))).length ≤ _
    omega
  · refine ⟨.tuple [.int i, .str (Str.ofString "a")], rfl, by show (PyData.showable (.int i) && (true && true)) = true; rw [sw]; rfl, rfl, dep_le (k := 1) rfl (by decide), ?_⟩
    rw [sz]
    refine Nat.le_trans (shown_tuple _ 1921 fun x hx => ?_) (by simp)
    simp only [List.mem_cons, List.not_mem_nil, or_false] at hx
    rcases hx with rfl | rfl
    · exact li
    · exact (by decide +kernel : (PyData.str (Str.ofString "a")).shown.length ≤ 1921)
  · refine ⟨.list [.int i], rfl, by show (PyData.showable (.int i) && true) = true; rw [sw]; rfl, rfl, dep_le (k := 1) rfl (by decide), ?_⟩
    rw [sz]
    have h1 := listText_one (PyData.int i).shown
    show (listText [(PyData.int i).shown]).length ≤ _
    omega
  · refine ⟨.dict [(.str (Str.ofString "a"), .int i)], rfl, by show (PyData.showable (.str (Str.ofString "a")) && (PyData.showable (.int i) && true)) = true; rw [sw]; rfl, rfl, dep_le (k := 1) rfl (by decide), ?_⟩
    rw [sz]
    have le : ((PyData.str (Str.ofString "a")).shown ++ Str.ofString ": " ++ (PyData.int i).shown).length ≤ 2000 := by
      rw [len_app, len_app]
      have e1 : (PyData.str (Str.ofString "a")).shown.length = 3 := by decide +kernel
      have e2 : (Str.ofString ": ").length = 2 := by decide
      omega
    have h1 := dictText_le [(PyData.str (Str.ofString "a")).shown ++ Str.ofString ": " ++ (PyData.int i).shown]
    have h2 := piled_le 2000 [(PyData.str (Str.ofString "a")).shown ++ Str.ofString ": " ++ (PyData.int i).shown] fun t ht => by rw [List.mem_singleton.mp ht]; exact le
    simp only [List.length_cons, List.length_nil] at h2
    show (dictText [(PyData.str (Str.ofString "a")).shown ++ Str.ofString ": " ++ (PyData.int i).shown]).length ≤ _
    omega
  · exact ⟨.tuple [], rfl, rfl, rfl, by decide, by rw [sz]; decide +kernel⟩
  · refine ⟨.tuple [.tuple [.int i, .none], .list []], rfl, by show ((PyData.showable (.int i) && (true && true)) && (true && true)) = true; rw [sw]; rfl, rfl, dep_le (k := 2) rfl (by decide), ?_⟩
    rw [sz]
    refine Nat.le_trans (shown_tuple _ 5000 fun x hx => ?_) (by simp)
    simp only [List.mem_cons, List.not_mem_nil, or_false] at hx
    rcases hx with rfl | rfl
    · refine Nat.le_trans (shown_tuple _ 1921 fun x hx => ?_) (by simp)
      simp only [List.mem_cons, List.not_mem_nil, or_false] at hx
      rcases hx with rfl | rfl
      · exact li
      · exact (by decide +kernel : (PyData.none).shown.length ≤ 1921)
    · exact (by decide +kernel : (PyData.list []).shown.length ≤ 5000)
theorem cpw9 : CPw 10 9 := ⟨by decide, by decide, Nat.lt_of_lt_of_le (by decide : (10 : Int).natAbs < 2 ^ 4) (Nat.pow_le_pow_right (by decide) (by decide))⟩
def S_law : Spec := fun as K _ => ∃ ns : List Int, as = [.imm (.scr ns)] ∧ ns.length ≤ 63 ∧ K (.imm (.bl true)) []
theorem rd_law : ∀ as Kn Kx, S_law as Kn Kx → t_law S_kept (sRets as Kn) (initG 4 as) := by
  rintro as Kn Kx ⟨ns, rfl, hl, q⟩
  have sz : sizeLine = 16777216 := sizeLine_eq
  refine ret_hide fun D0 hR _ => ?_
  have hR2 : ∀ G, D0.rt (.imm (.bl true)) G := fun G => hR _ G _ _ rfl rfl q
  clear hR q
  unfold t_law
  refine seq_hide fun N hN => ?_
  have go : ∀ i : Int, 0 ≤ i → i < 1000000000 → N [.imm (.scr ns), .imm (.int i), .no, .no] := fun i i0 i1 => by
    refine hN _ (seq_hide fun N2 hN2 => ?_)
    have hn : i.natAbs < 1000000000 := by omega
    have hm : (-i).natAbs < 1000000000 := by omega
    have lg := log_ok hn
    have sz1 := int_len hn
    have z5 : (Str.ofString "text ").length = 5 := by decide
    simp [-lcGo]
    have sz2 : (Str.ofString (Int.repr i)).length ≤ 1921 := sz1
    refine ⟨lg, by omega, by omega, by omega, by omega, by omega, hN2 _ ?_⟩
    clear hN2
    have em : mergeD [] [((Sum.inr (Str.ofString "a") : Key), D.int i)] = [(Sum.inr (Str.ofString "a"), D.int i)] := rfl
    rw [em]
    simp [-lcGo]
    refine kept_comp _ _ _ _ _ 0 .no rfl (vals_ok i0 i1) (by simp) fun s3 => ?_
    simp [all_true]
    exact hR2 _
  clear hN
  cases ns with
  | nil =>
    simp
    refine ⟨rfl, ?_⟩
    rw [if_pos (by rfl)]
    exact ⟨cpw9, go 0 (by decide) (by decide)⟩
  | cons n r =>
    simp
    refine ⟨ints_shaped (n :: r), rfl, ?_⟩
    rw [if_neg (by intro z; cases z)]
    have e : atI (n :: r) 0 = some n := by simp [atI, ixN]
    rw [e]
    have h0 := Int.emod_nonneg n (by decide : (1000000000 : Int) ≠ 0)
    have h1 := Int.emod_lt_of_pos n (by decide : (0 : Int) < 1000000000)
    exact ⟨cpw9, go _ h0 h1⟩
end Fx
end
set_option Elab.async false
set_option linter.all false
set_option maxRecDepth 100000
set_option maxHeartbeats 0
namespace Lk00
open PySem PySem.Spec PyProof.Rows L2 Fx
theorem fcodes {K : PySem.W.Frag} {mg : Str → Option Value} (En : Env K mg) : ∀ a ∈ fal, codeB a K = true := by unfold fal; intro a ha; cases ha
theorem ftabs {K : PySem.W.Frag} : ∀ t ∈ (tab K).tb, ∃ p ∈ fal.map (fun a => (codeAd a K, tabAd a K)), p.2 = t.1 := by show ∀ t ∈ tbl K, _; unfold tbl; simp
theorem iniF {K : PySem.W.Frag} (c : SaysF ex fn K) : IniF PySem.Challenge.pw_flexpats_k00_errors_and_what_they_keep K (He.ga K "FlexError") (He.ma K (He.ga K "FlexError") "__init__") :=
  iniF_ok (c.at_ 4 rfl) rfl (c.fact (ex.length - 1) (by rfl)) (q0 := _) (q1 := _) (q2 := _) (q3 := _) (q4 := _) (q5 := _) (q6 := _) (q7 := _) (q8 := _) (q9 := _) rfl rfl rfl
    (fun _ _ _ _ _ _ _ _ _ us hl hd => by subst hd; match us, hl with | [_, _], _ => rfl) ⟨by rfl, by rfl, by rfl, by decide +kernel, by decide +kernel, by decide +kernel, by decide +kernel, by decide +kernel, by decide +kernel⟩ fun env => ⟨_, rfl⟩
theorem chain {P : Program} {w : World} {K : PySem.W.Frag} {mg : Str → Option Value} (En : Env K mg) (c : SaysF ex fn K) (IF : IniF P K (He.ga K "FlexError") (He.ma K (He.ga K "FlexError") "__init__")) : ∃ fd : FuncData, FnP K "law" "law" (top 31) (He.ga K "law") fd ∧ ∀ base : Heap, (∀ p ∈ fal.map (fun a => (codeAd a K, tabAd a K)), LamX.TabB base mg p.1 p.2) → FnGO P w K mg base (L2N.CX P w) 6 (He.ga K "law") fd ["_law_script"] (spOf (tab K) S_law) := by
  obtain ⟨fd0, D0⟩ := c.def_ 0 rfl
  obtain ⟨fd1, D1⟩ := c.def_ 1 rfl
  obtain ⟨fd2, D2⟩ := c.def_ 2 rfl
  obtain ⟨fd3, D3⟩ := c.def_ 3 rfl
  refine ⟨fd3, D3, fun base TB => ?_⟩
  have O0 : FnGO P w K mg base (L2N.CX P w) 2 (He.ga K "_law_made") fd0 ["_law_value"] (spOf (tab K) S_made) := ok__law_made (k := 0) En (IF := IF) D0 S_made (by rintro as Kn Kx ⟨_, rfl, _⟩; rfl) rd_made
  have G0 : FnG P w K mg base (L2N.CX P w) 2 (He.ga K "_law_made") (spOf (tab K) S_made) := FnGO.pos O0 (b__law_made D0)
  have O1 : FnGO P w K mg base (L2N.CX P w) 2 (He.ga K "_law_marked") fd1 ["_law_error"] (spOf (tab K) S_marked) := ok__law_marked (k := 0) En D1 S_marked (by rintro as Kn Kx ⟨_, _, rfl, _⟩; rfl) rd_marked
  have G1 : FnG P w K mg base (L2N.CX P w) 2 (He.ga K "_law_marked") (spOf (tab K) S_marked) := FnGO.pos O1 (b__law_marked D1)
  have O2 : FnGO P w K mg base (L2N.CX P w) 4 (He.ga K "_law_is_kept") fd2 ["_law_value"] (spOf (tab K) S_kept) := ok__law_is_kept (k := 2) En (IF := IF) (F__law_made := (G0.mono (by decide))) (F__law_marked := (G1.mono (by decide))) D2 S_kept (by rintro as Kn Kx ⟨_, _, rfl, _⟩; rfl) rd_kept
  have G2 : FnG P w K mg base (L2N.CX P w) 4 (He.ga K "_law_is_kept") (spOf (tab K) S_kept) := FnGO.pos O2 (b__law_is_kept D2)
  have O3 : FnGO P w K mg base (L2N.CX P w) 6 (He.ga K "law") fd3 ["_law_script"] (spOf (tab K) S_law) := ok_law (k := 4) En (F__law_is_kept := (G2.mono (by decide))) D3 S_law (by rintro as Kn Kx ⟨_, rfl, _⟩; rfl) rd_law
  have G3 : FnG P w K mg base (L2N.CX P w) 6 (He.ga K "law") (spOf (tab K) S_law) := FnGO.pos O3 (b_law D3)
  exact O3
end Lk00
open PySem PySem.W PySem.Calls PyProof.Rows
theorem PySem.Challenge.cw_flexpats_k00_errors_and_what_they_keep_holds : PySem.Challenge.rw_flexpats_k00_errors_and_what_they_keep.Holds := by
  w_on; o_law
  refine HandSHeadRun.head_any (r := OpenLaw.row PySem.Challenge.rw_flexpats_k00_errors_and_what_they_keep) (q := view (OpenLaw.row PySem.Challenge.rw_flexpats_k00_errors_and_what_they_keep).prog [31]) (H := Lk00.hk) (ob := Lk00.ob) (M := 20000) (loose := Lk00.l1 ++ Lk00.l2) (d := HandSHeadRun.topDef (OpenLaw.row PySem.Challenge.rw_flexpats_k00_errors_and_what_they_keep).prog 31) (kwd := []) Lk00.ob_eq
    (by kernel_rfl) (fun s => by kernel_rfl) Lk00.run (by kernel_rfl) (by kernel_rfl) (by kernel_rfl) (by rfl) (by first | assumption | decide +kernel) (by decide +kernel) ⟨rfl, rfl, rfl, rfl, rfl, by decide +kernel⟩ ?hw ?hc
  case hw => w_witness2
  case hc =>
    refine Fx.walk_ofT (l := PySem.Challenge.rw_flexpats_k00_errors_and_what_they_keep) (n := 63) (k := 6) (x := "_law_script") rfl (by decide) (by kernel_rfl) ⟨rfl, by decide, by decide⟩ ?F
    intro w mg fa h Y G hmg0
    obtain ⟨K, KX, c, ct⟩ := Y
    have hmg : mg ("law" : PySem.Str) = some (.ref fa) := by
      have e : (HandSHeadRun.topDef (OpenLaw.row PySem.Challenge.rw_flexpats_k00_errors_and_what_they_keep).prog 31).name = ("law" : PySem.Str) := by kernel_rfl
      rw [← e]
      exact hmg0
    have En := Lk00.env KX G c
    obtain ⟨fd, D, hF⟩ := Lk00.chain (P := (PySem.Challenge.rw_flexpats_k00_errors_and_what_they_keep).prog) (w := w) En c (Lk00.iniF c)
    have e := hmg.symm.trans En.f_law
    cases e
    have b := L2.FunD.bindsA (ps := ["_law_script"]) D fun _ _ _ _ _ _ us hl => match us, hl with | [_], _ => rfl
    exact ⟨Lk00.tab K, Lk00.fal.map fun a => (Fx.codeAd a K, Fx.tabAd a K), fd, _, KX, Fx.tabsIn_of KX (Lk00.fcodes En) (fun a ha => ct _ (List.mem_map_of_mem ha)), Lk00.ftabs, fun s v => b s [v] rfl, fun ns hl _ Kn k => ⟨ns, rfl, hl, k⟩, fun base _ _ TB => hF base TB⟩
